import PyProof.Rows.All
import Wide.All
import OpenK.AllK
import Wide.FinOn
import HandS.ForMost
import HandS.Codes
import HandS.IsInst
import HandS.Deep
import HandS.Style
import HandS.Wide
import HandS.TupAny
import HandS.Nested
import HandS.ExcInit
import HandS.ExcField
import HandS.TryOnly
import HandS.WordsExc
import KE.KExcSuper
import HandS.ExcIs
import HandS.Flow
import PySem.Challenge.RW_gatework_k03_nets_in_lanes
set_option Elab.async false
set_option linter.all false
set_option maxRecDepth 100000
set_option maxHeartbeats 8000000
/-! ## general lemmas about the abstract heap and data (my own) -/
namespace G
open PySem L2

theorem same_new {H : Hp} {p : Addr} {o : HO} (h : H p = none) : Same H (upd H p o) := fun b u e => by
  rw [upd_ne (ne_of_none e h)]
  exact e
theorem same_mut {H H' : Hp} {p : Addr} {o : HO} (e : Same H H') (h : H p = none) : Same H (upd H' p o) := fun a u ha => by
  rw [upd_ne (ne_of_none ha h)]
  exact e a u ha
/-- all but what stands at a is as it was -/
def But (a : Addr) (H H' : Hp) : Prop := ∀ b o, b ≠ a → H b = some o → H' b = some o
theorem But.refl (a : Addr) (H : Hp) : But a H H := fun _ _ _ h => h
theorem But.trans {a : Addr} {H H1 H2 : Hp} (x : But a H H1) (y : But a H1 H2) : But a H H2 := fun b o n h => y b o n (x b o n h)
theorem But.of {a : Addr} {H H' : Hp} (x : Same H H') : But a H H' := fun b o _ h => x b o h
theorem but_upd {H : Hp} {p : Addr} {o : HO} : But p H (upd H p o) := fun b u n e => by
  rw [upd_ne n]
  exact e
theorem upd_self {H : Hp} {a : Addr} {o : HO} (h : H a = some o) : upd H a o = H := by
  funext b
  unfold upd
  split
  · rename_i e
    rw [e, h]
  · rfl
theorem Same.tup {K : PySem.W.Frag} {H H' : Hp} {a : Addr} {xs : List V} (e : Same H H') (h : SqT K H a xs) : SqT K H' a xs := by
  rcases h with (h | ⟨o, h⟩) | h
  · exact .inl (.inl (e _ _ h))
  · exact .inl (.inr ⟨o, e _ _ h⟩)
  · exact .inr h
theorem SqT.of' {K : PySem.W.Frag} {H : Hp} {a : Addr} {xs : List V} (h : H a = some (.tup xs)) : SqT K H a xs := .inl (.inl h)
theorem SqL.of' {K : PySem.W.Frag} {H : Hp} {a : Addr} {xs : List V} (h : H a = some (.lst xs)) : SqL K H a xs := .inl (.inl h)

mutual
theorem dp_same {K : PySem.W.Frag} {H H' : Hp} (e : Same H H') : ∀ {v : V} {d : PyData}, Dp K H v d → Dp K H' v d
  | _, _, .non => .non
  | _, _, .bl b => .bl b
  | _, _, .int i => .int i
  | _, _, .str x => .str x
  | _, _, .lst h a => .lst (Same.seq e h) (dps_same e a)
  | _, _, .tup h a => .tup (Same.tup e h) (dps_same e a)
theorem dps_same {K : PySem.W.Frag} {H H' : Hp} (e : Same H H') : ∀ {v : List V} {d : List PyData}, DpAll K H v d → DpAll K H' v d
  | _, _, .nil => .nil
  | _, _, .cons h t => .cons (dp_same e h) (dps_same e t)
end
theorem dp_int {K : PySem.W.Frag} {H : Hp} {v : V} {i : Int} (h : Dp K H v (.int i)) : v = .int i := by cases h; rfl
theorem dp_str {K : PySem.W.Frag} {H : Hp} {v : V} {i : Str} (h : Dp K H v (.str i)) : v = .str i := by cases h; rfl
theorem dp_bl {K : PySem.W.Frag} {H : Hp} {v : V} {i : Bool} (h : Dp K H v (.bool i)) : v = .bl i := by cases h; rfl
theorem dp_non {K : PySem.W.Frag} {H : Hp} {v : V} (h : Dp K H v .none) : v = .non := by cases h; rfl
theorem dp_lst {K : PySem.W.Frag} {H : Hp} {v : V} {ds : List PyData} (h : Dp K H v (.list ds)) : ∃ a xs, v = .ref a ∧ SqL K H a xs ∧ DpAll K H xs ds := by
  cases h with
  | lst h a => exact ⟨_, _, rfl, h, a⟩
theorem dp_tup {K : PySem.W.Frag} {H : Hp} {v : V} {ds : List PyData} (h : Dp K H v (.tuple ds)) : ∃ a xs, v = .ref a ∧ SqT K H a xs ∧ DpAll K H xs ds := by
  cases h with
  | tup h a => exact ⟨_, _, rfl, h, a⟩
theorem dps_len {K : PySem.W.Frag} {H : Hp} : ∀ {vs : List V} {ds : List PyData}, DpAll K H vs ds → vs.length = ds.length
  | _, _, .nil => rfl
  | _, _, .cons _ t => congrArg (· + 1) (dps_len t)
theorem dps_get {K : PySem.W.Frag} {H : Hp} : ∀ {vs : List V} {ds : List PyData} {i : Nat} {d : PyData}, DpAll K H vs ds → ds[i]? = some d → ∃ v, vs[i]? = some v ∧ Dp K H v d
  | _, _, i, d, .nil, e => by simp at e
  | _, _, 0, d, .cons h t, e => by
    simp at e
    subst e
    exact ⟨_, rfl, h⟩
  | _, _, i + 1, d, .cons h t, e => by
    obtain ⟨v, h1, h2⟩ := dps_get (i := i) (d := d) t (by simpa using e)
    exact ⟨v, by simpa using h1, h2⟩
theorem dps_getv {K : PySem.W.Frag} {H : Hp} : ∀ {vs : List V} {ds : List PyData} {i : Nat} {v : V}, DpAll K H vs ds → vs[i]? = some v → ∃ d, ds[i]? = some d ∧ Dp K H v d
  | _, _, i, d, .nil, e => by simp at e
  | _, _, 0, d, .cons h t, e => by
    simp at e
    subst e
    exact ⟨_, rfl, h⟩
  | _, _, i + 1, d, .cons h t, e => by
    obtain ⟨v, h1, h2⟩ := dps_getv (i := i) (v := d) t (by simpa using e)
    exact ⟨v, by simpa using h1, h2⟩
theorem dps_app {K : PySem.W.Frag} {H : Hp} : ∀ {vs ws : List V} {ds es : List PyData}, DpAll K H vs ds → DpAll K H ws es → DpAll K H (vs ++ ws) (ds ++ es)
  | _, _, _, _, .nil, t => t
  | _, _, _, _, .cons h r, t => .cons h (dps_app r t)
theorem dps_snoc {K : PySem.W.Frag} {H : Hp} {vs : List V} {w : V} {ds : List PyData} {e : PyData} (h : DpAll K H vs ds) (t : Dp K H w e) : DpAll K H (vs ++ [w]) (ds ++ [e]) := dps_app h (.cons t .nil)
theorem dps_take {K : PySem.W.Frag} {H : Hp} : ∀ {vs : List V} {ds : List PyData} (n : Nat), DpAll K H vs ds → DpAll K H (vs.take n) (ds.take n)
  | _, _, 0, _ => by simpa using .nil
  | _, _, _ + 1, .nil => .nil
  | _, _, n + 1, .cons h t => .cons h (dps_take n t)
theorem dps_drop {K : PySem.W.Frag} {H : Hp} : ∀ {vs : List V} {ds : List PyData} (n : Nat), DpAll K H vs ds → DpAll K H (vs.drop n) (ds.drop n)
  | _, _, 0, h => h
  | _, _, _ + 1, .nil => .nil
  | _, _, n + 1, .cons h t => dps_drop n t
theorem dps_rev {K : PySem.W.Frag} {H : Hp} : ∀ {vs : List V} {ds : List PyData}, DpAll K H vs ds → DpAll K H vs.reverse ds.reverse
  | _, _, .nil => .nil
  | _, _, .cons h t => by
    rw [List.reverse_cons, List.reverse_cons]
    exact dps_snoc (dps_rev t) h
theorem dps_set {K : PySem.W.Frag} {H : Hp} {v : V} {d : PyData} (hd : Dp K H v d) : ∀ {vs : List V} {ds : List PyData} (n : Nat), DpAll K H vs ds → DpAll K H (vs.set n v) (ds.set n d)
  | _, _, _, .nil => .nil
  | _, _, 0, .cons _ t => .cons hd t
  | _, _, n + 1, .cons h t => .cons h (dps_set hd n t)
theorem dps_ints {K : PySem.W.Frag} {H : Hp} : ∀ (ns : List Int), DpAll K H (ns.map V.int) (ns.map PyData.int)
  | [] => .nil
  | n :: r => .cons (.int n) (dps_ints r)
theorem dps_ints_of {K : PySem.W.Frag} {H : Hp} : ∀ {ns : List Int} {vs : List V}, DpAll K H vs (ns.map PyData.int) → vs = ns.map V.int
  | [], _, .nil => rfl
  | n :: r, _, .cons h t => by
    cases dp_int h
    rw [dps_ints_of t]
    rfl
/-- the name of a datum's type -/
def tyD : PyData → String
  | .none => "NoneType"
  | .bool _ => "bool"
  | .int _ => "int"
  | .str _ => "str"
  | .list _ => "list"
  | .tuple _ => "tuple"
  | .dict _ => "dict"
theorem dp_ty {K : PySem.W.Frag} {H : Hp} {v : V} {d : PyData} (h : Dp K H v d) : TyX K H v (.type (tyD d)) := by
  cases h with
  | non => exact .base .non
  | bl b => exact .base (.bl b)
  | int i => exact .base (.int i)
  | str x => exact .base (.str x)
  | lst h a =>
    rcases h with (h | ⟨o, h⟩) | ⟨o, _, _, h1, h2, _⟩
    · exact .base (.lst h)
    · exact .base (.frz h)
    · exact .kList h1 h2
  | tup h a =>
    rcases h with (h | ⟨o, h⟩) | ⟨o, _, _, h1, h2, _⟩
    · exact .base (.tup h)
    · exact .fTuple h
    · exact .kTuple h1 h2
/-- isinstance(x, T) of data: the answers -/
def isT (t T : String) : Bool := decide (t = T) || (decide (t = "bool") && decide (T = "int"))
def isD (T : String) (d : PyData) : Bool := isT (tyD d) T
theorem kit_tab : ∀ t ∈ ["NoneType", "bool", "int", "str", "list", "tuple", "dict"], ∀ T ∈ ["int", "bool", "str", "list", "tuple", "dict"], kitB t T = some (isT t T) := by decide +kernel
theorem tyD_mem (d : PyData) : tyD d ∈ ["NoneType", "bool", "int", "str", "list", "tuple", "dict"] := by cases d <;> simp [tyD]
theorem kitD (K : PySem.W.Frag) (d : PyData) (T : String) (hT : T ∈ ["int", "bool", "str", "list", "tuple", "dict"]) : PySem.W.kitOne K (.type (tyD d)) (.type T) = some (isD T d) :=
  kit_ty (kit_tab _ (tyD_mem d) T hT)
theorem kitD2 (K : PySem.W.Frag) (d : PyData) (S T : String) (hS : S ∈ ["int", "bool", "str", "list", "tuple", "dict"]) (hT : T ∈ ["int", "bool", "str", "list", "tuple", "dict"]) :
    PySem.W.kitAny K (.type (tyD d)) [.type S, .type T] = some (isD S d || isD T d) := by
  refine kitAny_cons (kitD K d S hS) (fun h => ?_) (fun h => by rw [h]; rfl)
  rw [h]
  refine kitAny_cons (kitD K d T hT) (fun h => ?_) (fun h => by rw [h]; rfl)
  rw [h]
  rfl
theorem clsv2 (S T : String) : Paired ClsV [V.ty S, V.ty T] [Value.type S, Value.type T] := .cons (.ty S) (.cons (.ty T) .nil)
/-- items of a list, a tuple by a number that is not below 0 -/
theorem at_nat {xs : List V} {i : Nat} {v : V} (h : xs[i]? = some v) : atI xs (i : Int) = some v := atI_nat h
/-- only a deck is known: some ints, not many -/
def Deck (H : Hp) (a : Addr) : Prop := ∃ ds : List Int, ds.length ≤ 2000 ∧ H a = some (.lst (ds.map V.int))
theorem Deck.same {H H' : Hp} {a : Addr} (h : Deck H a) (e : Same H H') : Deck H' a := let ⟨ds, h1, h2⟩ := h; ⟨ds, h1, e _ _ h2⟩

/-! ### the frame: what a call does not see stands as it was -/
/-- without the lists of S -/
def out (H : Hp) (S : Addr → Bool) : Hp := fun b => if S b = true then none else H b
/-- the lists of S put back -/
def back (H H' : Hp) (S : Addr → Bool) : Hp := fun b => if S b = true then H b else H' b
theorem out_in {H : Hp} {S : Addr → Bool} {b : Addr} (h : S b = true) : out H S b = none := by unfold out; rw [if_pos h]
theorem out_ne {H : Hp} {S : Addr → Bool} {b : Addr} (h : ¬ S b = true) : out H S b = H b := by unfold out; rw [if_neg h]
theorem back_in {H H' : Hp} {S : Addr → Bool} {b : Addr} (h : S b = true) : back H H' S b = H b := by unfold back; rw [if_pos h]
theorem back_ne {H H' : Hp} {S : Addr → Bool} {b : Addr} (h : ¬ S b = true) : back H H' S b = H' b := by unfold back; rw [if_neg h]
/-- a promise that may be used over a part of the heap -/
@[irreducible] def fr (sp : Sp) : Sp := fun vs H Q E => ∃ S : Addr → Bool, (∀ b, S b = true → ∃ xs, H b = some (.lst xs)) ∧ sp vs (out H S) (fun v H' => (∀ b, S b = true → H' b = none) → Q v (back H H' S)) E
theorem fn_fr {P : Program} {w : World} {K : PySem.W.Frag} {mg : Str → Option Value} {base : Heap} {k : Nat} {f : Addr} {fd : FuncData} {ps : List Str} {sp : Sp} (F : FnOk P w K mg base CX0 k f fd ps sp) : FnOk P w K mg base CX0 k f fd ps (fr sp) := by
  refine ⟨fun vs H Q E hs => by unfold fr at hs; obtain ⟨S, _, h⟩ := hs; exact F.len _ _ _ _ h, fun A outer s H args us vs Q E hr e0 hb hv hs => ?_⟩
  unfold fr at hs
  obtain ⟨S, hS, h⟩ := hs
  have hne : ∀ b, H b = none → ¬ S b = true := fun b n q => by
    obtain ⟨xs, e⟩ := hS b q
    rw [n] at e
    cases e
  have hout : ∀ b, H b = none → out H S b = none := fun b n => by rw [out_ne (hne b n)]; exact n
  have hoth : ∀ b o, H b = some o → (∀ xs, o ≠ .lst xs) → ¬ S b = true := fun b o e n q => by
    obtain ⟨xs, e'⟩ := hS b q
    rw [e] at e'
    exact n xs (Option.some.inj e')
  have okout : HOk P w (out H S) s.heap := fun a o e => by
    have ns : ¬ S a = true := fun q => by rw [out_in q] at e; cases e
    rw [out_ne ns] at e
    refine (e0.hok a o e).stay (fun b u _ q => q) (fun b q => ?_) (fun b xs q => ?_)
    · rw [out_ne (hoth b _ q fun xs z => by cases z)]; exact q
    · rw [out_ne (hoth b _ q fun xs z => by cases z)]; exact q
  have e1 : Env0 P w K mg base A outer s (out H S) := ⟨e0.frames, e0.mod, fun b o q => ⟨(e0.bs b o q).1, hout b (e0.bs b o q).2⟩, e0.bsz, e0.funs, fun b q => hout b (e0.frf b q), okout, e0.bare⟩
  refine codeAny_mono (F.run A outer s (out H S) args us vs _ E hr e1 hb hv h) fun r s' q => ?_
  cases r with
  | error e => exact q
  | ok fl =>
    cases fl with
    | next => exact q
    | brk => exact q
    | cont => exact q
    | ret u =>
      obtain ⟨v, H', os, bare, un, hok, rv, q⟩ := q
      have hobj : ∀ b, S b = true → ∃ o, s.heap.get? b = some o := fun b q => by
        obtain ⟨xs, e⟩ := hS b q
        obtain ⟨_, its, n, _, e'⟩ := e0.hok b _ e
        exact ⟨_, e'⟩
      have hfree : ∀ b, S b = true → H' b = none := fun b q => by
        obtain ⟨o, e⟩ := hobj b q
        exact un.free b o e (out_in q) (by simp)
      have hkeep : ∀ b o, S b = true → s.heap.get? b = some o → s'.heap.get? b = some o := fun b o q e => by
        obtain ⟨xs, e'⟩ := hS b q
        exact un.keep b o e (out_in q) (fun z => by rw [e0.frf b z] at e'; cases e') (by simp)
      refine ⟨v, back H H' S, os, bare, ⟨fun b o e n hb hx => un.keep b o e (hout b n) hb hx, fun b o e n hb hx => un.slot b o e (hout b n) hb hx, fun b o e n hx => ?_, un.there, fun b xs e => ?_, fun b o u e => ?_, fun b ps e => ?_⟩, fun a o e => ?_, rv, q hfree⟩
      · rw [back_ne (hne b n)]
        exact un.free b o e (hout b n) hx
      · have ns := hoth b _ e fun xs z => by cases z
        rw [back_ne ns]
        exact un.tups b xs (by rw [out_ne ns]; exact e)
      · have ns := hoth b _ e fun xs z => by cases z
        rw [back_ne ns]
        exact un.frzs b o u (by rw [out_ne ns]; exact e)
      · have ns := hoth b _ e fun xs z => by cases z
        rw [back_ne ns]
        exact un.tbls b ps (by rw [out_ne ns]; exact e)
      · by_cases sa : S a = true
        · rw [back_in sa] at e
          obtain ⟨xs, e'⟩ := hS a sa
          rw [e'] at e
          cases e
          obtain ⟨hl, its, n, r, g⟩ := e0.hok a _ e'
          exact ⟨hl, its, n, r, hkeep a _ sa g⟩
        · rw [back_ne sa] at e
          refine (hok a o e).stay (fun b u _ z => z) (fun b z => ?_) (fun b xs z => ?_)
          · rw [back_ne fun sb => by rw [hfree b sb] at z; cases z]; exact z
          · rw [back_ne fun sb => by rw [hfree b sb] at z; cases z]; exact z
/-- one list put aside -/
theorem fr_one {sp : Sp} {vs : List V} {G : Hp} {D : Addr} {acc : List V} {Q : VK} {E : XK} (hD : G D = none) (h : sp vs G (fun v G' => G' D = none → Q v (upd G' D (.lst acc))) E)
    (mono : ∀ (Q1 Q2 : VK), (∀ v G', Q1 v G' → Q2 v G') → sp vs G Q1 E → sp vs G Q2 E) : fr sp vs (upd G D (.lst acc)) Q E := by
  have e : out (upd G D (.lst acc)) (fun b => decide (b = D)) = G := by
    funext b
    unfold out upd
    by_cases hb : b = D
    · rw [if_pos (decide_eq_true hb), hb, hD]
    · rw [if_neg (fun z => hb (of_decide_eq_true z)), if_neg hb]
  unfold fr
  refine ⟨fun b => decide (b = D), fun b hb => ⟨acc, by rw [of_decide_eq_true hb, upd_same]⟩, ?_⟩
  rw [e]
  refine mono _ _ (fun v G' q hn => ?_) h
  have hn' : G' D = none := hn D (decide_eq_true rfl)
  have e2 : back (upd G D (.lst acc)) G' (fun b => decide (b = D)) = upd G' D (.lst acc) := by
    funext b
    unfold back upd
    by_cases hb : b = D
    · rw [if_pos (decide_eq_true hb), if_pos hb, if_pos hb]
    · rw [if_neg (fun z => hb (of_decide_eq_true z)), if_neg hb]
  rw [e2]
  exact q hn'
/-- a comprehension over data, with one test, that changes nothing: its list has the images of those that are kept -/
theorem lc_data {K : PySem.W.Frag} {a : Addr} {xs : List V} {ds : List PyData} {gt : TG} {tt : TT} {te : TE} {vs : List Nat} {σ : St} {H1 : Hp} {D : Addr} {Qd : Hp → Prop} (p : PyData → Bool) (g : PyData → PyData)
    (hx : SqL K H1 a xs) (hd : DpAll K H1 xs ds) (hD : H1 D = none) (hl : ds.length ≤ 100000)
    (hs : ∀ (v : V) (d : PyData) (G : Hp) (acc : List V) (R : Hp → Prop), d ∈ ds → Dp K G v d → Same H1 G → G D = none → acc.length < sizeLine →
      (p d = false → ∀ G', Same G G' → G' D = none → R (upd G' D (.lst acc))) →
      (p d = true → ∀ (G' : Hp) (u : V), Same G G' → G' D = none → Dp K G' u (g d) → R (upd G' D (.lst (acc ++ [u])))) →
      gt v (wipe σ vs) (upd G D (.lst acc)) fun σ2 H2 => wipe σ2 vs = wipe σ vs ∧ tt σ2 H2 fun b H3 =>
        if b = true then te σ2 H3 fun y H4 => ∃ acc, H4 D = some (.lst acc) ∧ acc.length < sizeLine ∧ R (upd H4 D (.lst (acc ++ [y]))) else R H3)
    (hq : ∀ (G : Hp) (ys : List V), Same H1 G → G D = none → DpAll K G ys ((ds.filter p).map g) → Qd (upd G D (.lst ys))) :
    ∃ W : Nat → Nat → Hp → Prop, (∃ m, W 0 m (upd H1 D (.lst []))) ∧ ∀ i m H, W i m H →
      ((Itl K a).stop i H ∧ Qd H) ∨ ((Itl K a).go i H ∧ ∃ Nx : Hp → Prop, (∀ H', Nx H' → ∃ m', m' < m ∧ W (i + 1) m' H') ∧ ∀ x H', (Itl K a).yld i H x H' → gt x (wipe σ vs) H' fun σ2 H2 => wipe σ2 vs = wipe σ vs ∧ tt σ2 H2 fun b H3 =>
        if b = true then te σ2 H3 fun y H4 => ∃ acc, H4 D = some (.lst acc) ∧ acc.length < sizeLine ∧ Nx (upd H4 D (.lst (acc ++ [y]))) else Nx H3) := by
  have hxd := dps_len hd
  refine lc_list (K := K) (a := a) (xs := xs) (fun i H => ∃ (G : Hp) (ys : List V), Same H1 G ∧ G D = none ∧ H = upd G D (.lst ys) ∧ DpAll K G ys (((ds.take i).filter p).map g)) ⟨H1, [], Same.refl _, hD, rfl, .nil⟩ ?_ ?_ ?_
  · rintro i H _ ⟨G, ys, s, hG, rfl, _⟩
    exact (same_new hG).seq (s.seq hx)
  · rintro i x H hi ⟨G, ys, s, hG, rfl, hy⟩
    obtain ⟨d, hdi, dx⟩ := dps_getv hd hi
    have il : i < ds.length := (List.getElem?_eq_some_iff.mp hdi).1
    have dm : d ∈ ds := List.mem_of_getElem? hdi
    have yl : ys.length ≤ i := by
      rw [dps_len hy, List.length_map]
      refine Nat.le_trans (List.length_filter_le _ _) ?_
      rw [List.length_take]
      omega
    have tk : ds.take (i + 1) = ds.take i ++ [d] := by rw [List.take_add_one, hdi]; rfl
    refine hs x d G ys _ dm (dp_same s dx) s hG (Nat.lt_of_lt_of_le (show ys.length < 100001 by omega) (by decide)) (fun pf G' s' hG' => ⟨G', ys, s.trans s', hG', rfl, ?_⟩) (fun pt G' u s' hG' du => ⟨G', _, s.trans s', hG', rfl, ?_⟩)
    · rw [tk, List.filter_append, List.filter_cons, if_neg (by rw [pf]; decide), List.filter_nil, List.append_nil]
      exact dps_same s' hy
    · rw [tk, List.filter_append, List.filter_cons, if_pos pt, List.filter_nil, List.map_append]
      exact dps_snoc (dps_same s' hy) du
  · rintro H ⟨G, ys, s, hG, rfl, hy⟩
    refine hq G ys s hG ?_
    rw [List.take_of_length_le (by omega)] at hy
    exact hy
/-- .. over a tuple -/
theorem lc_dataT {K : PySem.W.Frag} {a : Addr} {xs : List V} {ds : List PyData} {gt : TG} {tt : TT} {te : TE} {vs : List Nat} {σ : St} {H1 : Hp} {D : Addr} {Qd : Hp → Prop} (p : PyData → Bool) (g : PyData → PyData)
    (hx : SqT K H1 a xs) (hd : DpAll K H1 xs ds) (hD : H1 D = none) (hl : ds.length ≤ 100000)
    (hs : ∀ (v : V) (d : PyData) (G : Hp) (acc : List V) (R : Hp → Prop), d ∈ ds → Dp K G v d → Same H1 G → G D = none → acc.length < sizeLine →
      (p d = false → ∀ G', Same G G' → G' D = none → R (upd G' D (.lst acc))) →
      (p d = true → ∀ (G' : Hp) (u : V), Same G G' → G' D = none → Dp K G' u (g d) → R (upd G' D (.lst (acc ++ [u])))) →
      gt v (wipe σ vs) (upd G D (.lst acc)) fun σ2 H2 => wipe σ2 vs = wipe σ vs ∧ tt σ2 H2 fun b H3 =>
        if b = true then te σ2 H3 fun y H4 => ∃ acc, H4 D = some (.lst acc) ∧ acc.length < sizeLine ∧ R (upd H4 D (.lst (acc ++ [y]))) else R H3)
    (hq : ∀ (G : Hp) (ys : List V), Same H1 G → G D = none → DpAll K G ys ((ds.filter p).map g) → Qd (upd G D (.lst ys))) :
    ∃ W : Nat → Nat → Hp → Prop, (∃ m, W 0 m (upd H1 D (.lst []))) ∧ ∀ i m H, W i m H →
      ((Itt K a).stop i H ∧ Qd H) ∨ ((Itt K a).go i H ∧ ∃ Nx : Hp → Prop, (∀ H', Nx H' → ∃ m', m' < m ∧ W (i + 1) m' H') ∧ ∀ x H', (Itt K a).yld i H x H' → gt x (wipe σ vs) H' fun σ2 H2 => wipe σ2 vs = wipe σ vs ∧ tt σ2 H2 fun b H3 =>
        if b = true then te σ2 H3 fun y H4 => ∃ acc, H4 D = some (.lst acc) ∧ acc.length < sizeLine ∧ Nx (upd H4 D (.lst (acc ++ [y]))) else Nx H3) := by
  have hxd := dps_len hd
  refine lc_tup (K := K) (a := a) (xs := xs) (fun i H => ∃ (G : Hp) (ys : List V), Same H1 G ∧ G D = none ∧ H = upd G D (.lst ys) ∧ DpAll K G ys (((ds.take i).filter p).map g)) ⟨H1, [], Same.refl _, hD, rfl, .nil⟩ ?_ ?_ ?_
  · rintro i H _ ⟨G, ys, s, hG, rfl, _⟩
    exact Same.tup (same_new hG) (Same.tup s hx)
  · rintro i x H hi ⟨G, ys, s, hG, rfl, hy⟩
    obtain ⟨d, hdi, dx⟩ := dps_getv hd hi
    have il : i < ds.length := (List.getElem?_eq_some_iff.mp hdi).1
    have dm : d ∈ ds := List.mem_of_getElem? hdi
    have yl : ys.length ≤ i := by
      rw [dps_len hy, List.length_map]
      refine Nat.le_trans (List.length_filter_le _ _) ?_
      rw [List.length_take]
      omega
    have tk : ds.take (i + 1) = ds.take i ++ [d] := by rw [List.take_add_one, hdi]; rfl
    refine hs x d G ys _ dm (dp_same s dx) s hG (Nat.lt_of_lt_of_le (show ys.length < 100001 by omega) (by decide)) (fun pf G' s' hG' => ⟨G', ys, s.trans s', hG', rfl, ?_⟩) (fun pt G' u s' hG' du => ⟨G', _, s.trans s', hG', rfl, ?_⟩)
    · rw [tk, List.filter_append, List.filter_cons, if_neg (by rw [pf]; decide), List.filter_nil, List.append_nil]
      exact dps_same s' hy
    · rw [tk, List.filter_append, List.filter_cons, if_pos pt, List.filter_nil, List.map_append]
      exact dps_snoc (dps_same s' hy) du
  · rintro H ⟨G, ys, s, hG, rfl, hy⟩
    refine hq G ys s hG ?_
    rw [List.take_of_length_le (by omega)] at hy
    exact hy
/-- x is True, x is not True: x any flat value but a number, a text -/
def rIsX (neg : Bool) : R2 := fun x y H Q => ∃ b : Bool, y = .bl b ∧ (x = .non ∨ (∃ a : Bool, x = .bl a) ∨ (∃ i : Int, x = .int i) ∨ ∃ z : Str, x = .str z) ∧ Q (.bl (if neg = true then !decide (x = .bl b) else decide (x = .bl b))) H
section
variable {X : Cx}
theorem op_isX : OpR X (compareOp .Is) (rIsX false) := by
  intro pins s σ H x y v u Q I rx ry h
  obtain ⟨b, rfl, hx, q⟩ := h
  cases (show u = Value.bool b from ry)
  rcases hx with rfl | ⟨a, rfl⟩ | ⟨i, rfl⟩ | ⟨z, rfl⟩
  · cases (show v = Value.none from rx)
    exact PySem.wpAny_is_other rfl (fun z => nomatch z) ⟨.bl false, H, I, rfl, by simpa using q⟩
  · cases (show v = Value.bool a from rx)
    by_cases e : a = b
    · subst e
      exact PySem.wpAny_is_self rfl ⟨.bl true, H, I, rfl, by simpa using q⟩
    · exact PySem.wpAny_is_other rfl (fun z => e (Value.bool.inj z)) ⟨.bl false, H, I, rfl, by simpa [e] using q⟩
  · obtain ⟨t, rfl⟩ := (show ∃ t, v = Value.int i t from rx)
    exact PySem.wpAny_is_other rfl (fun z => nomatch z) ⟨.bl false, H, I, rfl, by simpa using q⟩
  · obtain ⟨t, rfl⟩ := (show ∃ t, v = Value.str z t from rx)
    exact PySem.wpAny_is_other rfl (fun z => nomatch z) ⟨.bl false, H, I, rfl, by simpa using q⟩
theorem op_notX : OpR X (compareOp .IsNot) (rIsX true) := by
  intro pins s σ H x y v u Q I rx ry h
  obtain ⟨b, rfl, hx, q⟩ := h
  cases (show u = Value.bool b from ry)
  rcases hx with rfl | ⟨a, rfl⟩ | ⟨i, rfl⟩ | ⟨z, rfl⟩
  · cases (show v = Value.none from rx)
    exact PySem.wpAny_isNot_other rfl (fun z => nomatch z) ⟨.bl true, H, I, rfl, by simpa using q⟩
  · cases (show v = Value.bool a from rx)
    by_cases e : a = b
    · subst e
      exact PySem.wpAny_isNot_self rfl ⟨.bl false, H, I, rfl, by simpa using q⟩
    · exact PySem.wpAny_isNot_other rfl (fun z => e (Value.bool.inj z)) ⟨.bl true, H, I, rfl, by simpa [e] using q⟩
  · obtain ⟨t, rfl⟩ := (show ∃ t, v = Value.int i t from rx)
    exact PySem.wpAny_isNot_other rfl (fun z => nomatch z) ⟨.bl true, H, I, rfl, by simpa using q⟩
  · obtain ⟨t, rfl⟩ := (show ∃ t, v = Value.str z t from rx)
    exact PySem.wpAny_isNot_other rfl (fun z => nomatch z) ⟨.bl true, H, I, rfl, by simpa using q⟩
end
theorem upd_app {G : Hp} {D : Addr} {acc ys : List V} : upd (upd G D (.lst acc)) D (.lst ys) = upd G D (.lst ys) := upd_upd

/-! ### lists whose items stand in a relation to plain things -/
theorem paired_get {α β : Type} {F : α → β → Prop} : ∀ {l₁ : List α} {l₂ : List β} {i : Nat} {b : β}, Paired F l₁ l₂ → l₂[i]? = some b → ∃ a, l₁[i]? = some a ∧ F a b
  | _, _, i, b, .nil, e => by simp at e
  | _, _, 0, b, .cons h t, e => by
    simp at e
    subst e
    exact ⟨_, rfl, h⟩
  | _, _, i + 1, b, .cons h t, e => by
    obtain ⟨v, h1, h2⟩ := paired_get (i := i) (b := b) t (by simpa using e)
    exact ⟨v, by simpa using h1, h2⟩
theorem paired_getv {α β : Type} {F : α → β → Prop} : ∀ {l₁ : List α} {l₂ : List β} {i : Nat} {a : α}, Paired F l₁ l₂ → l₁[i]? = some a → ∃ b, l₂[i]? = some b ∧ F a b
  | _, _, i, b, .nil, e => by simp at e
  | _, _, 0, b, .cons h t, e => by
    simp at e
    subst e
    exact ⟨_, rfl, h⟩
  | _, _, i + 1, b, .cons h t, e => by
    obtain ⟨v, h1, h2⟩ := paired_getv (i := i) (a := b) t (by simpa using e)
    exact ⟨v, by simpa using h1, h2⟩
theorem paired_app {α β : Type} {F : α → β → Prop} : ∀ {l₁ m₁ : List α} {l₂ m₂ : List β}, Paired F l₁ l₂ → Paired F m₁ m₂ → Paired F (l₁ ++ m₁) (l₂ ++ m₂)
  | _, _, _, _, .nil, h => h
  | _, _, _, _, .cons h t, k => .cons h (paired_app t k)
theorem paired_take {α β : Type} {F : α → β → Prop} : ∀ {l₁ : List α} {l₂ : List β} (n : Nat), Paired F l₁ l₂ → Paired F (l₁.take n) (l₂.take n)
  | _, _, 0, _ => by simpa using .nil
  | _, _, _ + 1, .nil => .nil
  | _, _, n + 1, .cons h t => .cons h (paired_take n t)
theorem paired_drop {α β : Type} {F : α → β → Prop} : ∀ {l₁ : List α} {l₂ : List β} (n : Nat), Paired F l₁ l₂ → Paired F (l₁.drop n) (l₂.drop n)
  | _, _, 0, h => h
  | _, _, _ + 1, .nil => .nil
  | _, _, n + 1, .cons h t => paired_drop n t
theorem paired_rev {α β : Type} {F : α → β → Prop} : ∀ {l₁ : List α} {l₂ : List β}, Paired F l₁ l₂ → Paired F l₁.reverse l₂.reverse
  | _, _, .nil => .nil
  | _, _, .cons h t => by
    rw [List.reverse_cons, List.reverse_cons]
    exact Paired.snoc (paired_rev t) h
theorem paired_set {α β : Type} {F : α → β → Prop} {a : α} {b : β} (hd : F a b) : ∀ {l₁ : List α} {l₂ : List β} (n : Nat), Paired F l₁ l₂ → Paired F (l₁.set n a) (l₂.set n b)
  | _, _, _, .nil => .nil
  | _, _, 0, .cons _ t => .cons hd t
  | _, _, n + 1, .cons h t => .cons h (paired_set hd n t)
theorem paired_map {α β γ : Type} {F : α → β → Prop} {F' : α → γ → Prop} {g : β → γ} (h : ∀ a b, F a b → F' a (g b)) : ∀ {l₁ : List α} {l₂ : List β}, Paired F l₁ l₂ → Paired F' l₁ (l₂.map g)
  | _, _, .nil => .nil
  | _, _, .cons k t => .cons (h _ _ k) (paired_map h t)
/-- a comprehension with one test that changes nothing, over items that stand in a relation -/
theorem lc_rel {α β : Type} {K : PySem.W.Frag} {a : Addr} {xs : List V} {as : List α} {gt : TG} {tt : TT} {te : TE} {vs : List Nat} {σ : St} {H1 : Hp} {D : Addr} {Qd : Hp → Prop} (RA : Hp → V → α → Prop) (RB : Hp → V → β → Prop)
    (mA : ∀ {H H' : Hp} {v : V} {x : α}, Same H H' → RA H v x → RA H' v x) (mB : ∀ {H H' : Hp} {v : V} {x : β}, Same H H' → RB H v x → RB H' v x) (p : α → Bool) (g : α → β)
    (hx : SqL K H1 a xs) (hd : Paired (RA H1) xs as) (hD : H1 D = none) (hl : as.length ≤ 100000)
    (hs : ∀ (v : V) (x : α) (G : Hp) (acc : List V) (R : Hp → Prop), x ∈ as → RA G v x → Same H1 G → G D = none → acc.length < sizeLine →
      (p x = false → ∀ G', Same G G' → G' D = none → R (upd G' D (.lst acc))) →
      (p x = true → ∀ (G' : Hp) (u : V), Same G G' → G' D = none → RB G' u (g x) → R (upd G' D (.lst (acc ++ [u])))) →
      gt v (wipe σ vs) (upd G D (.lst acc)) fun σ2 H2 => wipe σ2 vs = wipe σ vs ∧ tt σ2 H2 fun b H3 =>
        if b = true then te σ2 H3 fun y H4 => ∃ acc, H4 D = some (.lst acc) ∧ acc.length < sizeLine ∧ R (upd H4 D (.lst (acc ++ [y]))) else R H3)
    (hq : ∀ (G : Hp) (ys : List V), Same H1 G → G D = none → Paired (RB G) ys ((as.filter p).map g) → Qd (upd G D (.lst ys))) :
    ∃ W : Nat → Nat → Hp → Prop, (∃ m, W 0 m (upd H1 D (.lst []))) ∧ ∀ i m H, W i m H →
      ((Itl K a).stop i H ∧ Qd H) ∨ ((Itl K a).go i H ∧ ∃ Nx : Hp → Prop, (∀ H', Nx H' → ∃ m', m' < m ∧ W (i + 1) m' H') ∧ ∀ x H', (Itl K a).yld i H x H' → gt x (wipe σ vs) H' fun σ2 H2 => wipe σ2 vs = wipe σ vs ∧ tt σ2 H2 fun b H3 =>
        if b = true then te σ2 H3 fun y H4 => ∃ acc, H4 D = some (.lst acc) ∧ acc.length < sizeLine ∧ Nx (upd H4 D (.lst (acc ++ [y]))) else Nx H3) := by
  have hxd := hd.length
  refine lc_list (K := K) (a := a) (xs := xs) (fun i H => ∃ (G : Hp) (ys : List V), Same H1 G ∧ G D = none ∧ H = upd G D (.lst ys) ∧ Paired (RB G) ys (((as.take i).filter p).map g)) ⟨H1, [], Same.refl _, hD, rfl, .nil⟩ ?_ ?_ ?_
  · rintro i H _ ⟨G, ys, s, hG, rfl, _⟩
    exact (same_new hG).seq (s.seq hx)
  · rintro i x H hi ⟨G, ys, s, hG, rfl, hy⟩
    obtain ⟨d, hdi, dx⟩ := paired_getv hd hi
    have il : i < as.length := (List.getElem?_eq_some_iff.mp hdi).1
    have dm : d ∈ as := List.mem_of_getElem? hdi
    have yl : ys.length ≤ i := by
      rw [hy.length, List.length_map]
      refine Nat.le_trans (List.length_filter_le _ _) ?_
      rw [List.length_take]
      omega
    have tk : as.take (i + 1) = as.take i ++ [d] := by rw [List.take_add_one, hdi]; rfl
    refine hs x d G ys _ dm (mA s dx) s hG (Nat.lt_of_lt_of_le (show ys.length < 100001 by omega) (by decide)) (fun pf G' s' hG' => ⟨G', ys, s.trans s', hG', rfl, ?_⟩) (fun pt G' u s' hG' du => ⟨G', _, s.trans s', hG', rfl, ?_⟩)
    · rw [tk, List.filter_append, List.filter_cons, if_neg (by rw [pf]; decide), List.filter_nil, List.append_nil]
      exact Paired.mapP hy fun _ _ z => mB s' z
    · rw [tk, List.filter_append, List.filter_cons, if_pos pt, List.filter_nil, List.map_append]
      exact Paired.snoc (Paired.mapP hy fun _ _ z => mB s' z) du
  · rintro H ⟨G, ys, s, hG, rfl, hy⟩
    refine hq G ys s hG ?_
    rw [List.take_of_length_le (by omega)] at hy
    exact hy
/-- a tracked tuple of these values -/
def TupL (H : Hp) (v : V) (ws : List V) : Prop := ∃ t, v = .ref t ∧ H t = some (.tup ws)
theorem TupL.same {H H' : Hp} {v : V} {ws : List V} (s : Same H H') : TupL H v ws → TupL H' v ws := fun ⟨t, e, h⟩ => ⟨t, e, s _ _ h⟩
theorem TupL.but {H H' : Hp} {v : V} {ws : List V} (s : ∀ b ys, H b = some (.tup ys) → H' b = some (.tup ys)) : TupL H v ws → TupL H' v ws := fun ⟨t, e, h⟩ => ⟨t, e, s _ _ h⟩
/-- a deck's change leaves tuples -/
theorem But.tups {a : Addr} {H H' : Hp} (h : But a H H') (hn : ∀ ys, H a ≠ some (.tup ys)) : ∀ b ys, H b = some (.tup ys) → H' b = some (.tup ys) := fun b ys e => h b _ (fun q => hn ys (q ▸ e)) e
theorem upd_none {H : Hp} {p q : Addr} {o : HO} (h : upd H p o q = none) : q ≠ p ∧ H q = none := by
  have e : q ≠ p := by
    rintro rfl
    rw [upd_same] at h
    cases h
  exact ⟨e, by rw [upd_ne e] at h; exact h⟩
theorem int_at {l : List Int} {i : Nat} (h : i < l.length) : (l.map V.int)[i]? = some (.int (l.getD i 0)) := by
  rw [List.getElem?_map, List.getD_eq_getElem?_getD, List.getElem?_eq_getElem h]
  rfl
theorem int_atI {l : List Int} {z : Int} (h0 : 0 ≤ z) (h : z.toNat < l.length) : atI (l.map V.int) z = some (.int (l.getD z.toNat 0)) := by
  obtain ⟨n, rfl⟩ := Int.eq_ofNat_of_zero_le h0
  exact atI_nat (int_at h)
theorem take_snoc {α : Type} {l : List α} {i : Nat} {a : α} (h : l[i]? = some a) : l.take (i + 1) = l.take i ++ [a] := by
  rw [List.take_add_one, h]
  rfl
/-- x + y of two tracked tuples, either may be empty -/
theorem catA_new {K : PySem.W.Frag} {H : Hp} {v u : V} {xs ys : List V} {Q : VK} (h1 : TupL H v xs) (h2 : TupL H u ys) (hl : xs.length + ys.length ≤ sizeLine) (k : ∀ (z : V) (H' : Hp), Same H H' → TupL H' z (xs ++ ys) → Q z H') : rCatA K v u H Q := by
  obtain ⟨a, rfl, ha⟩ := h1
  obtain ⟨b, rfl, hb⟩ := h2
  refine ⟨a, b, xs, ys, rfl, rfl, SqT.of' ha, SqT.of' hb, hl, fun e => ?_, fun _ e => ?_, fun _ _ p hp => ?_⟩
  · exact k _ _ (Same.refl _) ⟨b, rfl, by rw [e, List.nil_append]; exact hb⟩
  · exact k _ _ (Same.refl _) ⟨a, rfl, by rw [e, List.append_nil]; exact ha⟩
  · exact k _ _ (same_new hp) ⟨p, rfl, upd_same⟩
theorem size_of {n : Nat} (h : n ≤ 100000) : n ≤ sizeLine := Nat.le_trans h (by decide)

/-! ### slices -/
theorem cut_to {xs : List V} {i : Nat} (h : i ≤ xs.length) : cutV xs none (some (i : Int)) = xs.take i := by
  unfold cutV
  rw [HT.sIx_none, HT.sIx_nat, List.drop_zero, Nat.sub_zero, Nat.min_eq_left h]
theorem cut_from {xs : List V} {i : Nat} (h : i ≤ xs.length) : cutV xs (some (i : Int)) none = xs.drop i := by
  unfold cutV
  rw [HT.sIx_none, HT.sIx_nat, Nat.min_eq_left h]
  exact List.take_of_length_le (by rw [List.length_drop]; exact Nat.le_refl _)
theorem cut_mid {xs : List V} {i j : Nat} (hi : i ≤ j) (h : j ≤ xs.length) : cutV xs (some (i : Int)) (some (j : Int)) = (xs.drop i).take (j - i) := by
  unfold cutV
  rw [HT.sIx_nat, HT.sIx_nat, Nat.min_eq_left h, Nat.min_eq_left (Nat.le_trans hi h)]

/-! ### data without truth values: equal is the same -/
mutual
def pur : PyData → Bool
  | .none | .int _ | .str _ => true
  | .bool _ => false
  | .list xs | .tuple xs => purs xs
  | .dict _ => false
def purs : List PyData → Bool
  | [] => true
  | x :: xs => pur x && purs xs
end
mutual
theorem eqv_pur : ∀ {d e : PyData}, pur d = true → pur e = true → PyData.eqv d e = true → d = e
  | .none, .none, _, _, _ => rfl
  | .int i, .int j, _, _, h => by rw [eq_of_beq (show (i == j) = true from h)]
  | .str i, .str j, _, _, h => by rw [eq_of_beq (show (i == j) = true from h)]
  | .list xs, .list ys, h1, h2, h => by rw [eqvs_pur (ds := xs) (es := ys) h1 h2 (by simpa [PyData.eqv] using h)]
  | .tuple xs, .tuple ys, h1, h2, h => by rw [eqvs_pur (ds := xs) (es := ys) h1 h2 (by simpa [PyData.eqv] using h)]
  | .bool _, _, h1, _, _ => by simp [pur] at h1
  | .dict _, _, h1, _, _ => by simp [pur] at h1
  | .none, .bool _, _, h2, _ => by simp [pur] at h2
  | .int _, .bool _, _, h2, _ => by simp [pur] at h2
  | .str _, .bool _, _, h2, _ => by simp [pur] at h2
  | .list _, .bool _, _, h2, _ => by simp [pur] at h2
  | .tuple _, .bool _, _, h2, _ => by simp [pur] at h2
  | .none, .dict _, _, h2, _ => by simp [pur] at h2
  | .int _, .dict _, _, h2, _ => by simp [pur] at h2
  | .str _, .dict _, _, h2, _ => by simp [pur] at h2
  | .list _, .dict _, _, h2, _ => by simp [pur] at h2
  | .tuple _, .dict _, _, h2, _ => by simp [pur] at h2
  | .none, .int _, _, _, h => by simp [PyData.eqv] at h
  | .none, .str _, _, _, h => by simp [PyData.eqv] at h
  | .none, .list _, _, _, h => by simp [PyData.eqv] at h
  | .none, .tuple _, _, _, h => by simp [PyData.eqv] at h
  | .int _, .none, _, _, h => by simp [PyData.eqv] at h
  | .int _, .str _, _, _, h => by simp [PyData.eqv] at h
  | .int _, .list _, _, _, h => by simp [PyData.eqv] at h
  | .int _, .tuple _, _, _, h => by simp [PyData.eqv] at h
  | .str _, .none, _, _, h => by simp [PyData.eqv] at h
  | .str _, .int _, _, _, h => by simp [PyData.eqv] at h
  | .str _, .list _, _, _, h => by simp [PyData.eqv] at h
  | .str _, .tuple _, _, _, h => by simp [PyData.eqv] at h
  | .list _, .none, _, _, h => by simp [PyData.eqv] at h
  | .list _, .int _, _, _, h => by simp [PyData.eqv] at h
  | .list _, .str _, _, _, h => by simp [PyData.eqv] at h
  | .list _, .tuple _, _, _, h => by simp [PyData.eqv] at h
  | .tuple _, .none, _, _, h => by simp [PyData.eqv] at h
  | .tuple _, .int _, _, _, h => by simp [PyData.eqv] at h
  | .tuple _, .str _, _, _, h => by simp [PyData.eqv] at h
  | .tuple _, .list _, _, _, h => by simp [PyData.eqv] at h
theorem eqvs_pur : ∀ {ds es : List PyData}, purs ds = true → purs es = true → PyData.eqvAll ds es = true → ds = es
  | [], [], _, _, _ => rfl
  | x :: xs, y :: ys, h1, h2, h => by
    simp only [purs, Bool.and_eq_true] at h1 h2
    simp only [PyData.eqvAll, Bool.and_eq_true] at h
    rw [eqv_pur h1.1 h2.1 h.1, eqvs_pur h1.2 h2.2 h.2]
  | [], _ :: _, _, _, h => by simp [PyData.eqvAll] at h
  | _ :: _, [], _, _, h => by simp [PyData.eqvAll] at h
end
theorem eqv_iff {d e : PyData} (hd : pur d = true) (he : pur e = true) (hs : SeqAt.shaped d = true) : PyData.eqv d e = true ↔ d = e :=
  ⟨eqv_pur hd he, fun h => by rw [← h]; exact SeqAt.eqv_refl d (SeqAt.canLay_of_shaped hs)⟩
mutual
/-- data without texts and dicts, of a depth at most n -/
def flat : Nat → PyData → Bool
  | _, .none | _, .bool _ | _, .int _ => true
  | _, .str _ | _, .dict _ => false
  | 0, .list _ | 0, .tuple _ => false
  | n + 1, .list xs => flats n xs
  | n + 1, .tuple xs => flats n xs
def flats : Nat → List PyData → Bool
  | _, [] => true
  | n, x :: xs => flat n x && flats n xs
end
mutual
theorem flat_lay : ∀ {n : Nat} {d : PyData}, flat n d = true → d.canLay0 = true ∧ d.depth ≤ n
  | n, .none, _ => ⟨by simp [PyData.canLay0], by simp [PyData.depth]⟩
  | n, .bool _, _ => ⟨by simp [PyData.canLay0], by simp [PyData.depth]⟩
  | n, .int _, _ => ⟨by simp [PyData.canLay0], by simp [PyData.depth]⟩
  | n, .str _, h => by simp [flat] at h
  | n, .dict _, h => by simp [flat] at h
  | 0, .list _, h => by simp [flat] at h
  | 0, .tuple _, h => by simp [flat] at h
  | n + 1, .list xs, h => by
    obtain ⟨h1, h2⟩ := flats_lay (n := n) (ds := xs) (by simpa [flat] using h)
    exact ⟨by simp only [PyData.canLay0]; exact h1, by simp only [PyData.depth]; omega⟩
  | n + 1, .tuple xs, h => by
    obtain ⟨h1, h2⟩ := flats_lay (n := n) (ds := xs) (by simpa [flat] using h)
    exact ⟨by simp only [PyData.canLay0]; exact h1, by simp only [PyData.depth]; omega⟩
theorem flats_lay : ∀ {n : Nat} {ds : List PyData}, flats n ds = true → PyData.canLayAll0 ds = true ∧ PyData.depthAll ds ≤ n
  | n, [], _ => ⟨by simp [PyData.canLayAll0], by simp [PyData.depthAll]⟩
  | n, x :: xs, h => by
    simp only [flats, Bool.and_eq_true] at h
    obtain ⟨a1, a2⟩ := flat_lay h.1
    obtain ⟨b1, b2⟩ := flats_lay h.2
    exact ⟨by simp only [PyData.canLayAll0, a1, b1, Bool.and_true], by simp only [PyData.depthAll]; omega⟩
end
theorem shaped_flat {n : Nat} {d : PyData} (h : flat n d = true) (hn : n ≤ 64) : SeqAt.shaped d = true := by
  obtain ⟨h1, h2⟩ := flat_lay h
  show (d.canLay0 && decide (d.depth ≤ 64)) = true
  rw [h1, Bool.true_and]
  exact decide_eq_true (by omega)
theorem flats_ints (n : Nat) : ∀ ns : List Int, flats n (ns.map PyData.int) = true
  | [] => by simp [flats]
  | i :: r => by simp [flats, flat, flats_ints n r]
theorem purs_ints : ∀ ns : List Int, purs (ns.map PyData.int) = true
  | [] => by simp [purs]
  | i :: r => by simp [purs, pur, purs_ints r]
theorem flats_map {α : Type} {n : Nat} {f : α → PyData} (h : ∀ a, flat n (f a) = true) : ∀ l : List α, flats n (l.map f) = true
  | [] => by simp [flats]
  | a :: r => by simp [flats, h a, flats_map h r]
theorem purs_map {α : Type} {f : α → PyData} (h : ∀ a, pur (f a) = true) : ∀ l : List α, purs (l.map f) = true
  | [] => by simp [purs]
  | a :: r => by simp [purs, h a, purs_map h r]

/-! ### rules whose reading names the written part, for the inside of a comprehension -/
section
variable {X : Cx} {K : PySem.W.Frag}
theorem ix_tupK (h : X.K = K) : IxR X (rIxT K) := h ▸ ix_tup
theorem ix_listK (h : X.K = K) : IxR X (rIxL K) := h ▸ ix_list
theorem ix_seqK (h : X.K = K) : IxR X (rIx K) := h ▸ ix_seq
theorem sl_tupAK (h : X.K = K) : SlR X (rSlA K) := h ▸ sl_tupA
theorem sl_tupK (h : X.K = K) : SlR X (rSlT K) := h ▸ sl_tup
theorem sl_listK (h : X.K = K) : SlR X (rSlL K) := h ▸ sl_list
theorem call_isiK' (h : X.K = K) : CallR X (.builtin "isinstance") (rIsi K) := h ▸ call_isi
theorem call_isiTK (h : X.K = K) : CallR X (.builtin "isinstance") (rIsiT K) := h ▸ call_isiT
theorem op_eqDK (h : X.K = K) (hu : X.A.units + 64 < cLine) : OpR X (compareOp .Eq) (rEqD K) := h ▸ op_eqD hu
theorem op_neDK (h : X.K = K) (hu : X.A.units + 64 < cLine) : OpR X (compareOp .NotEq) (rNeD K) := h ▸ op_neD hu
theorem op_inDK (h : X.K = K) (hu : X.A.units + 65 < cLine) : OpR X (compareOp .In) (rInD K) := h ▸ op_inD hu
theorem op_notInDK (h : X.K = K) (hu : X.A.units + 65 < cLine) : OpR X (compareOp .NotIn) (rNotInD K) := h ▸ op_notInD hu
theorem op_catAK (h : X.K = K) : OpR X (binaryOp .Add) (rCatA K) := h ▸ op_catA
def rLenS (K : PySem.W.Frag) : List V → Hp → VK → Prop := fun xs H Q => ∃ p ys, xs = [V.ref p] ∧ (SqL K H p ys ∨ SqT K H p ys) ∧ Q (.int ys.length) H
theorem call_len_seqK (h : X.K = K) : CallR X (.builtin "len") (rLenS K) := by
  subst h
  exact call_len_seq
theorem call_tupleTK (h : X.K = K) : CallR X (.type "tuple") (fun xs H Q => ∃ a ys, xs = [V.ref a] ∧ SqT K H a ys ∧ Q (.ref a) H) := by
  subst h
  exact call_tupleT
theorem call_list_ofK (h : X.K = K) : CallR X (.type "list") (fun xs H Q => ∃ p ys, xs = [V.ref p] ∧ (SqL K H p ys ∨ SqT K H p ys) ∧ ∀ l, H l = none → Q (.ref l) (upd H l (.lst ys))) := by
  subst h
  exact call_list_of
theorem kBM {e : Expr} {T : String} {r : V → List V → Hp → VK → Prop} {to : TE} {t : TA} (h : X.K = K) (p : PE X e (tBM X.K T r to t)) : PE X e (tBM K T r to t) := h ▸ p
theorem kBM0 {e : Expr} {T : String} {r : V → List V → Hp → VK → Prop} {to : TE} (h : X.K = K) (p : PE X e (tBM0 X.K T r to)) : PE X e (tBM0 K T r to) := h ▸ p
theorem kFld {e : Expr} {ta : TE} {f : Str} (h : X.K = K) (p : PE X e (tFld X.K ta f)) : PE X e (tFld K ta f) := h ▸ p
theorem kTup {e : Expr} {n : Nat} {t : TGs} (h : X.K = K) (p : PG X e (gTup X.K n t)) : PG X e (gTup K n t) := h ▸ p
theorem kTru {a : Expr} {ta : TE} (h : X.K = K) (p : PT X a (fun σ H Q => ta σ H fun x H' => ∃ k, TruV X.K x H' k ∧ Q k H')) : PT X a (fun σ H Q => ta σ H fun x H' => ∃ k, TruV K x H' k ∧ Q k H') := by
  subst h
  exact p
theorem kRevL {e : Expr} {te : TE} (h : X.K = K) (p : PE X e (tRevL X.K te)) : PE X e (tRevL K te) := h ▸ p
end

/-! ### a call within a comprehension that leaves all as it was -/
def del1 (H : Hp) (D : Addr) : Hp := fun b => if b = D then none else H b
theorem del1_at (H : Hp) (D : Addr) : del1 H D D = none := by unfold del1; rw [if_pos rfl]
theorem del1_ne {H : Hp} {D b : Addr} (h : b ≠ D) : del1 H D b = H b := by unfold del1; rw [if_neg h]
theorem split_at {H : Hp} {D : Addr} {o : HO} (h : H D = some o) : H = upd (del1 H D) D o := by
  funext b
  unfold upd del1
  by_cases e : b = D
  · rw [if_pos e, e, h]
  · rw [if_neg e, if_neg e]
theorem same_del {G H' : Hp} {D : Addr} {o : HO} (hD : G D = none) (s : Same (upd G D o) H') : Same G (del1 H' D) := fun b u e => by
  have n : b ≠ D := ne_of_none e hD
  rw [del1_ne n]
  exact s b u (by rw [upd_ne n]; exact e)
/-- what was seen ahead of a deck's change is seen behind it -/
theorem TupL.deck {a : Addr} {H H' : Hp} (hd : Deck H a) (b : But a H H') {v : V} {ws : List V} (h : TupL H v ws) : TupL H' v ws :=
  h.but (b.tups fun ys e => by obtain ⟨ds, _, q⟩ := hd; rw [q] at e; cases e)
theorem ixN_at {n i : Nat} (h : i < n) : ixN n (i : Int) = some i := by
  unfold ixN
  rw [if_pos (by omega), if_pos (by omega), Int.toNat_natCast]
theorem upd_comm {H : Hp} {a b : Addr} {o u : HO} (h : a ≠ b) : upd (upd H a o) b u = upd (upd H b u) a o := by
  funext c
  unfold upd
  by_cases h1 : c = b
  · rw [if_pos h1, if_neg (fun z => h (z.symm.trans h1)), if_pos h1]
  · rw [if_neg h1, if_neg h1]
end G

/-! ## an own error whose __init__ begins with super().__init__(..) (my own) -/
namespace G
open PySem PySem.Spec PySem.Calls PyProof.Rows L2 NdefX

/-- what the text says of the class C of errors and of the code of its __init__ -/
structure SupTxt (P : Program) (K : PySem.W.Frag) (mg : Str → Option Value) (C cc cda : Addr) : Prop where
  ox : OexC K C
  mro : PySem.W.mroIn K C (.ref C) = some true
  sup : PySem.W.ks_superIn K C C "__init__" = some (some (.builtin "ValueError.__init__"))
  sub : PySem.W.subIn K (.ref C) (.type "ValueError") = some true
  third : PySem.W.nsIn K cStatics "thirdparty.any" = some none
  cell : ∃ cl cld csl, K.lookup cc = some ⟨cl, cld, .cell (some (.ref C)), csl⟩
  code : ∃ ccl cdd vs ccs file tf, K.lookup cda = some ⟨ccl, cdd, .fields vs, ccs⟩ ∧ vs[2]? = some (.str file tf) ∧ ((P.main.file : Str) == file) = true
  top : (P.main.scope.names.lookup ("super" : Str)).isSome = false
  mgs : mg "super" = none

section
variable {prog : Program} {w : World} {A : Around} {E : Value → Shared → Prop} {s : Shared}
/-- the bound ValueError.__init__ is called -/
theorem call_mw {K : PySem.W.Frag} {C x u t1 : Addr} {us : List Value} {Q : Value → Shared → Prop} (T : OexC K C) (X : K.In s.heap) (hu : s.heap.get? u = some (PySem.W.kxs_mw "ValueError.__init__" x))
    (hx : s.heap.get? x = some ({ cls := .ref C, dict := none, data := .fields #[.ref t1, .none, .none, .none, .bool false, .none] } : Obj)) (hz : us.length ≤ sizeLine)
    (h : ∀ h' t2, (∀ b o, b ≠ x → s.heap.get? b = some o → h'.get? b = some o) → h'.get? x = some ({ cls := .ref C, dict := none, data := .fields #[.ref t2, .none, .none, .none, .bool false, .none] } : Obj) → Q .none { s with heap := h' }) :
    wpAny (model prog w) A (call (.ref u) us) Q E s := by
  obtain ⟨nm, q, N, bs, bm, sn, sub, ab, col, dd, k0, k1, k2, k3, k5, hC, hbm⟩ := T.cls
  obtain ⟨hp, g, d, t, os⟩ := s
  refine wpAny_call (codeAny_of_tree ?_)
  change wpAny _ A.in1 (callAny (.ref u) ⟨us, []⟩) _ _ _
  simp only [callAny]
  refine wpAny_bind (wpAny_load hu ?_)
  have e1 : (Value.type "method-wrapper" == Value.type "method" || Value.type "method-wrapper" == Value.type "builtin_function_or_method" || Value.type "method-wrapper" == Value.type "method-wrapper") = true := by decide
  simp only [PySem.W.kxs_mw, e1, if_true]
  refine PySem.W.KFB.if_so (by decide) ?_
  refine wpAny_bind (PySem.W.check_bound_init PySem.F.excBase_ValueError.toExcCallFacts (X _ _ hC) hx rfl ?_)
  refine wpAny_bind (wpAny_pure (wpAny_pure ?_))
  refine ⟨plainId_quiet PySem.F.excBase_ValueError.init.plain _, codeAny_builtin PySem.F.excBase_ValueError.initEntry ?_⟩
  refine PySem.W.exc_init_tree (cls := .ref C) (t0 := t1) (dv := none) (c2 := .none) (c3 := .none) (b4 := .bool false) hx hz fun h' k e _ => h h' _ k e
end

section
variable {P : Program} {w : World} {K : PySem.W.Frag} {mg : Str → Option Value} {base : Heap} {C cc cda f : Addr} {CX : CXT} {k : Nat} {N ps : List Str} {sp : Sp}
variable {name qual x0 : Str} {params : Arguments} {e : Expr} {es : List Expr} {rest : List Stmt} {scope : Scope} {dV kV doc pm ct oc : Value} {an od : Option Addr} {osl : Array (Option Value)} {p0 p1 p2 p3 p4 : Pos} {ar : Arg}
theorem look_one {k y : Str} {c c' : Addr} (h : [(k, c)].lookup y = some c') : y = k ∧ c' = c := by
  by_cases e : y = k
  · subst e
    simp [List.lookup] at h
    exact ⟨rfl, h.symm⟩
  · have z : (y == k) = false := by simpa using e
    simp [List.lookup, z] at h
/-- THE RULE: an error's __init__ that begins with super().__init__(..): the arguments, then the rest of the body -/
theorem sup_init (T : SupTxt P K mg C cc cda)
    (lk : K.lookup f = some ⟨oc, od, .func (PySem.W.fnX name qual params (.Expr (.Call (.Attribute (.Call (.Name "super" p0) [] [] p1) "__init__" p2) (e :: es) [] p3) p4 :: rest) scope [("__class__", cc)] dV kV doc pm an (.ref cda) ct), osl⟩)
    (hcd : PySem.W.codeIn K (.ref cda) qual = true) (S : NScope N ps ["__class__"] scope) (hps : (params.posonlyargs ++ params.args).head? = some ar) (hself : ps[0]? = some ar.arg)
    (hsu : scope.names.lookup ("super" : Str) = some .globalImplicit)
    (len : ∀ vs H Q E, sp vs H Q E → vs.length = ps.length)
    (he : ∀ env, starEach (e :: es) env = (false, eval e env) :: starEach es env) (hpl : ∀ pos env, (backTo pos (starEach es env)).any (·.1) = false)
    (hev : ∀ env, ∃ pl, eval (.Call (.Attribute (.Call (.Name "super" p0) [] [] p1) "__init__" p2) (e :: es) [] p3) env = (do
      let ov ← attributeBase (.Call (.Name "super" p0) [] [] p1) "__init__" env (eval (.Call (.Name "super" p0) [] [] p1) env)
      standAt p2.atName
      let (f, first) ← holding [ov] (getMethod ov "__init__" pl)
      callWith p3 f first (backTo p3 (starEach (e :: es) env)) []))
    (hbody : ∀ (X : Cx) (A : Around) (outer : List Env) (s : Shared) (H : Hp) (vs : List V) (Q : VK) (E : XK), X = ncx CX P w K mg base N ⟨name, qual, params, [], scope, [("__class__", cc)], cda⟩ f A outer s H E → Room k X.A → sp vs H Q E →
      ∃ a ta t, vs[0]? = some (.ref a) ∧ H a = some (exo a C none) ∧ PA X (e :: es) ta ∧ PSs X rest t ∧
        ta (startF N vs [none]) H fun ws H1 => ws.length ≤ 1000 ∧ H1 a = some (exo a C none) ∧ t { nx := fun _ H' => Q .non H', rt := Q } (startF N vs [none]) H1) :
    FnOk P w K mg base CX (k + 1) f (PySem.W.fnX name qual params (.Expr (.Call (.Attribute (.Call (.Name "super" p0) [] [] p1) "__init__" p2) (e :: es) [] p3) p4 :: rest) scope [("__class__", cc)] dV kV doc pm an (.ref cda) ct) ps sp := by
  refine ⟨len, fun A outer s H args us vs Q E hr e0 hb r hsp => ?_⟩
  have hl := len _ _ _ _ hsp
  have KX : K.In s.heap := e0.mod.kin.keeps fun b o q => (e0.bs b o q).1
  have lim : s.heap.NoLimit := e0.mod.nolimit.keeps fun b o q => (e0.bs b o q).1
  obtain ⟨a, ta, t, ha0, hex, hA, hR, hq⟩ := hbody _ A outer s H vs Q E rfl (hr.deeper _) hsp
  obtain ⟨cl, cld, csl, hcell⟩ := T.cell
  obtain ⟨ccl, cdd, fv, ccs, file, tf, hco, hvs, hfile⟩ := T.code
  have hkc : scope.names.lookup ("__class__" : Str) = some .free := S.frk _ (by simp)
  have hka : scope.names.lookup ar.arg = some .local := S.par _ (List.mem_of_getElem? hself)
  have hcs : CellsAt [("__class__", cc)] ["__class__"] [none] s.heap H := by
    refine ⟨rfl, fun y c z => ?_, fun x y c z1 z2 => ?_, fun i y z => ?_⟩
    · have hy : c = cc := (look_one z).2
      subst hy
      exact ⟨(e0.bs _ _ (e0.mod.kin _ _ hcell)).2, _, _, KX _ _ hcell, rfl⟩
    · exact (look_one z1).1.trans (look_one z2).1.symm
    · cases i with
      | zero =>
        cases z
        exact ⟨cc, rfl, fun v z => by cases z⟩
      | succ i => cases z
  obtain ⟨t1, hx⟩ := exo_at e0.hok hex
  have hu0 : us[0]? = some (.ref a) := by
    obtain ⟨u, q1, q2⟩ := r.get ha0
    cases q2
    exact q1
  have ndP : ps.Nodup := by
    have q := S.nd.sublist (List.take_sublist (ps.length + 1) N)
    rw [show N.take (ps.length + 1) = ps ++ [("__class__" : Str)] from S.pre] at q
    exact (List.nodup_append.mp q).1
  have hloc : ∀ y ∈ ps.zip us, scope.names.lookup y.1 = some .local := fun ⟨n, v⟩ hy => S.par n (List.of_mem_zip hy).1
  refine ks_codeAny_call_defAt (binds := ps.zip us) hr.depth (KX _ _ lk) rfl lim (PySem.W.codeRec_of KX hcd) rfl hb S.nocell hloc (fun h₁ hns hk₁ => ?_) S.co S.gen S.kind
  have I : Inv (ncx CX P w K mg base N ⟨name, qual, params, [], scope, [("__class__", cc)], cda⟩ f A outer s H E) [] (startF N vs [none]) H { s with heap := h₁, toks := s.toks + (ps.zip us).length } := inv_startN S hr.hd e0 hl r hcs hns hk₁
  have X1 : K.In h₁ := I.kIn
  obtain ⟨cd, hcd1⟩ : ∃ cd, PySem.W.clsIn K C = some cd := by
    cases z : PySem.W.clsIn K C with
    | none =>
      have q := T.sup
      unfold PySem.W.ks_superIn at q
      rw [z] at q
      cases q
    | some cd => exact ⟨cd, rfl⟩
  obtain ⟨oD, hD1, hD2⟩ : ∃ oD, h₁.get? C = some oD ∧ oD.data = .cls cd := by
    have q := hcd1
    unfold PySem.W.clsIn at q
    split at q
    · rename_i c d cd' sl ho
      cases q
      exact ⟨_, X1 _ _ ho, rfl⟩
    · cases q
  have hx1 := hk₁ _ _ hx
  have neC : a ≠ C := fun z => by
    rw [z] at hx1
    rw [hx1] at hD1
    cases hD1
    cases hD2
  obtain ⟨pl, hev⟩ := hev (ncx CX P w K mg base N ⟨name, qual, params, [], scope, [("__class__", cc)], cda⟩ f A outer s H E).env
  refine ks_wpAt_execs_cons (ks_wpAt_Expr_any (ks_wpAt_MethodCall (pl := pl) ?_ hev) I.quiet)
  refine ks_wpAt_super_base hsu hkc rfl rfl (X1 _ _ lk) rfl hps rfl (X1 _ _ hco) rfl hvs hfile T.top ?_
  obtain ⟨mb, hb1, hb2⟩ := I.mod.blt
  refine PySem.W.ks_loadName_global S.kind hsu (loadGlobal_builtin (I.mod.glob.keeps I.bk) T.mgs (hb1.keeps I.bk) ((hb2 _ (by decide)).trans (by decide +kernel)) ⟨rfl, ?_⟩)
  refine wpAny_loadName_free S.kind hkc rfl ⟨_, X1 _ _ hcell, rfl⟩ ?_
  refine wpAny_loadName_local S.kind hka hns (zip_look ndP hself hu0) ?_
  refine ks_wpAny_isType_cls hD1 hD2 ⟨rfl, ?_⟩
  refine ks_wpAny_call_super hD1 hD2 hx1 rfl (fun c z => by cases z) (PySem.W.looks_mroIn X1 T.mro) (fun h2 hso k2 => ?_)
  have I2 := I.kept (t' := s.toks + (ps.zip us).length) k2
  have X2 : K.In h2 := I2.kIn
  have hx2 := k2 _ _ hx1
  have hin2 : PySem.W.Looks (model P w) h2 (isInstance (.ref a) (.type "ValueError")) true :=
    (show PySem.W.InstAt h2 a _ C none from ⟨hx2, rfl, rfl, trivial⟩).type.andThen (PySem.W.looks_subIn X2 T.sub)
  refine PySem.W.kxs_getMethod PySem.W.kxs_ValueError hso (PySem.W.looks_opaque X2 T.third) (l₀ := cd.mro) (fun A Q E s k q => wpAny_bind ((PySem.W.looks_clsIn X2 hcd1) A _ E s k (wpAny_pure q))) rfl X2 (by
    have q := T.sup
    unfold PySem.W.ks_superIn at q
    rw [hcd1] at q
    exact q) hin2 neC rfl ?_
  have hu3 : (h2.push (PySem.W.kxs_mw "ValueError.__init__" a)).get? h2.objs.size = some (PySem.W.kxs_mw "ValueError.__init__" a) := Heap.get?_push_at rfl rfl
  have I3 := (I2.kept (h' := h2.push (PySem.W.kxs_mw "ValueError.__init__" a)) (t' := s.toks + (ps.zip us).length + 1) fun b o q => Heap.get?_push_of_some _ q).pins_of (pins' := [(h2.objs.size, PySem.W.kxs_mw "ValueError.__init__" a)]) (fun p hp => by
    rw [List.mem_singleton.mp hp]
    exact ⟨hu3, I2.hok.fresh (Nat.le_refl _), Nat.ne_of_gt I2.lt, I2.nofs (Nat.le_refl _), fun v z => by cases z⟩)
  have hrun := hA.run p3 _ _ _ H _ I3 hq
  change wpAny _ _ (callWith p3 (.ref h2.objs.size) [] (backTo p3 (starEach (e :: es) _)) []) _ _ _
  have hep := hpl p3 (ncx CX P w K mg base N ⟨name, qual, params, [], scope, [("__class__", cc)], cda⟩ f A outer s H E).env
  refine PySem.W.kxs_callWith (i := "ValueError.__init__") (x := a) (by
    rw [he]
    exact hep) ?_
  have hrun2 := hrun
  rw [he] at hrun2 ⊢
  refine evalArgs_plain (thn hrun2 fun us4 s4 hh => ?_)
  obtain ⟨ws, H4, I4, r4, hz, hx4, ht⟩ := hh
  have pin4 := (I4.pin (h2.objs.size, PySem.W.kxs_mw "ValueError.__init__" a) (List.mem_append_right _ List.mem_cons_self)).1
  refine ⟨pin4, ?_⟩
  obtain ⟨t4, ho4⟩ := exo_at I4.hok hx4
  refine call_mw T.ox I4.kIn pin4 ho4 (by
    change us4.length ≤ _
    rw [← Paired.length r4, sizeLine_eq]
    omega) fun h5 t5 k5 hx5 => ?_
  have J0 := I4.write (t' := s4.toks) (x := a) (e := a) (o := exo a C none) (by rw [hx4]; exact True.intro) (.inl rfl) k5 ⟨_, hx5⟩ (exo_ok hx5)
  rw [upd_self hx4] at J0
  refine wpAt_of_wpAny (wpAny_mono (hR.run _ _ _ _ _ J0 ht) (fun fl s' hs => ?_) fun e s' hs => hs)
  have fin : ∀ {pins : List (Addr × Obj)} {σ' : L2.St} {H' : Hp} {v : V} {u : Value}, Inv (ncx CX P w K mg base N ⟨name, qual, params, [], scope, [("__class__", cc)], cda⟩ f A outer s H E) pins σ' H' s' → RelV v u → Q v H' → CE outer P w H s Q u s' :=
    fun {_ σ' H' v u} J rv q => ⟨v, H', J.os, J.bare, J.base, J.hok, rv, q⟩
  cases fl with
  | ret u =>
    obtain ⟨v, σ', H', J, rv, q⟩ := hs
    exact fin J rv q
  | next =>
    obtain ⟨σ', H', J, q⟩ := hs
    exact fin (v := V.non) (u := Value.none) J rfl q
  | brk =>
    obtain ⟨_, _, _, q⟩ := hs
    exact False.elim q
  | cont =>
    obtain ⟨_, _, _, q⟩ := hs
    exact False.elim q
end

/-- __init__ of an error with one field -/
def spErr (C : Addr) (fl : Str) : Sp := fun vs H Q _ => ∃ (a : Addr) (v : V), vs = [.ref a, v] ∧ H a = some (exo a C none) ∧ ∀ d, H d = none → d ≠ a → Q .non (upd (upd H d (exd d [(fl, v)])) a (exo a C (some d)))
section
variable {P : Program} {w : World} {K : PySem.W.Frag} {mg : Str → Option Value} {base : Heap} {C cc cda f : Addr}
variable {qual fl : Str} {params : Arguments} {scope : Scope} {dV kV doc pm ct oc : Value} {an od : Option Addr} {osl : Array (Option Value)} {p0 p1 p2 p3 p4 q1 q2 q3 q4 q5 : Pos} {ar : Arg} {body : List Stmt}
theorem ok_err (T : SupTxt P K mg C cc cda) (hno : PySem.W.findIn K (.ref C) fl = some none)
    (lk : K.lookup f = some ⟨oc, od, .func (PySem.W.fnX "__init__" qual params body scope [("__class__", cc)] dV kV doc pm an (.ref cda) ct), osl⟩)
    (hb : body = [.Expr (.Call (.Attribute (.Call (.Name "super" p0) [] [] p1) "__init__" p2) [.Name fl q1] [] p3) p4, .Assign [.Attribute (.Name "self" q2) fl q3] (.Name fl q4) q5])
    (hcd : PySem.W.codeIn K (.ref cda) qual = true) (S : NScope ["self", fl, "__class__"] ["self", fl] ["__class__"] scope) (hps : (params.posonlyargs ++ params.args).head? = some ar) (hself : ar.arg = "self")
    (hsu : scope.names.lookup ("super" : Str) = some .globalImplicit) (hdb : (fl == ("__debug__" : Str)) = false) (hcn : (fl == ("__classdict__" : Str)) = false)
    (hev : ∀ env, ∃ pl, eval (.Call (.Attribute (.Call (.Name "super" p0) [] [] p1) "__init__" p2) [.Name fl q1] [] p3) env = (do
      let ov ← attributeBase (.Call (.Name "super" p0) [] [] p1) "__init__" env (eval (.Call (.Name "super" p0) [] [] p1) env)
      standAt p2.atName
      let (f, first) ← holding [ov] (getMethod ov "__init__" pl)
      callWith p3 f first (backTo p3 (starEach [.Name fl q1] env)) [])) :
    FnOk P w K mg base CX0 1 f (PySem.W.fnX "__init__" qual params body scope [("__class__", cc)] dV kV doc pm an (.ref cda) ct) ["self", fl] (spErr C fl) := by
  subst hb
  refine sup_init (N := ["self", fl, "__class__"]) T lk hcd S hps (by rw [hself]; rfl) hsu (fun vs H Q E h => ?_) (fun _ => rfl) (fun _ _ => rfl) hev (fun X A outer s H vs Q E hX hr h => ?_)
  · obtain ⟨a, v, rfl, _⟩ := h
    rfl
  · obtain ⟨a, v, rfl, ha, k⟩ := h
    subst hX
    have v1 : PE (ncx CX0 P w K mg base ["self", fl, "__class__"] ⟨"__init__", qual, params, [], scope, [("__class__", cc)], cda⟩ f A outer s H E) (.Name fl q1) (tVar 1) := pe_var (i := 1) rfl (.inl (S.par fl (by simp))) hdb hcn
    have v2 : PE (ncx CX0 P w K mg base ["self", fl, "__class__"] ⟨"__init__", qual, params, [], scope, [("__class__", cc)], cda⟩ f A outer s H E) (.Name fl q4) (tVar 1) := pe_var (i := 1) rfl (.inl (S.par fl (by simp))) hdb hcn
    have v0 : PE (ncx CX0 P w K mg base ["self", fl, "__class__"] ⟨"__init__", qual, params, [], scope, [("__class__", cc)], cda⟩ f A outer s H E) (.Name "self" q2) (tVar 0) := pe_var (i := 0) rfl (.inl (S.par "self" (by simp)))
    refine ⟨a, _, _, rfl, ha, pa_cons v1 pa_nil, pss_one (ps_ost v0 v2), ?_⟩
    refine ⟨_, rfl, (show 1 ≤ 1000 by decide), ha, ?_⟩
    refine ⟨_, rfl, _, rfl, a, C, rfl, T.ox, hno, .inl ⟨ha, fun d hd hne => k d hd hne⟩⟩
end

/-! ## defs that may raise, called; errors made -/
/-- a def that may be called by its name and may raise -/
structure CalX (P : Program) (w : World) (K : PySem.W.Frag) (mg : Str → Option Value) (base : Heap) (k : Nat) (x : Str) (sp : Sp) : Prop where
  ex : ∃ (f : Addr) (fd : FuncData) (ps : List Str), FnOk P w K mg base (L2.CX P w) k f fd ps sp ∧ mg x = some (.ref f) ∧ PySem.W.keepIn K (.ref f) = true ∧ Binds K fd ps []
/-- a class of errors with one field -/
structure Erm (P : Program) (w : World) (K : PySem.W.Frag) (mg : Str → Option Value) (base : Heap) (k : Nat) (x : Str) (C : Addr) (fl : Str) : Prop where
  ex : ∃ (f : Addr) (fd : FuncData) (ps : List Str), OexC K C ∧ PySem.W.findIn K (.ref C) "__init__" = some (some (.ref f)) ∧ PySem.W.typeIn K (.ref f) = some (.type "function") ∧ FnOk P w K mg base CX0 k f fd ps (spErr C fl) ∧ Binds K fd ps [] ∧ mg x = some (.ref C)
/-- X(e): an error of the class C whose dict holds the one field -/
def tErr (C : Addr) (fl : Str) (ta : TA) : L2.St → Hp → XK → Prop := fun σ H Q => ta σ H fun vs H1 => ∃ v, vs = [v] ∧ ∀ d, H1 d = none → Q (.ref C) (some d) (upd H1 d (.xd [(fl, v)]))
section
variable {X : Cx} {W : WX} {k j : Nat} {C : Addr} {x fl : Str} {sp : Sp} {p pos : Pos} {e : Expr} {es : List Expr} {ta : TA} {t : TA}
theorem pe_cx (c : CalX X.prog X.w X.K X.mg X.base k x sp) (hr : Room j X.A) (hk : k ≤ j) (hg : Gl X x) (tk : Takes X W) (ha : PA X (e :: es) t)
    (hdb : (x == ("__debug__" : Str)) = false := by decide) (he : starEach (e :: es) X.env = (false, eval e X.env) :: starEach es X.env := by rfl) (hpl : (backTo pos (starEach es X.env)).any (·.1) = false := by rfl) :
    PE X (.Call (.Name x p) (e :: es) [] pos) (tCallS sp (WE W) t) := by
  obtain ⟨f, fd, ps, F, hm, kp, b⟩ := c.ex
  exact pe_callS F (hr.mono hk) hg hm kp b (fun σ => passAt tk σ) ha hdb he hpl
theorem err_end {H : Hp} {a d : Addr} {fl : Str} {v : V} (ha : H a = none) (hd : H d = none) (hne : d ≠ a) : upd (del (upd (upd (upd H a (exo a C none)) d (exd d [(fl, v)])) a (exo a C (some d))) a) d (.xd [(fl, v)]) = upd H d (.xd [(fl, v)]) := by
  funext b
  by_cases h1 : b = d
  · subst h1
    rw [upd_same, upd_same]
  · rw [upd_ne h1, upd_ne h1]
    by_cases h2 : b = a
    · subst h2
      rw [del_same, ha]
    · rw [del_ne h2, upd_ne h2, upd_ne h1, upd_ne h2]
theorem pmk_e (c : Erm X.prog X.w X.K X.mg X.base k x C fl) (hr : Room j X.A) (hk : k + 1 ≤ j) (hg : Gl X x) (ha : PA X (e :: es) ta)
    (hdb : (x == ("__debug__" : Str)) = false := by decide) (he : starEach (e :: es) X.env = (false, eval e X.env) :: starEach es X.env := by rfl) (hpl : (backTo pos (starEach es X.env)).any (·.1) = false := by rfl) :
    PMk X (.Call (.Name x p) (e :: es) [] pos) (tErr C fl ta) := by
  obtain ⟨f, fd, ps, T, iC, tI, F, b, hm⟩ := c.ex
  intro pins s σ H Q I h
  have ha' : PA X (e :: es) (fun σ H Q' => ∃ Q, ta σ H Q ∧ ∀ vs H1, Q vs H1 → Q' vs H1) := ⟨fun pos pins s σ H Q' I ⟨Q, h, m⟩ => thn (ha.run pos pins s σ H Q I h) fun us s' ⟨vs, H1, J, r, q⟩ => ⟨vs, H1, J, r, m _ _ q⟩⟩
  refine pmk_oex T iC tI F (hr.mono hk) b .nil pass0 hg hm ha' hdb he hpl pins s σ H Q I ⟨_, h, fun vs H1 z => ?_⟩
  obtain ⟨v, rfl, q⟩ := z
  refine ⟨(show 1 ≤ 1000 by decide), fun a ha => ⟨a, v, rfl, upd_same, fun d hd hne => ⟨rfl, d, [(fl, v)], upd_same, ?_, ?_, ?_⟩⟩⟩
  · rw [upd_ne hne, upd_same]
  · rw [upd_ne hne] at hd
    exact hd
  · rw [upd_ne hne] at hd
    rw [err_end ha hd hne]
    exact q d hd
end
/-- what the written part says of a class of errors, for its catching -/
structure ErrT (K : PySem.W.Frag) (mg : Str → Option Value) (x : Str) (C : Addr) (fl : Str) : Prop where
  gC : mg x = some (.ref C)
  te : PySem.W.exmOne K (.ref C) (.ref C) = some true
  xf : XfC K C
  no : PySem.W.findIn K (.ref C) fl = some none
/-! ## constants of the module: data that stands in the written part -/
def mapO (f : Value → Option PyData) : List Value → Option (List PyData)
  | [] => some []
  | u :: r => (f u).bind fun d => (mapO f r).map (d :: ·)
def datK (K : PySem.W.Frag) : Nat → Value → Option PyData
  | 0, _ => none
  | n + 1, v => match v with
    | .none => some .none
    | .bool b => some (.bool b)
    | .int i _ => some (.int i)
    | .str x _ => some (.str x)
    | .ref a => match K.lookup a with
      | some o => match o.data with
        | .seq its _ => if its.size ≤ 1000 then (if o.cls = .type "tuple" then (mapO (datK K n) its.toList).map .tuple else if o.cls = .type "list" ∧ o.dict = none then (mapO (datK K n) its.toList).map .list else none) else none
        | _ => none
      | none => none
    | _ => none
def constK (K : PySem.W.Frag) (x : Str) : Option PyData := match PySem.W.nsIn K mainGlobals x with
  | some (some u) => datK K 6 u
  | _ => none
theorem mapO_ok {K : PySem.W.Frag} {f : Value → Option PyData} (hf : ∀ u d, f u = some d → ∃ v, RelV v u ∧ ∀ H, Dp K H v d) : ∀ (us : List Value) (ds : List PyData), mapO f us = some ds → ∃ vs, Vals vs us ∧ ∀ H, DpAll K H vs ds
  | [], ds, e => by
    cases e
    exact ⟨[], .nil, fun _ => .nil⟩
  | u :: r, ds, e => by
    unfold mapO at e
    cases h1 : f u with
    | none => rw [h1] at e; cases e
    | some d =>
      rw [h1, Option.bind_some] at e
      cases h2 : mapO f r with
      | none => rw [h2] at e; cases e
      | some es =>
        rw [h2] at e
        cases e
        obtain ⟨v, r1, q1⟩ := hf u d h1
        obtain ⟨vs, r2, q2⟩ := mapO_ok hf r es h2
        exact ⟨v :: vs, .cons r1 r2, fun H => .cons (q1 H) (q2 H)⟩
theorem datK_ok {K : PySem.W.Frag} : ∀ (n : Nat) (u : Value) (d : PyData), datK K n u = some d → ∃ v, RelV v u ∧ ∀ H, Dp K H v d
  | 0, _, _, e => by cases e
  | n + 1, u, d, e => by
    unfold datK at e
    cases u with
    | none => cases e; exact ⟨.non, rfl, fun _ => .non⟩
    | bool b => cases e; exact ⟨.bl b, rfl, fun _ => .bl b⟩
    | int i t => cases e; exact ⟨.int i, ⟨t, rfl⟩, fun _ => .int i⟩
    | str x t => cases e; exact ⟨.str x, ⟨t, rfl⟩, fun _ => .str x⟩
    | ref a =>
      dsimp only at e
      cases hl : K.lookup a with
      | none => rw [hl] at e; cases e
      | some o =>
        rw [hl] at e
        dsimp only at e
        split at e
        · rename_i its m hd
          split at e
          · rename_i hz
            have hz' : its.size ≤ sizeLine := Nat.le_trans hz (by rw [sizeLine_eq]; decide)
            split at e
            · rename_i hc
              cases h2 : mapO (datK K n) its.toList with
              | none => rw [h2] at e; cases e
              | some ds =>
                rw [h2] at e
                cases e
                obtain ⟨vs, r, q⟩ := mapO_ok (datK_ok n) _ _ h2
                exact ⟨.ref a, rfl, fun H => .tup (.inr ⟨o, its, m, hl, hc, hd, hz', r⟩) (q H)⟩
            · split at e
              · rename_i hc
                cases h2 : mapO (datK K n) its.toList with
                | none => rw [h2] at e; cases e
                | some ds =>
                  rw [h2] at e
                  cases e
                  obtain ⟨vs, r, q⟩ := mapO_ok (datK_ok n) _ _ h2
                  exact ⟨.ref a, rfl, fun H => .lst (.inr ⟨o, its, m, hl, hc.1, hc.2, hd, hz', r⟩) (q H)⟩
              · cases e
          · cases e
        · cases e
    | _ => cases e
theorem const_of {K : PySem.W.Frag} {h : Heap} {mg : Str → Option Value} {x : Str} {d : PyData} (X : K.In h) (G : h.Ns mainGlobals mg) (e : constK K x = some d) : ∃ v : V, (∃ u, mg x = some u ∧ RelV v u) ∧ ∀ H : Hp, Dp K H v d := by
  unfold constK at e
  split at e
  · rename_i u hu
    obtain ⟨v, r, q⟩ := datK_ok _ _ _ e
    exact ⟨v, ⟨u, PySem.W.mg_of X G hu, r⟩, q⟩
  · cases e
/-! ## x in, x not in a tuple of data -/
def rInT (K : PySem.W.Frag) : R2 := fun x y H Q => ∃ d ds, Dp K H x d ∧ Dp K H y (.tuple ds) ∧ SeqAt.shaped d = true ∧ SeqAt.shaped (.tuple ds) = true ∧ Q (.bl (ds.any fun z => PyData.eqv z d)) H
def rNotInT (K : PySem.W.Frag) : R2 := fun x y H Q => ∃ d ds, Dp K H x d ∧ Dp K H y (.tuple ds) ∧ SeqAt.shaped d = true ∧ SeqAt.shaped (.tuple ds) = true ∧ Q (.bl (!ds.any fun z => PyData.eqv z d)) H
section
variable {X : Cx}
theorem op_inT (hu : X.A.units + 65 < cLine) : OpR X (compareOp .In) (rInT X.K) := by
  intro pins s σ H x y v u Q I rx ry ⟨d, ds, hd, he, sd, se, q⟩
  obtain ⟨as, r1⟩ := Dp.reads I d x v hd rx
  obtain ⟨bs, r2⟩ := Dp.reads I (.tuple ds) y u he ry
  exact SeqAt.in_tuple_reads r2 r1 (SeqAt.canLay_of_shaped se) (SeqAt.canLay_of_shaped sd) (room_in_shaped sd hu) ⟨.bl _, H, I, rfl, q⟩
theorem op_notInT (hu : X.A.units + 65 < cLine) : OpR X (compareOp .NotIn) (rNotInT X.K) := by
  intro pins s σ H x y v u Q I rx ry ⟨d, ds, hd, he, sd, se, q⟩
  obtain ⟨as, r1⟩ := Dp.reads I d x v hd rx
  obtain ⟨bs, r2⟩ := Dp.reads I (.tuple ds) y u he ry
  exact SeqAt.notIn_tuple_reads r2 r1 (SeqAt.canLay_of_shaped se) (SeqAt.canLay_of_shaped sd) (room_in_shaped sd hu) ⟨.bl _, H, I, rfl, q⟩
end
theorem slA_new {K : PySem.W.Frag} {H : Hp} {a : Addr} {xs : List V} {lo hi : Option Int} {Q : VK} (h : SqT K H a xs) (k : ∀ (b : Addr) (H' : Hp), Same H H' → SqT K H' b (cutV xs lo hi) → Q (.ref b) H') : rSlA K (.ref a) lo hi H Q := by
  refine ⟨a, xs, rfl, h, fun e => k a H (Same.refl _) ?_, fun _ p n => k p _ (same_new n) (SqT.of upd_same)⟩
  have q : cutV xs lo hi = xs := by
    unfold cutV
    rw [e.1, e.2]
    simp
  rw [q]
  exact h
theorem cut_tail {v : V} {vs : List V} : cutV (v :: vs) (some 1) none = vs := (cut_from (xs := v :: vs) (i := 1) (by simp)).trans rfl
/-- an «if» whose test is known -/
theorem ifT {A B : Prop} {b : Bool} (e : b = true) (h : A) : (if b = true then A else B) := by
  rw [if_pos e]
  exact h
theorem ifF {A B : Prop} {b : Bool} (e : b = false) (h : B) : (if b = true then A else B) := by
  rw [if_neg (by rw [e]; decide)]
  exact h
theorem ne_int {i j : Int} (h : i ≠ j) : (!decide (V.int i = V.int j)) = true := by
  simp [h]
theorem ne_int0 {i j : Int} (h : i = j) : (!decide (V.int i = V.int j)) = false := by
  simp [h]
end G



namespace Q03
open PySem L2 G
open C8 (Cal Met Mak pe_c pe_mk pe_mt pe_mt0 pe_gc pss_cut tCut)
def top (i : Nat) : Stmt := PySem.Challenge.pw_gatework_k03_nets_in_lanes.main.body.getD i (.Pass ⟨0, 0, 0, 0⟩)
abbrev s__law_deck : Stmt := top 16
theorem sc__law_deck : FnScope ["script", "cells", "each", "deck", "seed", "k", "cell", "rest", "at"] ["script", "cells", "each"] (defScope s__law_deck) := ⟨rfl, rfl, rfl, by decide +kernel, rfl, by decide +kernel, by decide +kernel⟩
abbrev s__law_take : Stmt := top 17
theorem sc__law_take : FnScope ["deck", "many"] ["deck", "many"] (defScope s__law_take) := ⟨rfl, rfl, rfl, by decide +kernel, rfl, by decide +kernel, by decide +kernel⟩
abbrev s__law_plain : Stmt := top 18
theorem sc__law_plain : FnScope ["value", "item"] ["value"] (defScope s__law_plain) := ⟨rfl, rfl, rfl, by decide +kernel, rfl, by decide +kernel, by decide +kernel⟩
abbrev s_is_count : Stmt := top 5
theorem sc_is_count : FnScope ["value"] ["value"] (defScope s_is_count) := ⟨rfl, rfl, rfl, by decide +kernel, rfl, by decide +kernel, by decide +kernel⟩
abbrev s_is_gate : Stmt := top 6
theorem sc_is_gate : FnScope ["gate", "wires", "wire"] ["gate", "wires"] (defScope s_is_gate) := ⟨rfl, rfl, rfl, by decide +kernel, rfl, by decide +kernel, by decide +kernel⟩
abbrev s_check_net : Stmt := top 7
theorem sc_check_net : FnScope ["net", "inputs", "firsts", "nexts", "gates", "outputs", "wires", "gate", "part", "wire", "first"] ["net"] (defScope s_check_net) := ⟨rfl, rfl, rfl, by decide +kernel, rfl, by decide +kernel, by decide +kernel⟩
abbrev s_check_lanes : Stmt := top 9
theorem sc_check_lanes : FnScope ["lanes", "numbers", "many", "what", "one"] ["lanes", "numbers", "many", "what"] (defScope s_check_lanes) := ⟨rfl, rfl, rfl, by decide +kernel, rfl, by decide +kernel, by decide +kernel⟩
abbrev s_values_of : Stmt := top 10
theorem sc_values_of : FnScope ["net", "lanes", "flops", "inputs", "mask", "found", "gate", "word", "one"] ["net", "lanes", "flops", "inputs"] (defScope s_values_of) := ⟨rfl, rfl, rfl, by decide +kernel, rfl, by decide +kernel, by decide +kernel⟩
abbrev s_step_values : Stmt := top 11
theorem sc_step_values : FnScope ["net", "lanes", "flops", "inputs", "found", "wire"] ["net", "lanes", "flops", "inputs"] (defScope s_step_values) := ⟨rfl, rfl, rfl, by decide +kernel, rfl, by decide +kernel, by decide +kernel⟩
abbrev s_step_net : Stmt := top 12
theorem sc_step_net : FnScope ["net", "lanes", "flops", "inputs"] ["net", "lanes", "flops", "inputs"] (defScope s_step_net) := ⟨rfl, rfl, rfl, by decide +kernel, rfl, by decide +kernel, by decide +kernel⟩
abbrev s_first_flops : Stmt := top 13
theorem sc_first_flops : FnScope ["level", "lanes", "first"] ["level", "lanes"] (defScope s_first_flops) := ⟨rfl, rfl, rfl, by decide +kernel, rfl, by decide +kernel, by decide +kernel⟩
abbrev s_run_net : Stmt := top 14
theorem sc_run_net : FnScope ["net", "lanes", "inputs", "flops", "found", "row", "outputs"] ["net", "lanes", "inputs"] (defScope s_run_net) := ⟨rfl, rfl, rfl, by decide +kernel, rfl, by decide +kernel, by decide +kernel⟩
abbrev s__law_net : Stmt := top 19
theorem sc__law_net : FnScope ["deck", "many", "inputs", "firsts", "wires", "gates", "at", "word", "sides", "nexts", "outputs", "first", "side"] ["deck", "many"] (defScope s__law_net) := ⟨rfl, rfl, rfl, by decide +kernel, rfl, by decide +kernel, by decide +kernel⟩
abbrev s__law_net_step : Stmt := top 20
theorem sc__law_net_step : FnScope ["net", "flops", "inputs", "values", "gate", "sides", "wire"] ["net", "flops", "inputs"] (defScope s__law_net_step) := ⟨rfl, rfl, rfl, by decide +kernel, rfl, by decide +kernel, by decide +kernel⟩
abbrev s__law_lanes : Stmt := top 21
theorem sc__law_lanes : FnScope ["rows", "found", "at", "lane"] ["rows"] (defScope s__law_lanes) := ⟨rfl, rfl, rfl, by decide +kernel, rfl, by decide +kernel, by decide +kernel⟩
abbrev s__law_refusal : Stmt := top 22
theorem sc__law_refusal : FnScope ["net", "lanes", "flops", "inputs", "error"] ["net", "lanes", "flops", "inputs"] (defScope s__law_refusal) := ⟨rfl, rfl, rfl, by decide +kernel, rfl, by decide +kernel, by decide +kernel⟩
abbrev s__law_unlit : Stmt := top 23
theorem sc__law_unlit : FnScope ["net", "error"] ["net"] (defScope s__law_unlit) := ⟨rfl, rfl, rfl, by decide +kernel, rfl, by decide +kernel, by decide +kernel⟩
abbrev s__law_bent : Stmt := top 24
theorem sc__law_bent : FnScope ["deck", "net", "inputs", "firsts", "nexts", "gates", "outputs", "wires", "way", "rows"] ["deck", "net"] (defScope s__law_bent) := ⟨rfl, rfl, rfl, by decide +kernel, rfl, by decide +kernel, by decide +kernel⟩
abbrev s_law : Stmt := top 25
theorem sc_law : FnScope ["script", "deck", "net", "lanes", "flops", "states", "inputs", "due", "clock", "bits", "lane", "number", "rows", "row", "outs", "after", "told", "one", "first", "at"] ["script"] (defScope s_law) := ⟨rfl, rfl, rfl, by decide +kernel, rfl, by decide +kernel, by decide +kernel⟩
abbrev s_InvalidNet___init__ : Stmt := inClass (top 2) 0
theorem boot_abs' : bootBuiltins "abs" = some (.builtin "abs") := by decide +kernel
theorem boot_bool' : bootBuiltins "bool" = some (.type "bool") := by decide +kernel
theorem boot_int' : bootBuiltins "int" = some (.type "int") := by decide +kernel
theorem boot_isinstance' : bootBuiltins "isinstance" = some (.builtin "isinstance") := by decide +kernel
theorem boot_len' : bootBuiltins "len" = some (.builtin "len") := by decide +kernel
theorem boot_list' : bootBuiltins "list" = some (.type "list") := by decide +kernel
theorem boot_max' : bootBuiltins "max" = some (.builtin "max") := by decide +kernel
theorem boot_range' : bootBuiltins "range" = some (.type "range") := by decide +kernel
theorem boot_str' : bootBuiltins "str" = some (.type "str") := by decide +kernel
theorem boot_sum' : bootBuiltins "sum" = some (.builtin "sum") := by decide +kernel
theorem boot_tuple' : bootBuiltins "tuple" = some (.type "tuple") := by decide +kernel
/-- what the top has left: the built-in names are the built-in ones -/
structure Txt (K : PySem.W.Frag) (mg : Str → Option Value) : Prop where
  b_abs : mg "abs" = none
  b_bool : mg "bool" = none
  b_int : mg "int" = none
  b_isinstance : mg "isinstance" = none
  b_len : mg "len" = none
  b_list : mg "list" = none
  b_max : mg "max" = none
  b_range : mg "range" = none
  b_str : mg "str" = none
  b_sum : mg "sum" = none
  b_tuple : mg "tuple" = none
  c_SIZES : ∃ v : V, (∃ u, mg "SIZES" = some u ∧ RelV v u) ∧ ∀ H : Hp, Dp K H v (.tuple [.tuple [.str "and", .int 3], .tuple [.str "or", .int 3], .tuple [.str "xor", .int 3], .tuple [.str "not", .int 2], .tuple [.str "mux", .int 4]])
theorem small1000' {n : Nat} (h : n < 100000) : n < sizeLine := Nat.lt_of_lt_of_le h (by decide)
theorem hu65_of {A : Around} {k : Nat} (hr : Room k A) : A.units + 65 < cLine := Nat.lt_of_le_of_lt (by omega) hr.un

section
variable {P : Program} {w : World} {K : PySem.W.Frag} {mg : Str → Option Value} {base : Heap}

/-! ### _law_take: some number below -/
def spTake : Sp := fun vs H Q _ => ∃ (a : Addr) (m : Int), vs = [.ref a, .int m] ∧ 0 < m ∧ Deck H a ∧ ∀ (r : Int) (H' : Hp), 0 ≤ r → r < m → But a H H' → Deck H' a → Q (.int r) H'
theorem ok_take {f : Addr} {fd : FuncData} (F : Fun K "_law_take" "_law_take" s__law_take f fd) (T : Txt K mg) : FnOk P w K mg base CX0 1 f fd ["deck", "many"] spTake := by
  refine F.ok sc__law_take (fun vs H Q E h => ?_) (fun cdv A outer s H vs Q E hr h => ?_)
  · obtain ⟨a, m, rfl, _⟩ := h
    rfl
  · obtain ⟨a, m, rfl, hm, ⟨ds, hl, hd⟩, k⟩ := h
    refine ⟨_, (pss_cons (ps_if (pt_cmpR op_eq (pe_callB call_len_seq (by rfl) T.b_len boot_len' (pa_cons (pv 0) pa_nil)) pe_int (nomark _)) (pss_one (ps_ret pe_int)) pss_nil)
      (pss_one (ps_ret (pe_op op_mod (pe_callTy call_int1 (by rfl) T.b_int boot_int' (pa_cons (pe_bm0 PySem.F.plainAttrs_list PySem.F.slot_list_pop PySem.F.type_list_pop mt_pop (pv 0)) pa_nil)) (pv 1))))), ?_⟩
    refine ⟨_, rfl, a, _, rfl, .inl (SqL.of hd), rfl, _, rfl, ?_⟩
    rw [List.length_map]
    refine ite2 (fun hc => ?_) (fun hc => ?_)
    · exact k 0 H (by decide) hm (But.refl _ _) ⟨ds, hl, hd⟩
    · have hne : ds ≠ [] := fun e => hc (by rw [e]; rfl)
      have hp : 0 < ds.length := List.length_pos_iff.mpr hne
      refine ⟨_, rfl, .inl ⟨rfl, _, SqL.of hd⟩, a, _, .int (ds.getLast hne), rfl, rfl, hd, ?_, .inl ⟨_, rfl, _, rfl, _, _, rfl, rfl, hm, ?_⟩⟩
      · rw [List.length_map, List.getElem?_map, List.getLast_eq_getElem, List.getElem?_eq_getElem (by omega)]
        rfl
      · refine k _ _ (Int.emod_nonneg _ (by omega)) (Int.emod_lt_of_pos _ hm) but_upd ⟨ds.dropLast, by rw [List.length_dropLast]; omega, ?_⟩
        rw [upd_same, List.map_dropLast]

/-! ### _law_deck: some ints -/
def spDeck (K : PySem.W.Frag) : Sp := fun vs H Q _ => ∃ (a : Addr) (ns : List Int) (c e : Nat), vs = [.ref a, .int c, .int e] ∧ SqL K H a (ns.map V.int) ∧ ns.length ≤ 1000 ∧ c * e ≤ 2000 ∧ c ≤ 1000 ∧ e ≤ 1000 ∧ ∀ (p : Addr) (H' : Hp), H p = none → Same H H' → Deck H' p → Q (.ref p) H'
theorem ok_deck {f : Addr} {fd : FuncData} (F : Fun K "_law_deck" "_law_deck" s__law_deck f fd) (T : Txt K mg) : FnOk P w K mg base CX0 1 f fd ["script", "cells", "each"] (spDeck K) := by
  refine F.ok sc__law_deck (fun vs H Q E h => ?_) (fun cdv A outer s H vs Q E hr h => ?_)
  · obtain ⟨a, ns, c, e, rfl, _⟩ := h
    rfl
  · obtain ⟨a, ns, c, e, rfl, hS, hn, hce, hc, he, k⟩ := h
    refine ⟨_, (pss_cons (ps_set (i := 3) sc__law_deck.nd rfl (Or.inl rfl) (pe_lst pa_nil))
      (pss_cons (ps_set (i := 4) sc__law_deck.nd rfl (Or.inl rfl) (pe_op op_add pe_int (pe_callB call_len_seq (by rfl) T.b_len boot_len' (pa_cons (pv 0) pa_nil))))
      (pss_cons (ps_for PassesOwn.never rfl (pi_range1 (by rfl) T.b_range (pa_cons (pv 1) pa_nil)) (pg_name (i := 5) sc__law_deck.nd rfl (Or.inl rfl)) (pss_cons (ps_set (i := 6) sc__law_deck.nd rfl (Or.inl rfl) pe_int)
      (pss_cut (ps_if (pt_cmpR op_lt (pv 5) (pe_callB call_len_seq (by rfl) T.b_len boot_len' (pa_cons (pv 0) pa_nil)) (nomark _)) (pss_one (ps_set (i := 6) sc__law_deck.nd rfl (Or.inl rfl) (pe_ix ix_list (pv 0) (pv 5) (fun _ _ => rfl)))) pss_nil)
      (pss_cons (ps_set (i := 7) sc__law_deck.nd rfl (Or.inl rfl) (pe_callB call_abs (by rfl) T.b_abs boot_abs' (pa_cons (pv 6) pa_nil)))
      (pss_one (ps_if (pt_cmpR op_ge (pv 7) (pe_op op_pow pe_int pe_int) (nomark _)) (pss_one (ps_for PassesOwn.never rfl (pi_range1 (by rfl) T.b_range (pa_cons (pv 2) pa_nil)) (pg_name (i := 8) sc__law_deck.nd rfl (Or.inl rfl)) (pss_cons (ps_expr (pe_bm PySem.F.plainAttrs_list PySem.F.slot_list_append PySem.F.type_list_append mt_append (pv 3) (pa_cons (pe_op op_mod (pe_callTy call_int1 (by rfl) T.b_int boot_int' (pa_cons (pv 7) pa_nil)) pe_int) pa_nil)))
      (pss_one (ps_set (i := 7) sc__law_deck.nd rfl (Or.inl rfl) (pe_op op_fdiv (pv 7) pe_int)))))) (pss_cons (ps_set (i := 4) sc__law_deck.nd rfl (Or.inl rfl) (pe_op op_mod (pe_callTy call_int1 (by rfl) T.b_int boot_int' (pa_cons (pe_op op_add (pe_op op_add (pe_op op_add (pe_op op_mul (pv 4) pe_int) (pe_op op_mul pe_int (pv 7))) (pe_callTy call_int1 (by rfl) T.b_int boot_int' (pa_cons (pe_cmpR op_lt (pv 6) pe_int (nomark _)) pa_nil))) (pv 5)) pa_nil)) pe_int))
      (pss_one (ps_for PassesOwn.never rfl (pi_range1 (by rfl) T.b_range (pa_cons (pv 2) pa_nil)) (pg_name (i := 8) sc__law_deck.nd rfl (Or.inl rfl)) (pss_cons (ps_set (i := 4) sc__law_deck.nd rfl (Or.inl rfl) (pe_op op_mod (pe_callTy call_int1 (by rfl) T.b_int boot_int' (pa_cons (pe_op op_add (pe_op op_add (pe_op op_mul (pv 4) pe_int) (pv 8)) pe_int) pa_nil)) pe_int))
      (pss_one (ps_expr (pe_bm PySem.F.plainAttrs_list PySem.F.slot_list_append PySem.F.type_list_append mt_append (pv 3) (pa_cons (pe_op op_mod (pe_callTy call_int1 (by rfl) T.b_int boot_int' (pa_cons (pe_op op_fdiv (pv 4) pe_int) pa_nil)) pe_int) pa_nil))))))))))))))
      (pss_cons (ps_expr (pe_bm0 PySem.F.plainAttrs_list PySem.F.slot_list_reverse PySem.F.type_list_reverse mt_reverse (pv 3)))
      (pss_one (ps_ret (pv 3))))))), ?_⟩
    refine ⟨Nat.zero_le _, fun p hp => ?_⟩
    have hap : a ≠ p → True := fun _ => trivial
    refine ⟨_, rfl, a, _, rfl, .inl ((same_new hp).seq hS), _, _, rfl, rfl, ?_⟩
    rw [List.length_map]
    refine ⟨_, rfl, _, rfl, by omega, by omega, for_range (lo := 0) (n := (c : Int).toNat) (fun i σ H' => ∃ (ds : List Int) (sd : Int) (o1 o2 o3 o4 : Option V),
      σ = [some (.ref a), some (.int c), some (.int e), some (.ref p), some (.int sd), o1, o2, o3, o4] ∧ Same H H' ∧ H' p = some (.lst (ds.map V.int)) ∧ ds.length ≤ i * e ∧ 0 ≤ sd ∧ sd < 2147483647)
      ⟨[], _, none, none, none, none, rfl, same_new hp, upd_same, Nat.zero_le _, by omega, by omega⟩ ?_ ?_⟩
    · rintro i σ H1 hi ⟨ds, sd, o1, o2, o3, o4, rfl, e1, h1, hl, s0, s1⟩
      have hie : (i + 1) * e ≤ 2000 := Nat.le_trans (Nat.mul_le_mul_right e (by omega)) hce
      have hie2 : (i + 1) * e = i * e + e := Nat.succ_mul i e
      -- cell = 0 ; if k < len(script): cell = script[k]
      refine ⟨fun σ' H' => ∃ cl : Int, σ' = [some (.ref a), some (.int c), some (.int e), some (.ref p), some (.int sd), some (.int (0 + (i : Int))), some (.int cl), o3, o4] ∧ H' = H1, ?_, ?_⟩
      · refine ⟨_, rfl, _, rfl, a, _, rfl, .inl (e1.seq hS), _, _, rfl, rfl, _, rfl, ?_⟩
        rw [List.length_map]
        refine ite2 (fun hk => ?_) (fun hk => ⟨0, rfl, rfl⟩)
        have hk' : i < ns.length := by
          have := of_decide_eq_true hk
          omega
        refine ⟨_, rfl, _, rfl, a, _, _, .int ns[i], rfl, rfl, e1.seq hS, ?_, ⟨_, rfl, rfl⟩⟩
        rw [Int.zero_add]
        refine atI_nat ?_
        rw [List.getElem?_map, List.getElem?_eq_getElem hk']
        rfl
      · rintro σ' H' ⟨cl, rfl, rfl⟩
        -- rest = abs(cell)
        refine ⟨_, rfl, _, rfl, ?_⟩
        -- if rest >= 10 ** 30
        refine ⟨_, rfl, _, _, rfl, rfl, ⟨by decide, by decide, by decide⟩, _, _, rfl, rfl, _, rfl, ?_⟩
        have hrest : 0 ≤ (if cl < 0 then -cl else cl) := by split <;> omega
        generalize (if cl < 0 then -cl else cl) = rest at hrest
        refine ite2 (fun hb => ?_) (fun hb => ?_)
        · refine ⟨_, rfl, _, rfl, by omega, by omega, for_range (lo := 0) (n := (e : Int).toNat) (fun j σ H2 => ∃ (es : List Int) (rs : Int) (o : Option V),
            σ = [some (.ref a), some (.int c), some (.int e), some (.ref p), some (.int sd), some (.int (0 + (i : Int))), some (.int cl), some (.int rs), o] ∧ Same H H2 ∧ H2 p = some (.lst (es.map V.int)) ∧ es.length ≤ i * e + j)
            ⟨ds, rest, o4, rfl, e1, h1, hl⟩ ?_ ?_⟩
          · rintro j σ H2 hj ⟨es, rs, o, rfl, e2, h2, hl2⟩
            refine ⟨_, rfl, .inl ⟨rfl, _, SqL.of h2⟩, _, rfl, .inl ⟨_, rfl, _, _, rfl, rfl, (by decide : (0 : Int) < 1000003), ?_⟩⟩
            refine ⟨_, _, _, rfl, rfl, h2, small1000' (by rw [List.length_map]; omega), ?_⟩
            refine ⟨_, rfl, _, _, rfl, rfl, ⟨by decide, by decide⟩, ?_⟩
            refine ⟨es ++ [_], _, _, rfl, same_mut e2 hp, by rw [upd_same, List.map_append]; rfl, by rw [List.length_append, List.length_singleton]; omega⟩
          · rintro σ H2 ⟨es, rs, o, rfl, e2, h2, hl2⟩
            exact ⟨es, sd, _, _, _, _, rfl, e2, h2, by omega, s0, s1⟩
        · have hb2 : rest < 10 ^ 30 := by
            have := hb
            simp only [decide_eq_true_eq] at this
            have h3 : ((10 : Int) ^ (30 : Int).toNat) = 10 ^ 30 := by decide
            omega
          refine ⟨_, rfl, _, _, rfl, rfl, .inl ⟨by omega, by omega⟩, _, rfl, _, _, rfl, rfl, .inl ⟨by decide, by decide⟩, _, _, rfl, rfl, ?_⟩
          refine ⟨_, rfl, _, _, rfl, rfl, .inr ⟨_, rfl, _, _, rfl, rfl, _, rfl, _, _, rfl, rfl, .inl ⟨_, rfl, _, _, rfl, rfl, (by decide : (0 : Int) < 2147483647), ?_⟩⟩⟩
          refine ⟨_, rfl, _, rfl, by omega, by omega, for_range (lo := 0) (n := (e : Int).toNat) (fun j σ H2 => ∃ (es : List Int) (se : Int) (o : Option V),
            σ = [some (.ref a), some (.int c), some (.int e), some (.ref p), some (.int se), some (.int (0 + (i : Int))), some (.int cl), some (.int rest), o] ∧ Same H H2 ∧ H2 p = some (.lst (es.map V.int)) ∧ es.length ≤ i * e + j ∧ 0 ≤ se ∧ se < 2147483647)
            ⟨ds, _, o4, rfl, e1, h1, hl, Int.emod_nonneg _ (by decide), Int.emod_lt_of_pos _ (by decide)⟩ ?_ ?_⟩
          · rintro j σ H2 hj ⟨es, se, o, rfl, e2, h2, hl2, u0, u1⟩
            refine ⟨_, rfl, _, _, rfl, rfl, .inl ⟨by omega, by omega⟩, _, rfl, _, _, rfl, rfl, _, _, rfl, rfl, .inl ⟨_, rfl, _, _, rfl, rfl, (by decide : (0 : Int) < 2147483629), ?_⟩⟩
            have v1 := Int.emod_lt_of_pos (se * 69621 + (0 + (j : Int)) + 1) (by decide : (0 : Int) < 2147483629)
            refine ⟨_, rfl, .inl ⟨rfl, _, SqL.of h2⟩, _, rfl, _, _, rfl, rfl, ⟨by decide, by decide⟩, .inl ⟨_, rfl, _, _, rfl, rfl, (by decide : (0 : Int) < 1000003), ?_⟩⟩
            refine ⟨_, _, _, rfl, rfl, h2, small1000' (by rw [List.length_map]; omega), ?_⟩
            exact ⟨es ++ [_], _, _, rfl, same_mut e2 hp, by rw [upd_same, List.map_append]; rfl, by rw [List.length_append, List.length_singleton]; omega, Int.emod_nonneg _ (by decide), Int.lt_trans v1 (by decide)⟩
          · rintro σ H2 ⟨es, se, o, rfl, e2, h2, hl2, u0, u1⟩
            exact ⟨es, se, _, _, _, _, rfl, e2, h2, by omega, u0, u1⟩
    · rintro σ H1 ⟨ds, sd, o1, o2, o3, o4, rfl, e1, h1, hl, s0, s1⟩
      refine ⟨_, rfl, .inl ⟨rfl, _, SqL.of h1⟩, p, _, rfl, rfl, h1, ?_⟩
      refine ⟨_, rfl, k p _ hp (same_mut e1 hp) ⟨ds.reverse, by rw [List.length_reverse]; have : (c : Int).toNat * e = c * e := rfl; omega, by rw [upd_same, List.map_reverse]⟩⟩

/-! ### _law_plain -/
mutual
def plain : PyData → PyData
  | .tuple ds => .list (.bool false :: plains ds)
  | .list ds => .list (.bool true :: plains ds)
  | .none => .str "None"
  | .bool b => .str (if b then "True" else "False")
  | .int i => .list [.bool false, .int i]
  | .str z => .list [.bool true, .str z]
  | .dict _ => .str "another"
def plains : List PyData → List PyData
  | [] => []
  | d :: r => plain d :: plains r
end
theorem plains_map : ∀ ds : List PyData, plains ds = ds.map plain
  | [] => rfl
  | d :: r => by rw [plains, plains_map r, List.map_cons]
mutual
/-- how deep, with no dict in it and no list too long -/
def tall : PyData → Nat → Prop
  | .tuple ds, n + 1 => ds.length ≤ 10000 ∧ talls ds n
  | .list ds, n + 1 => ds.length ≤ 10000 ∧ talls ds n
  | .tuple _, 0 => False
  | .list _, 0 => False
  | .dict _, _ => False
  | _, _ => True
def talls : List PyData → Nat → Prop
  | [], _ => True
  | d :: r, n => tall d n ∧ talls r n
end
theorem talls_get : ∀ {ds : List PyData} {n i : Nat} {d : PyData}, talls ds n → ds[i]? = some d → tall d n
  | [], _, i, d, _, e => by simp at e
  | _ :: _, _, 0, d, h, e => by
    simp at e
    subst e
    exact h.1
  | _ :: r, n, i + 1, d, h, e => talls_get (ds := r) h.2 (by simpa using e)
theorem talls_mem {ds : List PyData} {n : Nat} {d : PyData} (h : talls ds n) (hm : d ∈ ds) : tall d n := by
  obtain ⟨i, hi⟩ := List.mem_iff_getElem?.mp hm
  exact talls_get h hi
def spPlain (K : PySem.W.Frag) : Nat → Sp
  | 0 => fun _ _ _ _ => False
  | n + 1 => fun vs H Q _ => ∃ (v : V) (d : PyData), vs = [v] ∧ Dp K H v d ∧ tall d n ∧ ∀ (u : V) (H' : Hp), Same H H' → Dp K H' u (plain d) → Q u H'
theorem spPlain_mono {K : PySem.W.Frag} {n : Nat} {vs : List V} {H : Hp} {E : XK} (Q1 Q2 : VK) (q : ∀ v G', Q1 v G' → Q2 v G') (h : spPlain K n vs H Q1 E) : spPlain K n vs H Q2 E := by
  cases n with
  | zero => exact h
  | succ n =>
    obtain ⟨v, d, e, h1, h2, k⟩ := h
    exact ⟨v, d, e, h1, h2, fun u H' s p => q u H' (k u H' s p)⟩
theorem plain_step {K : PySem.W.Frag} {n : Nat} {G : Hp} {D : Addr} {acc : List V} {v : V} {d : PyData} {Q : VK} {E : XK} (hD : G D = none) (hd : Dp K G v d) (ht : tall d n)
    (h : ∀ (u : V) (G' : Hp), Same G G' → G' D = none → Dp K G' u (plain d) → Q u (upd G' D (.lst acc))) : fr (spPlain K (n + 1)) [v] (upd G D (.lst acc)) Q E :=
  fr_one hD ⟨v, d, rfl, hd, ht, fun u G' s p hn => h u G' s hn p⟩ fun Q1 Q2 q z => spPlain_mono Q1 Q2 q z
theorem ok_plain {f : Addr} {fd : FuncData} (F : Fun K "_law_plain" "_law_plain" s__law_plain f fd) (T : Txt K mg) (hm : mg "_law_plain" = some (.ref f)) (b : Binds K fd ["value"] []) : ∀ n : Nat, FnOk P w K mg base CX0 n f fd ["value"] (spPlain K n) := by
  intro n
  induction n with
  | zero => exact ⟨fun _ _ _ _ h => h.elim, fun _ _ _ _ _ _ _ _ _ _ _ _ _ h => h.elim⟩
  | succ n ih =>
    have c__law_plain : Cal P w K mg base n "_law_plain" (fr (spPlain K n)) [] := ⟨f, fd, _, _, fn_fr ih, hm, F.kp, b, .nil⟩
    refine F.ok sc__law_plain (fun vs H Q E h => ?_) (fun cdv A outer s H vs Q E hr h => ?_)
    · obtain ⟨v, d, rfl, _⟩ := h
      rfl
    · obtain ⟨v, d, rfl, hd, ht, k⟩ := h
      cases d with
      | tuple ds =>
        cases n with
        | zero => exact ht.elim
        | succ n =>
          obtain ⟨hl, ht⟩ := ht
          obtain ⟨a, xs, rfl, hx, hxs⟩ := dp_tup hd
          refine ⟨_, (pss_cons (ps_if (pt_val (pe_callB call_isiT (by rfl) T.b_isinstance boot_isinstance' (pa_cons (pv 0) (pa_cons (pe_tup (pa_cons (pe_bltn (v := .ty "tuple") (by rfl) T.b_tuple boot_tuple' rfl) (pa_cons (pe_bltn (v := .ty "list") (by rfl) T.b_list boot_list' rfl) pa_nil))) pa_nil)))) (pss_one (ps_ret (pe_op op_cat (pe_lst (pa_cons (pe_callB call_isi (by rfl) T.b_isinstance boot_isinstance' (pa_cons (pv 0) (pa_cons (pe_bltn (v := .ty "list") (by rfl) T.b_list boot_list' rfl) pa_nil))) pa_nil)) (pe_lc (own := [("item", 1)]) rfl sc__law_plain.nd (pi_tup (pv 0)) (blkOk_by (own := [("item", 1)]) (N := ["value", "item"]) (sc := defScope s__law_plain) (by decide +kernel)) (fun _ _ _ _ _ => (pg_name (i := 1) sc__law_plain.nd rfl (Or.inl rfl))) (fun _ _ _ _ _ => pts_nil) (fun _ _ _ _ _ => (pe_c c__law_plain hr (by omega) rfl (pa_cons (pv 1) pa_nil))))))) pss_nil)
      (pss_cons (ps_if (PW.pt (pw_or (pt_cmpR op_isN (pv 0) pe_non (nomark _)) (pw_or1 (pt_val (pe_callB call_isi (by rfl) T.b_isinstance boot_isinstance' (pa_cons (pv 0) (pa_cons (pe_bltn (v := .ty "bool") (by rfl) T.b_bool boot_bool' rfl) pa_nil))))))) (pss_one (ps_ret (pe_ix ix_list (pe_lst (pa_cons pe_str (pa_cons pe_str (pa_cons pe_str pa_nil)))) (pe_op op_add (pe_callTy call_int1 (by rfl) T.b_int boot_int' (pa_cons (pe_cmpR op_notN (pv 0) pe_non (nomark _)) pa_nil)) (pe_callTy call_int1 (by rfl) T.b_int boot_int' (pa_cons (pe_cmpR op_isX (pv 0) pe_bl (nomark _)) pa_nil))) (fun _ _ => rfl)))) pss_nil)
      (pss_cons (ps_if (pt_val (pe_callB call_isiT (by rfl) T.b_isinstance boot_isinstance' (pa_cons (pv 0) (pa_cons (pe_tup (pa_cons (pe_bltn (v := .ty "int") (by rfl) T.b_int boot_int' rfl) (pa_cons (pe_bltn (v := .ty "str") (by rfl) T.b_str boot_str' rfl) pa_nil))) pa_nil)))) (pss_one (ps_ret (pe_lst (pa_cons (pe_callB call_isi (by rfl) T.b_isinstance boot_isinstance' (pa_cons (pv 0) (pa_cons (pe_bltn (v := .ty "str") (by rfl) T.b_str boot_str' rfl) pa_nil))) (pa_cons (pv 0) pa_nil))))) pss_nil)
      (pss_one (ps_ret pe_str))))), ?_⟩
          refine ⟨_, rfl, by decide, fun p1 n1 => ?_⟩
          refine ⟨_, _, _, _, _, _, rfl, upd_same, clsv2 _ _, dp_ty (dp_same (same_new n1) hd), kitD2 K _ _ _ (by decide) (by decide), _, rfl, iteT ?_⟩
          refine ⟨_, rfl, _, _, _, _, _, rfl, .ty _, dp_ty (dp_same (same_new n1) hd), kitD K _ _ (by decide), (show 1 ≤ sizeLine by decide), fun p2 n2 => ?_⟩
          have s2 := (same_new (o := HO.tup [V.ty "tuple", V.ty "list"]) n1).trans (same_new (o := HO.lst [V.bl (isD "list" (.tuple ds))]) n2)
          refine ⟨_, rfl, a, rfl, ⟨_, Same.tup s2 hx⟩, fun D hD => lc_dataT (K := K) (a := a) (xs := xs) (ds := ds) (fun _ => true) plain (Same.tup s2 hx) (dps_same s2 hxs) hD (by omega) ?_ ?_⟩
          · intro v d G acc R dm hv sG hG ha _ hk
            refine ⟨rfl, _, rfl, ?_⟩
            refine plain_step hG hv (talls_mem ht dm) fun u G' s' hG' du => ⟨acc, upd_same, ha, ?_⟩
            rw [upd_app]
            exact hk rfl G' u s' hG' du
          · intro G ys sG hG hys
            have hF : ds.filter (fun _ => true) = ds := List.filter_eq_self.mpr fun _ _ => rfl
            rw [hF] at hys
            have hp2 : G p2 = some (.lst [V.bl (isD "list" (.tuple ds))]) := sG _ _ upd_same
            refine ⟨p2, D, _, _, rfl, rfl, by rw [upd_ne (ne_of_none hp2 hG)]; exact hp2, upd_same, ?_, fun p n3 => ?_⟩
            · show 1 + ys.length ≤ sizeLine
              have q := dps_len hys
              rw [List.length_map] at q
              exact Nat.le_of_lt (small1000' (by omega))
            · have s4 : Same G (upd (upd G D (.lst ys)) p (.lst ([V.bl (isD "list" (.tuple ds))] ++ ys))) := (same_new hG).trans (same_new n3)
              refine k _ _ (s2.trans (sG.trans s4)) (.lst (SqL.of upd_same) (.cons ?_ ?_))
              · exact .bl _
              · rw [plains_map]
                exact dps_same s4 hys
      | list ds =>
        cases n with
        | zero => exact ht.elim
        | succ n =>
          obtain ⟨hl, ht⟩ := ht
          obtain ⟨a, xs, rfl, hx, hxs⟩ := dp_lst hd
          refine ⟨_, (pss_cons (ps_if (pt_val (pe_callB call_isiT (by rfl) T.b_isinstance boot_isinstance' (pa_cons (pv 0) (pa_cons (pe_tup (pa_cons (pe_bltn (v := .ty "tuple") (by rfl) T.b_tuple boot_tuple' rfl) (pa_cons (pe_bltn (v := .ty "list") (by rfl) T.b_list boot_list' rfl) pa_nil))) pa_nil)))) (pss_one (ps_ret (pe_op op_cat (pe_lst (pa_cons (pe_callB call_isi (by rfl) T.b_isinstance boot_isinstance' (pa_cons (pv 0) (pa_cons (pe_bltn (v := .ty "list") (by rfl) T.b_list boot_list' rfl) pa_nil))) pa_nil)) (pe_lc (own := [("item", 1)]) rfl sc__law_plain.nd (pi_list (pv 0)) (blkOk_by (own := [("item", 1)]) (N := ["value", "item"]) (sc := defScope s__law_plain) (by decide +kernel)) (fun _ _ _ _ _ => (pg_name (i := 1) sc__law_plain.nd rfl (Or.inl rfl))) (fun _ _ _ _ _ => pts_nil) (fun _ _ _ _ _ => (pe_c c__law_plain hr (by omega) rfl (pa_cons (pv 1) pa_nil))))))) pss_nil)
      (pss_cons (ps_if (PW.pt (pw_or (pt_cmpR op_isN (pv 0) pe_non (nomark _)) (pw_or1 (pt_val (pe_callB call_isi (by rfl) T.b_isinstance boot_isinstance' (pa_cons (pv 0) (pa_cons (pe_bltn (v := .ty "bool") (by rfl) T.b_bool boot_bool' rfl) pa_nil))))))) (pss_one (ps_ret (pe_ix ix_list (pe_lst (pa_cons pe_str (pa_cons pe_str (pa_cons pe_str pa_nil)))) (pe_op op_add (pe_callTy call_int1 (by rfl) T.b_int boot_int' (pa_cons (pe_cmpR op_notN (pv 0) pe_non (nomark _)) pa_nil)) (pe_callTy call_int1 (by rfl) T.b_int boot_int' (pa_cons (pe_cmpR op_isX (pv 0) pe_bl (nomark _)) pa_nil))) (fun _ _ => rfl)))) pss_nil)
      (pss_cons (ps_if (pt_val (pe_callB call_isiT (by rfl) T.b_isinstance boot_isinstance' (pa_cons (pv 0) (pa_cons (pe_tup (pa_cons (pe_bltn (v := .ty "int") (by rfl) T.b_int boot_int' rfl) (pa_cons (pe_bltn (v := .ty "str") (by rfl) T.b_str boot_str' rfl) pa_nil))) pa_nil)))) (pss_one (ps_ret (pe_lst (pa_cons (pe_callB call_isi (by rfl) T.b_isinstance boot_isinstance' (pa_cons (pv 0) (pa_cons (pe_bltn (v := .ty "str") (by rfl) T.b_str boot_str' rfl) pa_nil))) (pa_cons (pv 0) pa_nil))))) pss_nil)
      (pss_one (ps_ret pe_str))))), ?_⟩
          refine ⟨_, rfl, by decide, fun p1 n1 => ?_⟩
          refine ⟨_, _, _, _, _, _, rfl, upd_same, clsv2 _ _, dp_ty (dp_same (same_new n1) hd), kitD2 K _ _ _ (by decide) (by decide), _, rfl, iteT ?_⟩
          refine ⟨_, rfl, _, _, _, _, _, rfl, .ty _, dp_ty (dp_same (same_new n1) hd), kitD K _ _ (by decide), (show 1 ≤ sizeLine by decide), fun p2 n2 => ?_⟩
          have s2 := (same_new (o := HO.tup [V.ty "tuple", V.ty "list"]) n1).trans (same_new (o := HO.lst [V.bl (isD "list" (.list ds))]) n2)
          refine ⟨_, rfl, a, rfl, ⟨_, s2.seq hx⟩, fun D hD => lc_data (K := K) (a := a) (xs := xs) (ds := ds) (fun _ => true) plain (s2.seq hx) (dps_same s2 hxs) hD (by omega) ?_ ?_⟩
          · intro v d G acc R dm hv sG hG ha _ hk
            refine ⟨rfl, _, rfl, ?_⟩
            refine plain_step hG hv (talls_mem ht dm) fun u G' s' hG' du => ⟨acc, upd_same, ha, ?_⟩
            rw [upd_app]
            exact hk rfl G' u s' hG' du
          · intro G ys sG hG hys
            have hF : ds.filter (fun _ => true) = ds := List.filter_eq_self.mpr fun _ _ => rfl
            rw [hF] at hys
            have hp2 : G p2 = some (.lst [V.bl (isD "list" (.list ds))]) := sG _ _ upd_same
            refine ⟨p2, D, _, _, rfl, rfl, by rw [upd_ne (ne_of_none hp2 hG)]; exact hp2, upd_same, ?_, fun p n3 => ?_⟩
            · show 1 + ys.length ≤ sizeLine
              have q := dps_len hys
              rw [List.length_map] at q
              exact Nat.le_of_lt (small1000' (by omega))
            · have s4 : Same G (upd (upd G D (.lst ys)) p (.lst ([V.bl (isD "list" (.list ds))] ++ ys))) := (same_new hG).trans (same_new n3)
              refine k _ _ (s2.trans (sG.trans s4)) (.lst (SqL.of upd_same) (.cons ?_ ?_))
              · exact .bl _
              · rw [plains_map]
                exact dps_same s4 hys
      | dict _ => cases hd
      | none =>
        cases dp_non hd
        refine ⟨_, (pss_cons (ps_if (pt_val (pe_callB call_isiT (by rfl) T.b_isinstance boot_isinstance' (pa_cons (pv 0) (pa_cons (pe_tup (pa_cons (pe_bltn (v := .ty "tuple") (by rfl) T.b_tuple boot_tuple' rfl) (pa_cons (pe_bltn (v := .ty "list") (by rfl) T.b_list boot_list' rfl) pa_nil))) pa_nil)))) (pss_one (ps_ret (pe_op op_cat (pe_lst (pa_cons (pe_callB call_isi (by rfl) T.b_isinstance boot_isinstance' (pa_cons (pv 0) (pa_cons (pe_bltn (v := .ty "list") (by rfl) T.b_list boot_list' rfl) pa_nil))) pa_nil)) (pe_lc (own := [("item", 1)]) rfl sc__law_plain.nd (pi_list (pv 0)) (blkOk_by (own := [("item", 1)]) (N := ["value", "item"]) (sc := defScope s__law_plain) (by decide +kernel)) (fun _ _ _ _ _ => (pg_name (i := 1) sc__law_plain.nd rfl (Or.inl rfl))) (fun _ _ _ _ _ => pts_nil) (fun _ _ _ _ _ => (pe_c c__law_plain hr (by omega) rfl (pa_cons (pv 1) pa_nil))))))) pss_nil)
      (pss_cons (ps_if (PW.pt (pw_or (pt_cmpR op_isN (pv 0) pe_non (nomark _)) (pw_or1 (pt_val (pe_callB call_isi (by rfl) T.b_isinstance boot_isinstance' (pa_cons (pv 0) (pa_cons (pe_bltn (v := .ty "bool") (by rfl) T.b_bool boot_bool' rfl) pa_nil))))))) (pss_one (ps_ret (pe_ix ix_list (pe_lst (pa_cons pe_str (pa_cons pe_str (pa_cons pe_str pa_nil)))) (pe_op op_add (pe_callTy call_int1 (by rfl) T.b_int boot_int' (pa_cons (pe_cmpR op_notN (pv 0) pe_non (nomark _)) pa_nil)) (pe_callTy call_int1 (by rfl) T.b_int boot_int' (pa_cons (pe_cmpR op_isX (pv 0) pe_bl (nomark _)) pa_nil))) (fun _ _ => rfl)))) pss_nil)
      (pss_cons (ps_if (pt_val (pe_callB call_isiT (by rfl) T.b_isinstance boot_isinstance' (pa_cons (pv 0) (pa_cons (pe_tup (pa_cons (pe_bltn (v := .ty "int") (by rfl) T.b_int boot_int' rfl) (pa_cons (pe_bltn (v := .ty "str") (by rfl) T.b_str boot_str' rfl) pa_nil))) pa_nil)))) (pss_one (ps_ret (pe_lst (pa_cons (pe_callB call_isi (by rfl) T.b_isinstance boot_isinstance' (pa_cons (pv 0) (pa_cons (pe_bltn (v := .ty "str") (by rfl) T.b_str boot_str' rfl) pa_nil))) (pa_cons (pv 0) pa_nil))))) pss_nil)
      (pss_one (ps_ret pe_str))))), ?_⟩
        refine ⟨_, rfl, by decide, fun p1 n1 => ?_⟩
        refine ⟨_, _, _, _, _, _, rfl, upd_same, clsv2 _ _, dp_ty (dp_same (same_new n1) hd), kitD2 K _ _ _ (by decide) (by decide), _, rfl, iteF ?_⟩
        refine ⟨_, rfl, rfl, _, rfl, iteT (iteT ?_)⟩
        refine ⟨(show 3 ≤ sizeLine by decide), fun p2 n2 => ?_⟩
        refine ⟨_, rfl, rfl, .inr ⟨_, rfl, _, rfl, _, rfl, .inl rfl, .inr ⟨_, rfl, _, _, rfl, rfl, p2, _, 0, .str "None", rfl, rfl, SqL.of upd_same, rfl, ?_⟩⟩⟩
        exact k _ _ ((same_new n1).trans (same_new n2)) (.str _)
      | bool z =>
        cases dp_bl hd
        refine ⟨_, (pss_cons (ps_if (pt_val (pe_callB call_isiT (by rfl) T.b_isinstance boot_isinstance' (pa_cons (pv 0) (pa_cons (pe_tup (pa_cons (pe_bltn (v := .ty "tuple") (by rfl) T.b_tuple boot_tuple' rfl) (pa_cons (pe_bltn (v := .ty "list") (by rfl) T.b_list boot_list' rfl) pa_nil))) pa_nil)))) (pss_one (ps_ret (pe_op op_cat (pe_lst (pa_cons (pe_callB call_isi (by rfl) T.b_isinstance boot_isinstance' (pa_cons (pv 0) (pa_cons (pe_bltn (v := .ty "list") (by rfl) T.b_list boot_list' rfl) pa_nil))) pa_nil)) (pe_lc (own := [("item", 1)]) rfl sc__law_plain.nd (pi_list (pv 0)) (blkOk_by (own := [("item", 1)]) (N := ["value", "item"]) (sc := defScope s__law_plain) (by decide +kernel)) (fun _ _ _ _ _ => (pg_name (i := 1) sc__law_plain.nd rfl (Or.inl rfl))) (fun _ _ _ _ _ => pts_nil) (fun _ _ _ _ _ => (pe_c c__law_plain hr (by omega) rfl (pa_cons (pv 1) pa_nil))))))) pss_nil)
      (pss_cons (ps_if (PW.pt (pw_or (pt_cmpR op_isN (pv 0) pe_non (nomark _)) (pw_or1 (pt_val (pe_callB call_isi (by rfl) T.b_isinstance boot_isinstance' (pa_cons (pv 0) (pa_cons (pe_bltn (v := .ty "bool") (by rfl) T.b_bool boot_bool' rfl) pa_nil))))))) (pss_one (ps_ret (pe_ix ix_list (pe_lst (pa_cons pe_str (pa_cons pe_str (pa_cons pe_str pa_nil)))) (pe_op op_add (pe_callTy call_int1 (by rfl) T.b_int boot_int' (pa_cons (pe_cmpR op_notN (pv 0) pe_non (nomark _)) pa_nil)) (pe_callTy call_int1 (by rfl) T.b_int boot_int' (pa_cons (pe_cmpR op_isX (pv 0) pe_bl (nomark _)) pa_nil))) (fun _ _ => rfl)))) pss_nil)
      (pss_cons (ps_if (pt_val (pe_callB call_isiT (by rfl) T.b_isinstance boot_isinstance' (pa_cons (pv 0) (pa_cons (pe_tup (pa_cons (pe_bltn (v := .ty "int") (by rfl) T.b_int boot_int' rfl) (pa_cons (pe_bltn (v := .ty "str") (by rfl) T.b_str boot_str' rfl) pa_nil))) pa_nil)))) (pss_one (ps_ret (pe_lst (pa_cons (pe_callB call_isi (by rfl) T.b_isinstance boot_isinstance' (pa_cons (pv 0) (pa_cons (pe_bltn (v := .ty "str") (by rfl) T.b_str boot_str' rfl) pa_nil))) (pa_cons (pv 0) pa_nil))))) pss_nil)
      (pss_one (ps_ret pe_str))))), ?_⟩
        refine ⟨_, rfl, by decide, fun p1 n1 => ?_⟩
        refine ⟨_, _, _, _, _, _, rfl, upd_same, clsv2 _ _, dp_ty (dp_same (same_new n1) hd), kitD2 K _ _ _ (by decide) (by decide), _, rfl, iteF ?_⟩
        refine ⟨_, rfl, rfl, _, rfl, iteF ⟨_, rfl, _, _, _, _, _, rfl, .ty _, dp_ty (dp_same (same_new n1) hd), kitD K _ _ (by decide), _, rfl, iteT ?_⟩⟩
        refine ⟨(show 3 ≤ sizeLine by decide), fun p2 n2 => ?_⟩
        cases z with
        | true =>
          refine ⟨_, rfl, rfl, .inr ⟨_, rfl, _, rfl, _, rfl, .inr (.inl ⟨_, rfl⟩), .inr ⟨_, rfl, _, _, rfl, rfl, p2, _, 2, .str "True", rfl, rfl, SqL.of upd_same, rfl, ?_⟩⟩⟩
          exact k _ _ ((same_new n1).trans (same_new n2)) (.str _)
        | false =>
          refine ⟨_, rfl, rfl, .inr ⟨_, rfl, _, rfl, _, rfl, .inr (.inl ⟨_, rfl⟩), .inr ⟨_, rfl, _, _, rfl, rfl, p2, _, 1, .str "False", rfl, rfl, SqL.of upd_same, rfl, ?_⟩⟩⟩
          exact k _ _ ((same_new n1).trans (same_new n2)) (.str _)
      | int i =>
        cases dp_int hd
        refine ⟨_, (pss_cons (ps_if (pt_val (pe_callB call_isiT (by rfl) T.b_isinstance boot_isinstance' (pa_cons (pv 0) (pa_cons (pe_tup (pa_cons (pe_bltn (v := .ty "tuple") (by rfl) T.b_tuple boot_tuple' rfl) (pa_cons (pe_bltn (v := .ty "list") (by rfl) T.b_list boot_list' rfl) pa_nil))) pa_nil)))) (pss_one (ps_ret (pe_op op_cat (pe_lst (pa_cons (pe_callB call_isi (by rfl) T.b_isinstance boot_isinstance' (pa_cons (pv 0) (pa_cons (pe_bltn (v := .ty "list") (by rfl) T.b_list boot_list' rfl) pa_nil))) pa_nil)) (pe_lc (own := [("item", 1)]) rfl sc__law_plain.nd (pi_list (pv 0)) (blkOk_by (own := [("item", 1)]) (N := ["value", "item"]) (sc := defScope s__law_plain) (by decide +kernel)) (fun _ _ _ _ _ => (pg_name (i := 1) sc__law_plain.nd rfl (Or.inl rfl))) (fun _ _ _ _ _ => pts_nil) (fun _ _ _ _ _ => (pe_c c__law_plain hr (by omega) rfl (pa_cons (pv 1) pa_nil))))))) pss_nil)
      (pss_cons (ps_if (PW.pt (pw_or (pt_cmpR op_isN (pv 0) pe_non (nomark _)) (pw_or1 (pt_val (pe_callB call_isi (by rfl) T.b_isinstance boot_isinstance' (pa_cons (pv 0) (pa_cons (pe_bltn (v := .ty "bool") (by rfl) T.b_bool boot_bool' rfl) pa_nil))))))) (pss_one (ps_ret (pe_ix ix_list (pe_lst (pa_cons pe_str (pa_cons pe_str (pa_cons pe_str pa_nil)))) (pe_op op_add (pe_callTy call_int1 (by rfl) T.b_int boot_int' (pa_cons (pe_cmpR op_notN (pv 0) pe_non (nomark _)) pa_nil)) (pe_callTy call_int1 (by rfl) T.b_int boot_int' (pa_cons (pe_cmpR op_isX (pv 0) pe_bl (nomark _)) pa_nil))) (fun _ _ => rfl)))) pss_nil)
      (pss_cons (ps_if (pt_val (pe_callB call_isiT (by rfl) T.b_isinstance boot_isinstance' (pa_cons (pv 0) (pa_cons (pe_tup (pa_cons (pe_bltn (v := .ty "int") (by rfl) T.b_int boot_int' rfl) (pa_cons (pe_bltn (v := .ty "str") (by rfl) T.b_str boot_str' rfl) pa_nil))) pa_nil)))) (pss_one (ps_ret (pe_lst (pa_cons (pe_callB call_isi (by rfl) T.b_isinstance boot_isinstance' (pa_cons (pv 0) (pa_cons (pe_bltn (v := .ty "str") (by rfl) T.b_str boot_str' rfl) pa_nil))) (pa_cons (pv 0) pa_nil))))) pss_nil)
      (pss_one (ps_ret pe_str))))), ?_⟩
        refine ⟨_, rfl, by decide, fun p1 n1 => ?_⟩
        refine ⟨_, _, _, _, _, _, rfl, upd_same, clsv2 _ _, dp_ty (dp_same (same_new n1) hd), kitD2 K _ _ _ (by decide) (by decide), _, rfl, iteF ?_⟩
        refine ⟨_, rfl, rfl, _, rfl, iteF ⟨_, rfl, _, _, _, _, _, rfl, .ty _, dp_ty (dp_same (same_new n1) hd), kitD K _ _ (by decide), _, rfl, iteF ?_⟩⟩
        refine ⟨_, rfl, by decide, fun p2 n2 => ?_⟩
        have s2 := (same_new (o := HO.tup [V.ty "tuple", V.ty "list"]) n1).trans (same_new (o := HO.tup [V.ty "int", V.ty "str"]) n2)
        refine ⟨_, _, _, _, _, _, rfl, upd_same, clsv2 _ _, dp_ty (dp_same s2 hd), kitD2 K _ _ _ (by decide) (by decide), _, rfl, iteT ?_⟩
        refine ⟨_, rfl, _, _, _, _, _, rfl, .ty _, dp_ty (dp_same s2 hd), kitD K _ _ (by decide), _, rfl, (show 2 ≤ sizeLine by decide), fun p3 n3 => ?_⟩
        exact k _ _ (s2.trans (same_new n3)) (.lst (SqL.of upd_same) (.cons (.bl _) (.cons (.int _) .nil)))
      | str z =>
        cases dp_str hd
        refine ⟨_, (pss_cons (ps_if (pt_val (pe_callB call_isiT (by rfl) T.b_isinstance boot_isinstance' (pa_cons (pv 0) (pa_cons (pe_tup (pa_cons (pe_bltn (v := .ty "tuple") (by rfl) T.b_tuple boot_tuple' rfl) (pa_cons (pe_bltn (v := .ty "list") (by rfl) T.b_list boot_list' rfl) pa_nil))) pa_nil)))) (pss_one (ps_ret (pe_op op_cat (pe_lst (pa_cons (pe_callB call_isi (by rfl) T.b_isinstance boot_isinstance' (pa_cons (pv 0) (pa_cons (pe_bltn (v := .ty "list") (by rfl) T.b_list boot_list' rfl) pa_nil))) pa_nil)) (pe_lc (own := [("item", 1)]) rfl sc__law_plain.nd (pi_list (pv 0)) (blkOk_by (own := [("item", 1)]) (N := ["value", "item"]) (sc := defScope s__law_plain) (by decide +kernel)) (fun _ _ _ _ _ => (pg_name (i := 1) sc__law_plain.nd rfl (Or.inl rfl))) (fun _ _ _ _ _ => pts_nil) (fun _ _ _ _ _ => (pe_c c__law_plain hr (by omega) rfl (pa_cons (pv 1) pa_nil))))))) pss_nil)
      (pss_cons (ps_if (PW.pt (pw_or (pt_cmpR op_isN (pv 0) pe_non (nomark _)) (pw_or1 (pt_val (pe_callB call_isi (by rfl) T.b_isinstance boot_isinstance' (pa_cons (pv 0) (pa_cons (pe_bltn (v := .ty "bool") (by rfl) T.b_bool boot_bool' rfl) pa_nil))))))) (pss_one (ps_ret (pe_ix ix_list (pe_lst (pa_cons pe_str (pa_cons pe_str (pa_cons pe_str pa_nil)))) (pe_op op_add (pe_callTy call_int1 (by rfl) T.b_int boot_int' (pa_cons (pe_cmpR op_notN (pv 0) pe_non (nomark _)) pa_nil)) (pe_callTy call_int1 (by rfl) T.b_int boot_int' (pa_cons (pe_cmpR op_isX (pv 0) pe_bl (nomark _)) pa_nil))) (fun _ _ => rfl)))) pss_nil)
      (pss_cons (ps_if (pt_val (pe_callB call_isiT (by rfl) T.b_isinstance boot_isinstance' (pa_cons (pv 0) (pa_cons (pe_tup (pa_cons (pe_bltn (v := .ty "int") (by rfl) T.b_int boot_int' rfl) (pa_cons (pe_bltn (v := .ty "str") (by rfl) T.b_str boot_str' rfl) pa_nil))) pa_nil)))) (pss_one (ps_ret (pe_lst (pa_cons (pe_callB call_isi (by rfl) T.b_isinstance boot_isinstance' (pa_cons (pv 0) (pa_cons (pe_bltn (v := .ty "str") (by rfl) T.b_str boot_str' rfl) pa_nil))) (pa_cons (pv 0) pa_nil))))) pss_nil)
      (pss_one (ps_ret pe_str))))), ?_⟩
        refine ⟨_, rfl, by decide, fun p1 n1 => ?_⟩
        refine ⟨_, _, _, _, _, _, rfl, upd_same, clsv2 _ _, dp_ty (dp_same (same_new n1) hd), kitD2 K _ _ _ (by decide) (by decide), _, rfl, iteF ?_⟩
        refine ⟨_, rfl, rfl, _, rfl, iteF ⟨_, rfl, _, _, _, _, _, rfl, .ty _, dp_ty (dp_same (same_new n1) hd), kitD K _ _ (by decide), _, rfl, iteF ?_⟩⟩
        refine ⟨_, rfl, by decide, fun p2 n2 => ?_⟩
        have s2 := (same_new (o := HO.tup [V.ty "tuple", V.ty "list"]) n1).trans (same_new (o := HO.tup [V.ty "int", V.ty "str"]) n2)
        refine ⟨_, _, _, _, _, _, rfl, upd_same, clsv2 _ _, dp_ty (dp_same s2 hd), kitD2 K _ _ _ (by decide) (by decide), _, rfl, iteT ?_⟩
        refine ⟨_, rfl, _, _, _, _, _, rfl, .ty _, dp_ty (dp_same s2 hd), kitD K _ _ (by decide), _, rfl, (show 2 ≤ sizeLine by decide), fun p3 n3 => ?_⟩
        exact k _ _ (s2.trans (same_new n3)) (.lst (SqL.of upd_same) (.cons (.bl _) (.cons (.str _) .nil)))

end
end Q03

/-! # plain mathematics of nets in lanes: no program here -/
namespace M03
open PySem

/-! ## bits side by side -/
def pk (f : Nat → Int) : Nat → Int
  | 0 => 0
  | n + 1 => pk f n + f n * 2 ^ n
def pkN (f : Nat → Nat) : Nat → Nat
  | 0 => 0
  | n + 1 => pkN f n + f n * 2 ^ n
def Bit (x : Int) : Prop := x = 0 ∨ x = 1
theorem pkN_lt {f : Nat → Nat} (h : ∀ l, f l ≤ 1) : ∀ n, pkN f n < 2 ^ n
  | 0 => (by decide : 0 < 1)
  | n + 1 => by
    have := pkN_lt h n
    have := h n
    show pkN f n + f n * 2 ^ n < 2 ^ (n + 1)
    rw [Nat.pow_succ]
    have : f n * 2 ^ n ≤ 1 * 2 ^ n := Nat.mul_le_mul_right _ (h n)
    omega
theorem pkN_bit {f : Nat → Nat} (h : ∀ l, f l ≤ 1) : ∀ (n i : Nat), (pkN f n).testBit i = (decide (i < n) && decide (f i = 1))
  | 0, i => by simp [pkN]
  | n + 1, i => by
    have e : pkN f (n + 1) = 2 ^ n * f n + pkN f n := by
      show pkN f n + f n * 2 ^ n = _
      rw [Nat.mul_comm, Nat.add_comm]
    rw [e, Nat.testBit_two_pow_mul_add _ (pkN_lt h n), pkN_bit h n]
    by_cases h1 : i < n
    · rw [if_pos h1]
      simp [h1, Nat.lt_succ_of_lt h1]
    · rw [if_neg h1]
      by_cases h2 : i = n
      · subst h2
        have := h i
        rcases Nat.le_one_iff_eq_zero_or_eq_one.mp this with q | q <;> simp [q]
      · have h3 : ¬ i < n + 1 := by omega
        have h4 : f n < 2 ^ (i - n) := Nat.lt_of_le_of_lt (h n) (Nat.one_lt_two_pow (by omega))
        rw [Nat.testBit_lt_two_pow h4]
        simp [h3]
theorem pkN_and {f g : Nat → Nat} (hf : ∀ l, f l ≤ 1) (hg : ∀ l, g l ≤ 1) (n : Nat) : pkN f n &&& pkN g n = pkN (fun l => f l * g l) n := by
  have hfg : ∀ l, f l * g l ≤ 1 := fun l => Nat.le_trans (Nat.mul_le_mul (hf l) (hg l)) (by decide)
  refine Nat.eq_of_testBit_eq fun i => ?_
  rw [Nat.testBit_and, pkN_bit hf, pkN_bit hg, pkN_bit hfg]
  have h1 := hf i
  have h2 := hg i
  rcases Nat.le_one_iff_eq_zero_or_eq_one.mp h1 with a | a <;> rcases Nat.le_one_iff_eq_zero_or_eq_one.mp h2 with b | b <;> simp [a, b]
theorem pk_nat (f : Nat → Nat) : ∀ n, ((pkN f n : Nat) : Int) = pk (fun l => (f l : Int)) n
  | 0 => rfl
  | n + 1 => by
    show ((pkN f n + f n * 2 ^ n : Nat) : Int) = pk _ n + _
    rw [← pk_nat f n]
    push_cast
    rfl
theorem pk_congr {f g : Nat → Int} : ∀ {n : Nat}, (∀ l, l < n → f l = g l) → pk f n = pk g n
  | 0, _ => rfl
  | n + 1, h => by
    show pk f n + f n * 2 ^ n = pk g n + g n * 2 ^ n
    rw [pk_congr fun l hl => h l (by omega), h n (by omega)]
theorem pk_add (f g : Nat → Int) : ∀ n, pk (fun l => f l + g l) n = pk f n + pk g n
  | 0 => rfl
  | n + 1 => by
    show pk _ n + (f n + g n) * 2 ^ n = (pk f n + f n * 2 ^ n) + (pk g n + g n * 2 ^ n)
    rw [pk_add f g n, Int.add_mul]
    omega
theorem pk_mul (c : Int) (f : Nat → Int) : ∀ n, pk (fun l => c * f l) n = c * pk f n
  | 0 => by simp [pk]
  | n + 1 => by
    show pk _ n + (c * f n) * 2 ^ n = c * (pk f n + f n * 2 ^ n)
    rw [pk_mul c f n, Int.mul_add, Int.mul_assoc]
theorem bitAnd_nat (a b : Nat) : Builtin.bitAnd (a : Int) (b : Int) = ((a &&& b : Nat) : Int) := by
  unfold Builtin.bitAnd
  simp
/-- bits as numbers below 2 -/
def nb (f : Nat → Int) (l : Nat) : Nat := if f l = 1 then 1 else 0
theorem nb_le (f : Nat → Int) (l : Nat) : nb f l ≤ 1 := by
  unfold nb
  split <;> omega
theorem nb_pk {f : Nat → Int} {n : Nat} (h : ∀ l, l < n → Bit (f l)) : pk f n = ((pkN (nb f) n : Nat) : Int) := by
  rw [pk_nat]
  refine pk_congr fun l hl => ?_
  unfold nb
  rcases h l hl with e | e <;> simp [e]
theorem pk_and {f g : Nat → Int} {n : Nat} (hf : ∀ l, l < n → Bit (f l)) (hg : ∀ l, l < n → Bit (g l)) : Builtin.bitAnd (pk f n) (pk g n) = pk (fun l => f l * g l) n := by
  rw [nb_pk hf, nb_pk hg, bitAnd_nat, pkN_and (nb_le f) (nb_le g), pk_nat]
  refine pk_congr fun l hl => ?_
  unfold nb
  rcases hf l hl with a | a <;> rcases hg l hl with b | b <;> simp [a, b]
theorem pk_xor {f g : Nat → Int} {n : Nat} (hf : ∀ l, l < n → Bit (f l)) (hg : ∀ l, l < n → Bit (g l)) : Builtin.bitXor (pk f n) (pk g n) = pk (fun l => if f l = g l then 0 else 1) n := by
  rw [PyProof.Rows.bitXor_and, pk_and hf hg]
  have e : pk f n + pk g n - 2 * pk (fun l => f l * g l) n = pk (fun l => (f l + g l) + (-2) * (f l * g l)) n := by
    rw [pk_add (fun l => f l + g l), pk_add f g, pk_mul (-2)]
    omega
  rw [e]
  refine pk_congr fun l hl => ?_
  rcases hf l hl with a | a <;> rcases hg l hl with b | b <;> simp [a, b]
theorem pk_or {f g : Nat → Int} {n : Nat} (hf : ∀ l, l < n → Bit (f l)) (hg : ∀ l, l < n → Bit (g l)) : Builtin.bitOr (pk f n) (pk g n) = pk (fun l => if f l = 1 then 1 else g l) n := by
  rw [PyProof.Rows.bitOr_and, pk_and hf hg]
  have e : pk f n + pk g n - pk (fun l => f l * g l) n = pk (fun l => (f l + g l) + (-1) * (f l * g l)) n := by
    rw [pk_add (fun l => f l + g l), pk_add f g, pk_mul (-1)]
    omega
  rw [e]
  refine pk_congr fun l hl => ?_
  rcases hf l hl with a | a <;> rcases hg l hl with b | b <;> simp [a, b]
theorem pk_ones : ∀ n, pk (fun _ => 1) n = 2 ^ n - 1
  | 0 => rfl
  | n + 1 => by
    show pk _ n + 1 * 2 ^ n = 2 ^ (n + 1) - 1
    rw [pk_ones n, Int.pow_succ]
    omega
theorem pk_not {f : Nat → Int} {n : Nat} (hf : ∀ l, l < n → Bit (f l)) : Builtin.bitXor (pk f n) (2 ^ n - 1) = pk (fun l => 1 - f l) n := by
  rw [← pk_ones, pk_xor hf (fun _ _ => .inr rfl)]
  refine pk_congr fun l hl => ?_
  rcases hf l hl with a | a <;> simp [a]
theorem pk_range {f : Nat → Int} {n : Nat} (hf : ∀ l, l < n → Bit (f l)) : 0 ≤ pk f n ∧ pk f n < 2 ^ n := by
  rw [nb_pk hf]
  have := pkN_lt (nb_le f) n
  refine ⟨Int.natCast_nonneg _, ?_⟩
  have h : ((pkN (nb f) n : Nat) : Int) < ((2 ^ n : Nat) : Int) := Int.ofNat_lt.mpr this
  simpa using h

/-! ## nets -/
abbrev Gate := Str × List Int
structure Net where
  inp : Int
  firsts : List Int
  nexts : List Int
  gates : List Gate
  outs : List Int
def sizes : List (Str × Nat) := [("and", 3), ("or", 3), ("xor", 3), ("not", 2), ("mux", 4)]
def inR (wires a : Int) : Bool := decide (0 ≤ a) && decide (a < wires)
def okG (wires : Int) (g : Gate) : Bool := decide ((g.1, g.2.length + 1) ∈ sizes) && g.2.all (inR wires)
def okGs : Int → List Gate → Bool
  | _, [] => true
  | w, g :: r => okG w g && okGs (w + 1) r
def w0 (n : Net) : Int := 1 + n.inp + n.firsts.length
def okNet (n : Net) : Bool := decide (0 ≤ n.inp) && okGs (w0 n) n.gates && decide (n.nexts.length = n.firsts.length) && n.firsts.all (fun x => decide (0 ≤ x) && decide (x ≤ 1)) && (n.nexts ++ n.outs).all (inR (w0 n + n.gates.length))
/-- a list's item by a number -/
def nth (xs : List Int) (i : Int) : Int := xs.getD i.toNat 0
def side (g : Gate) (k : Nat) : Int := g.2.getD k 0
/-- a gate over words of bits -/
def evG (mask : Int) (xs : List Int) (g : Gate) : Int :=
  let one := nth xs (side g 0)
  if g.1 = "and" then Builtin.bitAnd one (nth xs (side g 1)) else if g.1 = "xor" then Builtin.bitXor one (nth xs (side g 1)) else if g.1 = "or" then Builtin.bitOr one (nth xs (side g 1))
  else if g.1 = "not" then Builtin.bitXor one mask else Builtin.bitOr (Builtin.bitAnd one (nth xs (side g 1))) (Builtin.bitAnd (Builtin.bitXor one mask) (nth xs (side g 2)))
/-- a gate over bits -/
def evL (xs : List Int) (g : Gate) : Int :=
  if g.1 = "not" then 1 - nth xs (side g 0) else if g.1 = "mux" then (if nth xs (side g 0) = 1 then nth xs (side g 1) else nth xs (side g 2))
  else if g.1 = "and" then nth xs (side g 0) * nth xs (side g 1) else if g.1 = "or" then (if nth xs (side g 1) > nth xs (side g 0) then nth xs (side g 1) else nth xs (side g 0))
  else (if nth xs (side g 0) = nth xs (side g 1) then 0 else 1)
def runG (mask : Int) : List Int → List Gate → List Int
  | xs, [] => xs
  | xs, g :: r => runG mask (xs ++ [evG mask xs g]) r
def runL : List Int → List Gate → List Int
  | xs, [] => xs
  | xs, g :: r => runL (xs ++ [evL xs g]) r
/-- the lanes' values beside the words -/
structure Side (n : Nat) (xs : List Int) (vl : Nat → List Int) : Prop where
  len : ∀ l, l < n → (vl l).length = xs.length
  at_ : ∀ w, w < xs.length → xs.getD w 0 = pk (fun l => (vl l).getD w 0) n
  bit : ∀ l, l < n → ∀ w, Bit ((vl l).getD w 0)
theorem Side.nth {n : Nat} {xs : List Int} {vl : Nat → List Int} (h : Side n xs vl) {a : Int} (ha : inR xs.length a = true) : nth xs a = pk (fun l => M03.nth (vl l) a) n := by
  unfold inR at ha
  simp only [Bool.and_eq_true, decide_eq_true_eq] at ha
  exact h.at_ a.toNat (by omega)
theorem Side.bitN {n : Nat} {xs : List Int} {vl : Nat → List Int} (h : Side n xs vl) (a : Int) : ∀ l, l < n → Bit (M03.nth (vl l) a) := fun l hl => h.bit l hl a.toNat
theorem okG_side {w : Int} {g : Gate} (h : okG w g = true) {k : Nat} (hk : k < g.2.length) : inR w (side g k) = true := by
  unfold okG at h
  simp only [Bool.and_eq_true, List.all_eq_true] at h
  have e : side g k = g.2[k] := by
    unfold side
    rw [List.getD_eq_getElem?_getD, List.getElem?_eq_getElem hk]
    rfl
  rw [e]
  exact h.2 _ (List.getElem_mem hk)
theorem okG_word {w : Int} {g : Gate} (h : okG w g = true) : (g.1 = "and" ∧ g.2.length = 2) ∨ (g.1 = "or" ∧ g.2.length = 2) ∨ (g.1 = "xor" ∧ g.2.length = 2) ∨ (g.1 = "not" ∧ g.2.length = 1) ∨ (g.1 = "mux" ∧ g.2.length = 3) := by
  unfold okG sizes at h
  simp only [Bool.and_eq_true, decide_eq_true_eq, List.mem_cons, Prod.mk.injEq, List.not_mem_nil, or_false] at h
  obtain ⟨h, _⟩ := h
  rcases h with h | h | h | h | h
  · exact .inl ⟨h.1, by omega⟩
  · exact .inr (.inl ⟨h.1, by omega⟩)
  · exact .inr (.inr (.inl ⟨h.1, by omega⟩))
  · exact .inr (.inr (.inr (.inl ⟨h.1, by omega⟩)))
  · exact .inr (.inr (.inr (.inr ⟨h.1, by omega⟩)))
theorem bit_and {a b : Int} (ha : Bit a) (hb : Bit b) : Bit (a * b) := by
  rcases ha with rfl | rfl <;> rcases hb with rfl | rfl <;> first | exact .inl rfl | exact .inr rfl
theorem bit_not {a : Int} (ha : Bit a) : Bit (1 - a) := by
  rcases ha with rfl | rfl
  · exact .inr rfl
  · exact .inl rfl
theorem gate_eq {n : Nat} {xs : List Int} {vl : Nat → List Int} {g : Gate} (h : Side n xs vl) (hg : okG xs.length g = true) : evG (2 ^ n - 1) xs g = pk (fun l => evL (vl l) g) n ∧ ∀ l, l < n → Bit (evL (vl l) g) := by
  have b := fun k => h.bitN (side g k)
  rcases okG_word hg with ⟨e, hl⟩ | ⟨e, hl⟩ | ⟨e, hl⟩ | ⟨e, hl⟩ | ⟨e, hl⟩
  · have q0 := h.nth (okG_side hg (k := 0) (by omega))
    have q1 := h.nth (okG_side hg (k := 1) (by omega))
    unfold evG evL
    simp only [e, show (("and" : Str) = "not") = False by decide, show (("and" : Str) = "mux") = False by decide, if_true, if_false]
    rw [q0, q1, pk_and (b 0) (b 1)]
    exact ⟨rfl, fun l hl => bit_and (b 0 l hl) (b 1 l hl)⟩
  · have q0 := h.nth (okG_side hg (k := 0) (by omega))
    have q1 := h.nth (okG_side hg (k := 1) (by omega))
    unfold evG evL
    simp only [e, show (("or" : Str) = "and") = False by decide, show (("or" : Str) = "xor") = False by decide, show (("or" : Str) = "not") = False by decide, show (("or" : Str) = "mux") = False by decide, if_true, if_false]
    rw [q0, q1, pk_or (b 0) (b 1)]
    refine ⟨pk_congr fun l hl => ?_, fun l hl => ?_⟩
    · rcases b 0 l hl with x | x <;> rcases b 1 l hl with y | y <;> simp [x, y]
    · rcases b 0 l hl with x | x <;> rcases b 1 l hl with y | y <;> simp [x, y, Bit]
  · have q0 := h.nth (okG_side hg (k := 0) (by omega))
    have q1 := h.nth (okG_side hg (k := 1) (by omega))
    unfold evG evL
    simp only [e, show (("xor" : Str) = "and") = False by decide, show (("xor" : Str) = "or") = False by decide, show (("xor" : Str) = "not") = False by decide, show (("xor" : Str) = "mux") = False by decide, if_true, if_false]
    rw [q0, q1, pk_xor (b 0) (b 1)]
    refine ⟨rfl, fun l hl => ?_⟩
    rcases b 0 l hl with x | x <;> rcases b 1 l hl with y | y <;> simp [x, y, Bit]
  · have q0 := h.nth (okG_side hg (k := 0) (by omega))
    unfold evG evL
    simp only [e, show (("not" : Str) = "and") = False by decide, show (("not" : Str) = "or") = False by decide, show (("not" : Str) = "xor") = False by decide, if_true, if_false]
    rw [q0, pk_not (b 0)]
    exact ⟨rfl, fun l hl => bit_not (b 0 l hl)⟩
  · have q0 := h.nth (okG_side hg (k := 0) (by omega))
    have q1 := h.nth (okG_side hg (k := 1) (by omega))
    have q2 := h.nth (okG_side hg (k := 2) (by omega))
    unfold evG evL
    simp only [e, show (("mux" : Str) = "and") = False by decide, show (("mux" : Str) = "or") = False by decide, show (("mux" : Str) = "xor") = False by decide, show (("mux" : Str) = "not") = False by decide, if_true, if_false]
    rw [q0, q1, q2, pk_not (b 0), pk_and (b 0) (b 1), pk_and (fun l hl => bit_not (b 0 l hl)) (b 2), pk_or (fun l hl => bit_and (b 0 l hl) (b 1 l hl)) (fun l hl => bit_and (bit_not (b 0 l hl)) (b 2 l hl))]
    refine ⟨pk_congr fun l hl => ?_, fun l hl => ?_⟩
    · rcases b 0 l hl with x | x <;> rcases b 1 l hl with y | y <;> simp [x, y]
    · rcases b 0 l hl with x | x <;> rcases b 1 l hl with y | y <;> rcases b 2 l hl with z | z <;> simp [x, y, z, Bit]
theorem getD_snoc (xs : List Int) (x : Int) (w : Nat) : (xs ++ [x]).getD w 0 = if w < xs.length then xs.getD w 0 else if w = xs.length then x else 0 := by
  simp only [List.getD_eq_getElem?_getD, List.getElem?_append]
  by_cases h : w < xs.length
  · rw [if_pos h, if_pos h]
  · rw [if_neg h, if_neg h]
    by_cases h2 : w = xs.length
    · subst h2
      simp
    · rw [if_neg h2, List.getElem?_eq_none (by simp only [List.length_singleton]; omega)]
      rfl
theorem Side.step {n : Nat} {xs : List Int} {vl : Nat → List Int} {g : Gate} (h : Side n xs vl) (hg : okG xs.length g = true) : Side n (xs ++ [evG (2 ^ n - 1) xs g]) (fun l => vl l ++ [evL (vl l) g]) := by
  obtain ⟨e, hb⟩ := gate_eq h hg
  refine ⟨fun l hl => by simp [h.len l hl], fun w hw => ?_, fun l hl w => ?_⟩
  · rw [getD_snoc]
    by_cases h1 : w < xs.length
    · rw [if_pos h1, h.at_ w h1]
      refine pk_congr fun l hl => ?_
      rw [getD_snoc, if_pos (by rw [h.len l hl]; exact h1)]
    · have h2 : w = xs.length := by
        simp only [List.length_append, List.length_singleton] at hw
        omega
      rw [if_neg h1, if_pos h2, e]
      refine pk_congr fun l hl => ?_
      rw [getD_snoc, if_neg (by rw [h.len l hl]; exact h1), if_pos (by rw [h.len l hl]; exact h2)]
  · rw [getD_snoc]
    split
    · exact h.bit l hl w
    · split
      · exact hb l hl
      · exact .inl rfl
theorem Side.run {n : Nat} : ∀ {gs : List Gate} {xs : List Int} {vl : Nat → List Int}, Side n xs vl → okGs xs.length gs = true → Side n (runG (2 ^ n - 1) xs gs) (fun l => runL (vl l) gs)
  | [], _, _, h, _ => h
  | g :: r, xs, vl, h, hg => by
    unfold okGs at hg
    simp only [Bool.and_eq_true] at hg
    refine Side.run (gs := r) (h.step hg.1) ?_
    rw [List.length_append, List.length_singleton]
    exact hg.2
theorem runG_len (mask : Int) : ∀ (gs : List Gate) (xs : List Int), (runG mask xs gs).length = xs.length + gs.length
  | [], _ => rfl
  | g :: r, xs => by
    show (runG mask (xs ++ [evG mask xs g]) r).length = _
    rw [runG_len mask r, List.length_append, List.length_singleton, List.length_cons]
    omega
theorem runL_len : ∀ (gs : List Gate) (xs : List Int), (runL xs gs).length = xs.length + gs.length
  | [], _ => rfl
  | g :: r, xs => by
    show (runL (xs ++ [evL xs g]) r).length = _
    rw [runL_len r, List.length_append, List.length_singleton, List.length_cons]
    omega
/-- the lanes' rows as words -/
def words (rows : List (List Int)) (m : Nat) : List Int := (List.range m).map fun k => pk (fun l => (rows.getD l []).getD k 0) rows.length
theorem words_len (rows : List (List Int)) (m : Nat) : (words rows m).length = m := by simp [words]
theorem words_at (rows : List (List Int)) {m k : Nat} (h : k < m) : (words rows m).getD k 0 = pk (fun l => (rows.getD l []).getD k 0) rows.length := by
  simp [words, List.getD_eq_getElem?_getD, h]
theorem runG_snoc (m : Int) (g : Gate) : ∀ (gs : List Gate) (xs : List Int), runG m xs (gs ++ [g]) = runG m xs gs ++ [evG m (runG m xs gs) g]
  | [], _ => rfl
  | x :: r, xs => runG_snoc m g r (xs ++ [evG m xs x])
theorem runL_snoc (g : Gate) : ∀ (gs : List Gate) (xs : List Int), runL xs (gs ++ [g]) = runL xs gs ++ [evL (runL xs gs) g]
  | [], _ => rfl
  | x :: r, xs => runL_snoc g r (xs ++ [evL xs x])
theorem okGs_get : ∀ {gs : List Gate} {w : Int} {i : Nat} {g : Gate}, okGs w gs = true → gs[i]? = some g → okG (w + i) g = true
  | [], _, i, _, _, e => by simp at e
  | x :: r, w, 0, g, h, e => by
    simp at e
    subst e
    unfold okGs at h
    simp only [Bool.and_eq_true] at h
    have := h.1
    simpa using this
  | x :: r, w, i + 1, g, h, e => by
    unfold okGs at h
    simp only [Bool.and_eq_true] at h
    have := okGs_get (gs := r) (i := i) h.2 (by simpa using e)
    rw [show w + ((i + 1 : Nat) : Int) = w + 1 + i by omega]
    exact this
theorem okNet_parts {n : Net} (h : okNet n = true) : 0 ≤ n.inp ∧ okGs (w0 n) n.gates = true ∧ n.nexts.length = n.firsts.length ∧ (∀ x ∈ n.firsts, 0 ≤ x ∧ x ≤ 1) ∧ ∀ x ∈ n.nexts ++ n.outs, inR (w0 n + n.gates.length) x = true := by
  unfold okNet at h
  simp only [Bool.and_eq_true, decide_eq_true_eq, List.all_eq_true] at h
  obtain ⟨⟨⟨⟨h1, h2⟩, h3⟩, h4⟩, h5⟩ := h
  exact ⟨h1, h2, h3, h4, h5⟩
theorem okGs_snoc (g : Gate) : ∀ (gs : List Gate) (w : Int), okGs w (gs ++ [g]) = (okGs w gs && okG (w + gs.length) g)
  | [], w => by
    show (okG w g && true) = (true && okG (w + ((0 : Nat) : Int)) g)
    rw [Bool.and_true, Bool.true_and]
    congr 1
    omega
  | x :: r, w => by
    show (okG w x && okGs (w + 1) (r ++ [g])) = (okG w x && okGs (w + 1) r && okG (w + ((r.length + 1 : Nat) : Int)) g)
    rw [okGs_snoc g r, Bool.and_assoc]
    congr 3
    omega
def Bits (xs : List Int) : Prop := ∀ w : Nat, Bit (xs.getD w 0)
theorem Bits.nth {xs : List Int} (h : Bits xs) (a : Int) : Bit (nth xs a) := h a.toNat
theorem evL_bit {xs : List Int} {m : Int} {g : Gate} (h : Bits xs) (hg : okG m g = true) : Bit (evL xs g) := by
  have b := fun k => h.nth (side g k)
  unfold evL
  rcases okG_word hg with ⟨e, _⟩ | ⟨e, _⟩ | ⟨e, _⟩ | ⟨e, _⟩ | ⟨e, _⟩
  · simp only [e, show (("and" : Str) = "not") = False by decide, show (("and" : Str) = "mux") = False by decide, if_true, if_false]
    exact bit_and (b 0) (b 1)
  · simp only [e, show (("or" : Str) = "and") = False by decide, show (("or" : Str) = "not") = False by decide, show (("or" : Str) = "mux") = False by decide, if_true, if_false]
    split
    · exact b 1
    · exact b 0
  · simp only [e, show (("xor" : Str) = "and") = False by decide, show (("xor" : Str) = "or") = False by decide, show (("xor" : Str) = "not") = False by decide, show (("xor" : Str) = "mux") = False by decide, if_true, if_false]
    split
    · exact .inl rfl
    · exact .inr rfl
  · simp only [e, if_true]
    exact bit_not (b 0)
  · simp only [e, show (("mux" : Str) = "not") = False by decide, if_true, if_false]
    split
    · exact b 1
    · exact b 2
theorem Bits.snoc {xs : List Int} {x : Int} (h : Bits xs) (hx : Bit x) : Bits (xs ++ [x]) := fun w => by
  rw [getD_snoc]
  split
  · exact h w
  · split
    · exact hx
    · exact .inl rfl
theorem Bits.run : ∀ {gs : List Gate} {w : Int} {xs : List Int}, Bits xs → okGs w gs = true → Bits (runL xs gs)
  | [], _, _, h, _ => h
  | g :: r, w, xs, h, hg => by
    unfold okGs at hg
    simp only [Bool.and_eq_true] at hg
    exact Bits.run (gs := r) (h.snoc (evL_bit h hg.1)) hg.2
theorem okGs_take : ∀ {gs : List Gate} {w : Int} (i : Nat), okGs w gs = true → okGs w (gs.take i) = true
  | [], _, _, _ => by simp [okGs]
  | _ :: _, _, 0, _ => rfl
  | g :: r, w, i + 1, h => by
    unfold okGs at h
    simp only [Bool.and_eq_true] at h
    show (okG w g && okGs (w + 1) (r.take i)) = true
    rw [h.1, okGs_take i h.2]
    rfl
theorem Bits.of_all {xs : List Int} (h : ∀ x ∈ xs, Bit x) : Bits xs := fun w => by
  rw [List.getD_eq_getElem?_getD]
  cases e : xs[w]? with
  | none => exact .inl rfl
  | some x => exact h x (List.mem_of_getElem? e)
end M03



set_option pp.maxSteps 1500
namespace Q03
open PySem L2 G M03
open C8 (Cal Met Mak pe_c pe_mk pe_mt pe_mt0 pe_gc pss_cut tCut)
def intsD (l : List Int) : List PyData := l.map PyData.int
def gateD (g : Gate) : PyData := .tuple (.str g.1 :: intsD g.2)
def netD (n : Net) : PyData := .tuple [.int n.inp, .tuple (intsD n.firsts), .tuple (intsD n.nexts), .tuple (n.gates.map gateD), .tuple (intsD n.outs)]
def SmallN (n : Net) : Prop := n.firsts.length ≤ 1000 ∧ n.nexts.length ≤ 1000 ∧ n.gates.length ≤ 1000 ∧ n.outs.length ≤ 1000 ∧ ∀ g ∈ n.gates, g.2.length ≤ 1000 ∧ PyData.strOk g.1 = true
theorem shaped_pair {w : Str} {n : Int} (h : PyData.strOk w = true) : SeqAt.shaped (.tuple [.str w, .int n]) = true := by
  simp [SeqAt.shaped, PyData.canLay0, PyData.canLayAll0, PyData.depth, PyData.depthAll, h]
theorem sizes_eq {w : Str} {n : Nat} (h : PyData.strOk w = true) : ([PyData.tuple [.str "and", .int 3], .tuple [.str "or", .int 3], .tuple [.str "xor", .int 3], .tuple [.str "not", .int 2], .tuple [.str "mux", .int 4]].any fun z => PyData.eqv z (.tuple [.str w, .int ((n : Nat) : Int)])) = decide ((w, n) ∈ sizes) := by
  have key : ∀ (x : Str) (k : Nat), PyData.strOk x = true → PyData.eqv (.tuple [.str x, .int (k : Int)]) (.tuple [.str w, .int (n : Int)]) = decide ((w, n) = (x, k)) := fun x k hx => by
    rw [Bool.eq_iff_iff, eqv_iff rfl rfl (shaped_pair hx), decide_eq_true_iff]
    constructor
    · intro q
      simp only [PyData.tuple.injEq, List.cons.injEq, PyData.str.injEq, PyData.int.injEq, and_true] at q
      obtain ⟨q1, q2⟩ := q
      have q3 : k = n := by omega
      rw [q1, q3]
    · intro q
      simp only [Prod.mk.injEq] at q
      rw [q.1, q.2]
  have k1 := key "and" 3 (by decide +kernel)
  have k2 := key "or" 3 (by decide +kernel)
  have k3 := key "xor" 3 (by decide +kernel)
  have k4 := key "not" 2 (by decide +kernel)
  have k5 := key "mux" 4 (by decide +kernel)
  unfold sizes
  rw [List.any_cons, List.any_cons, List.any_cons, List.any_cons, List.any_cons, List.any_nil]
  erw [k1, k2, k3, k4, k5]
  simp only [List.mem_cons, List.not_mem_nil, or_false, Bool.or_false, Bool.decide_or]
/-- data that is a bad number -/
def badD (q : Int → Bool) : PyData → Bool
  | .int i => !q i
  | _ => false
theorem bad_empty {q : Int → Bool} {l : List Int} {ys : List V} {K : PySem.W.Frag} {H : Hp} (h : DpAll K H ys (((intsD l).filter (badD q)).map id)) : (!ys.isEmpty) = !(l.all q) := by
  have hy := dps_len h
  rw [List.length_map] at hy
  have e2 : ((intsD l).filter (badD q)).length = (l.filter fun i => !q i).length := by
    unfold intsD
    rw [List.filter_map, List.length_map]
    rfl
  rw [e2] at hy
  congr 1
  rw [Bool.eq_iff_iff, List.isEmpty_iff_length_eq_zero, hy, List.length_eq_zero_iff, List.filter_eq_nil_iff, List.all_eq_true]
  simp
section
variable {P : Program} {w : World} {K : PySem.W.Frag} {mg : Str → Option Value} {base : Heap}
/-! ### is_count -/
def spCnt : Sp := fun vs H Q _ => ∃ i : Int, vs = [.int i] ∧ Q (.bl (decide (0 ≤ i))) H
theorem ok_cnt {f : Addr} {fd : FuncData} (F : Fun K "is_count" "is_count" s_is_count f fd) (T : Txt K mg) : FnOk P w K mg base CX0 1 f fd ["value"] spCnt := by
  refine F.ok sc_is_count (fun vs H Q E h => ?_) (fun cdv A outer s H vs Q E hr h => ?_)
  · obtain ⟨i, rfl, _⟩ := h
    rfl
  · obtain ⟨i, rfl, k⟩ := h
    refine ⟨_, (pss_one (ps_ret (pe_and (pe_callB call_isi (by rfl) T.b_isinstance boot_isinstance' (pa_cons (pv 0) (pa_cons (pe_bltn (v := .ty "int") (by rfl) T.b_int boot_int' rfl) pa_nil))) (pe_and (pe_not (pe_callB call_isi (by rfl) T.b_isinstance boot_isinstance' (pa_cons (pv 0) (pa_cons (pe_bltn (v := .ty "bool") (by rfl) T.b_bool boot_bool' rfl) pa_nil)))) (pe_one (pe_cmpR op_ge (pv 0) pe_int (nomark _))))))), ?_⟩
    have hd : Dp K H (.int i) (.int i) := .int i
    refine ⟨_, rfl, _, _, _, _, _, rfl, .ty _, dp_ty hd, kitD K _ _ (by decide), _, rfl, ?_⟩
    refine ite2 (fun _ => ?_) (fun h => (h rfl).elim)
    refine ⟨_, rfl, _, _, _, _, _, rfl, .ty _, dp_ty hd, kitD K _ _ (by decide), _, rfl, ?_⟩
    refine ⟨_, rfl, ?_⟩
    refine ite2 (fun _ => ?_) (fun h => (h rfl).elim)
    exact ⟨_, rfl, _, _, rfl, rfl, k⟩
/-! ### is_gate -/
def spGate (K : PySem.W.Frag) : Sp := fun vs H Q _ => ∃ (v : V) (g : Gate) (m : Int), vs = [v, .int m] ∧ Dp K H v (gateD g) ∧ g.2.length ≤ 1000 ∧ PyData.strOk g.1 = true ∧ ∀ H', Same H H' → Q (.bl (okG m g)) H'
theorem ok_gate {f : Addr} {fd : FuncData} (F : Fun K "is_gate" "is_gate" s_is_gate f fd) (T : Txt K mg) (c_is_count : Cal P w K mg base 1 "is_count" spCnt []) : FnOk P w K mg base CX0 2 f fd ["gate", "wires"] (spGate K) := by
  refine F.ok sc_is_gate (fun vs H Q E h => ?_) (fun cdv A outer s H vs Q E hr h => ?_)
  · obtain ⟨v, g, m, rfl, _⟩ := h
    rfl
  · obtain ⟨v, g, m, rfl, hd, hl, hw, k⟩ := h
    have hu65 := hu65_of hr
    obtain ⟨vS, g_SIZES, dS⟩ := T.c_SIZES
    refine ⟨_, (pss_cons (ps_if (PW.pt (pw_or (pt_not (pt_val (pe_callB call_isi (by rfl) T.b_isinstance boot_isinstance' (pa_cons (pv 0) (pa_cons (pe_bltn (v := .ty "tuple") (by rfl) T.b_tuple boot_tuple' rfl) pa_nil))))) (pw_or (pt_not (pt_truth (pv 0) (by intro _; rfl))) (pw_or1 (pt_cmpR (op_notInT hu65) (pe_tup (pa_cons (pe_ix ix_tup (pv 0) pe_int (fun _ _ => rfl)) (pa_cons (pe_callB call_len_seq (by rfl) T.b_len boot_len' (pa_cons (pv 0) pa_nil)) pa_nil))) (pe_gc (by rfl) g_SIZES) rfl))))) (pss_one (ps_ret pe_bl)) pss_nil)
      (pss_one (ps_ret (pe_notT (pe_lc (own := [("wire", 2)]) rfl sc_is_gate.nd (pi_tup (pe_slice sl_tupA (pv 0) (po_some pe_int) po_none)) (blkOk_by (own := [("wire", 2)]) (N := ["gate", "wires", "wire"]) (sc := defScope s_is_gate) (by decide +kernel)) (fun _ _ _ _ _ => (pg_name (i := 2) sc_is_gate.nd rfl (Or.inl rfl))) (fun _ _ _ _ _ => (pts_one (PW.pt (pw_or (pt_not (pt_val (pe_c c_is_count hr (by omega) rfl (pa_cons (pv 2) pa_nil)))) (pw_or1 (pt_cmpR op_ge (pv 2) (pv 1) (nomark _))))))) (fun _ _ _ _ _ => (pv 2))))))), ?_⟩
    obtain ⟨a, xs, rfl, hx, hxs⟩ := dp_tup hd
    cases hxs with
    | cons h0 hvs =>
      rename_i v0 vs
      cases dp_str h0
      refine ⟨_, rfl, _, _, _, _, _, rfl, .ty _, dp_ty hd, kitD K _ _ (by decide), _, rfl, ?_⟩
      refine iteF ?_
      refine ⟨_, rfl, _, .inr (.inl ⟨_, hx, rfl⟩), ?_⟩
      refine iteF ?_
      have hlen := dps_len hvs
      rw [show (intsD g.2).length = g.2.length from List.length_map ..] at hlen
      refine ⟨_, rfl, a, _, 0, _, rfl, rfl, hx, atI_nat (j := 0) rfl, _, rfl, a, _, rfl, .inr hx, (show 2 ≤ sizeLine by decide), fun p1 n1 => ?_⟩
      have s1 := same_new (o := HO.tup [V.str g.1, V.int ((V.str g.1 :: vs).length : Nat)]) n1
      refine ⟨_, _, .tup (SqT.of upd_same) (.cons (.str _) (.cons (.int _) .nil)), dS _, shaped_pair hw, (by decide +kernel), _, rfl, ?_⟩
      have es := sizes_eq (n := (V.str g.1 :: vs).length) hw
      refine ite2 (fun h => ?_) (fun h => ?_)
      · rw [es] at h
        have hf : okG m g = false := by
          unfold okG
          rw [Bool.not_eq_true', decide_eq_false_iff_not, List.length_cons, hlen] at h
          rw [decide_eq_false h, Bool.false_and]
        have q := k _ s1
        rw [hf] at q
        exact q
      · rw [es] at h
        have ht : decide ((g.1, g.2.length + 1) ∈ sizes) = true := by
          rw [List.length_cons, hlen] at h
          simpa using h
        refine ⟨_, rfl, 1, rfl, ?_⟩
        unfold tNoPart
        refine slA_new (Same.tup s1 hx) fun b H2 s2 hb => ⟨b, rfl, ⟨_, hb⟩, fun D hD => ?_⟩
        rw [cut_tail] at hb
        refine lc_dataT (K := K) (a := b) (xs := vs) (ds := intsD g.2) (fun d => match d with | .int i => !inR m i | _ => false) id hb (dps_same s2 (dps_same s1 hvs)) hD (by simp [intsD]; omega) ?_ ?_
        · intro v d G acc R dm hv sG hG ha hno hyes
          obtain ⟨i, hi, rfl⟩ := List.mem_map.mp dm
          cases dp_int hv
          have yes : inR m i = false → ∃ acc', upd G D (.lst acc) D = some (.lst acc') ∧ acc'.length < sizeLine ∧ R (upd (upd G D (.lst acc)) D (.lst (acc' ++ [V.int i]))) := fun e => ⟨acc, upd_same, ha, by
            rw [upd_app]
            exact hyes (by show (!inR m i) = true; rw [e]; rfl) G _ (Same.refl _) hG (.int i)⟩
          refine ⟨rfl, _, rfl, i, rfl, _, rfl, ?_⟩
          refine ite2 (fun h1 => ?_) (fun h1 => ?_)
          · refine iteT ⟨_, rfl, yes ?_⟩
            unfold inR
            simp only [Bool.not_eq_true', decide_eq_false_iff_not] at h1
            rw [decide_eq_false h1, Bool.false_and]
          · refine ⟨_, rfl, _, rfl, _, _, rfl, rfl, _, rfl, ?_⟩
            refine ite2 (fun h2 => ⟨_, rfl, yes ?_⟩) (fun h2 => ?_)
            · unfold inR
              rw [decide_eq_false (p := i < m) (by have := of_decide_eq_true h2; omega), Bool.and_false]
            · have e := hno (by
                show (!inR m i) = false
                unfold inR
                rw [decide_eq_true (p := 0 ≤ i) (by simpa using h1), decide_eq_true (p := i < m) (by simpa using h2)]
                rfl) G (Same.refl _) hG
              exact e
        · intro G ys sG hG hys
          refine ⟨_, .inl ⟨ys, SqL.of upd_same, rfl⟩, ?_⟩
          have q := k (upd G D (.lst ys)) (((s1.trans s2).trans sG).trans (same_new hG))
          have e : (!!ys.isEmpty) = okG m g := by
            unfold okG
            rw [ht, Bool.true_and, Bool.not_not]
            have hy := dps_len hys
            rw [List.length_map] at hy
            have e2 : ((intsD g.2).filter (fun d => match d with | .int i => !inR m i | _ => false)).length = (g.2.filter fun i => !inR m i).length := by
              unfold intsD
              rw [List.filter_map, List.length_map]
              rfl
            rw [e2] at hy
            rw [Bool.eq_iff_iff, List.isEmpty_iff_length_eq_zero, hy, List.length_eq_zero_iff, List.filter_eq_nil_iff, List.all_eq_true]
            simp
          rw [← e] at q
          exact q
/-! ### check_net -/
/-- an error with this word leaves -/
def RaiseF (C : Addr) (x : Str) (H : Hp) (E : XK) : Prop := ∀ (H' : Hp) (d : Addr), Same H H' → H' d = some (.xd [("what", .str x)]) → E (.ref C) (some d) H'
theorem RaiseF.here {C : Addr} {x : Str} {H H' : Hp} {E : XK} {d : Addr} (r : RaiseF C x H E) (s : Same H H') (n : H' d = none) : E (.ref C) (some d) (upd H' d (.xd [("what", .str x)])) := r _ d (s.trans (same_new n)) upd_same
def spCheck (K : PySem.W.Frag) (C : Addr) : Sp := fun vs H Q E => ∃ v : V, vs = [v] ∧ ((∃ n : Net, Dp K H v (netD n) ∧ SmallN n ∧ (okNet n = true → ∀ H', Same H H' → Q .non H') ∧ (okNet n = false → RaiseF C "form" H E)) ∨
  ∃ ds, Dp K H v (.tuple ds) ∧ ds.length = 4 ∧ RaiseF C "form" H E)
theorem dps5 {H : Hp} {xs : List V} {d0 d1 d2 d3 d4 : PyData} (h : DpAll K H xs [d0, d1, d2, d3, d4]) : ∃ v0 v1 v2 v3 v4, xs = [v0, v1, v2, v3, v4] ∧ Dp K H v0 d0 ∧ Dp K H v1 d1 ∧ Dp K H v2 d2 ∧ Dp K H v3 d3 ∧ Dp K H v4 d4 := by
  cases h with
  | cons a h => cases h with
    | cons b h => cases h with
      | cons c h => cases h with
        | cons d h => cases h with
          | cons e h => cases h; exact ⟨_, _, _, _, _, rfl, a, b, c, d, e⟩
theorem ok_check {C : Addr} {f : Addr} {fd : FuncData} (F : Fun K "check_net" "check_net" s_check_net f fd) (T : Txt K mg) (c_InvalidNet : Erm P w K mg base 1 "InvalidNet" C "what") (c_is_count : Cal P w K mg base 1 "is_count" spCnt []) (c_is_gate : Cal P w K mg base 2 "is_gate" (spGate K) []) :
    FnOk P w K mg base (L2.CX P w) 3 f fd ["net"] (spCheck K C) := by
  refine F.okX sc_check_net (fun vs H Q E h => ?_) (fun cdv A outer s H vs Q E hr h => ?_)
  · obtain ⟨v, rfl, _⟩ := h
    rfl
  · obtain ⟨v, rfl, h⟩ := h
    have hu65 := hu65_of hr
    refine ⟨_, (pss_cons (ps_if (PW.pt (pw_or (pt_not (pt_val (pe_callB call_isi (by rfl) T.b_isinstance boot_isinstance' (pa_cons (pv 0) (pa_cons (pe_bltn (v := .ty "tuple") (by rfl) T.b_tuple boot_tuple' rfl) pa_nil))))) (pw_or (pt_cmpR op_ne (pe_callB call_len_seq (by rfl) T.b_len boot_len' (pa_cons (pv 0) pa_nil)) pe_int (nomark _)) (pw_or1 (pt_not (pt_val (pe_c c_is_count hr (by omega) rfl (pa_cons (pe_ix ix_tup (pv 0) pe_int (fun _ _ => rfl)) pa_nil)))))))) (pss_one (ps_raise rfl (takes_of rfl rfl rfl rfl) (pmk_e c_InvalidNet hr (by omega) rfl (pa_cons pe_str pa_nil)))) pss_nil)
      (pss_cons (ps_if (pt_truth (pe_lc (own := [("part", 8)]) rfl sc_check_net.nd (pi_tup (pe_slice sl_tupA (pv 0) (po_some pe_int) po_none)) (blkOk_by (own := [("part", 8)]) (N := ["net", "inputs", "firsts", "nexts", "gates", "outputs", "wires", "gate", "part", "wire", "first"]) (sc := defScope s_check_net) (by decide +kernel)) (fun _ _ _ _ _ => (pg_name (i := 8) sc_check_net.nd rfl (Or.inl rfl))) (fun _ _ _ _ _ => (pts_one (pt_not (pt_val (pe_callB (call_isiTK (K := K) rfl) (by rfl) T.b_isinstance boot_isinstance' (pa_cons (pv 8) (pa_cons (pe_tup (pa_cons (pe_bltn (v := .ty "tuple") (by rfl) T.b_tuple boot_tuple' rfl) (pa_cons (pe_bltn (v := .ty "list") (by rfl) T.b_list boot_list' rfl) pa_nil))) pa_nil))))))) (fun _ _ _ _ _ => (pv 8))) (by intro _; rfl)) (pss_one (ps_raise rfl (takes_of rfl rfl rfl rfl) (pmk_e c_InvalidNet hr (by omega) rfl (pa_cons pe_str pa_nil)))) pss_nil)
      (pss_cons (ps_asg (pv 0) (pg_tup rfl (pgs_cons (pg_name (i := 1) sc_check_net.nd rfl (Or.inl rfl)) (pgs_cons (pg_name (i := 2) sc_check_net.nd rfl (Or.inl rfl)) (pgs_cons (pg_name (i := 3) sc_check_net.nd rfl (Or.inl rfl)) (pgs_cons (pg_name (i := 4) sc_check_net.nd rfl (Or.inl rfl)) (pgs_cons (pg_name (i := 5) sc_check_net.nd rfl (Or.inl rfl)) pgs_nil)))))))
      (pss_cons (ps_set (i := 6) sc_check_net.nd rfl (Or.inr rfl) (pe_op op_add (pe_op op_add pe_int (pv 1)) (pe_callB call_len_seq (by rfl) T.b_len boot_len' (pa_cons (pv 2) pa_nil))))
      (pss_cons (ps_for (passes_of rfl) rfl (pi_tup (pv 4)) (pg_name (i := 7) sc_check_net.nd rfl (Or.inl rfl)) (pss_cons (ps_if (pt_not (pt_val (pe_c c_is_gate hr (by omega) rfl (pa_cons (pv 7) (pa_cons (pv 6) pa_nil))))) (pss_one (ps_raise rfl (takes_of rfl rfl rfl rfl) (pmk_e c_InvalidNet hr (by omega) rfl (pa_cons pe_str pa_nil)))) pss_nil)
      (pss_one (ps_set (i := 6) sc_check_net.nd rfl (Or.inr rfl) (pe_op op_add (pv 6) pe_int)))))
      (pss_cons (ps_if (PW.pt (pw_or (pt_cmpR op_ne (pe_callB call_len_seq (by rfl) T.b_len boot_len' (pa_cons (pv 3) pa_nil)) (pe_callB call_len_seq (by rfl) T.b_len boot_len' (pa_cons (pv 2) pa_nil)) (nomark _)) (pw_or1 (pt_truth (pe_lc (own := [("first", 10)]) rfl sc_check_net.nd (pi_tup (pv 2)) (blkOk_by (own := [("first", 10)]) (N := ["net", "inputs", "firsts", "nexts", "gates", "outputs", "wires", "gate", "part", "wire", "first"]) (sc := defScope s_check_net) (by decide +kernel)) (fun _ _ _ _ _ => (pg_name (i := 10) sc_check_net.nd rfl (Or.inl rfl))) (fun _ _ _ _ _ => (pts_one (PW.pt (pw_or (pt_not (pt_val (pe_c c_is_count hr (by omega) rfl (pa_cons (pv 10) pa_nil)))) (pw_or1 (pt_cmpR op_gt (pv 10) pe_int (nomark _))))))) (fun _ _ _ _ _ => (pv 10))) (by intro _; rfl))))) (pss_one (ps_raise rfl (takes_of rfl rfl rfl rfl) (pmk_e c_InvalidNet hr (by omega) rfl (pa_cons pe_str pa_nil)))) pss_nil)
      (pss_one (ps_if (pt_truth (pe_lc (own := [("wire", 9)]) rfl sc_check_net.nd (pi_list (pe_op op_cat (pe_callTy call_list_of (by rfl) T.b_list boot_list' (pa_cons (pv 3) pa_nil)) (pe_callTy call_list_of (by rfl) T.b_list boot_list' (pa_cons (pv 5) pa_nil)))) (blkOk_by (own := [("wire", 9)]) (N := ["net", "inputs", "firsts", "nexts", "gates", "outputs", "wires", "gate", "part", "wire", "first"]) (sc := defScope s_check_net) (by decide +kernel)) (fun _ _ _ _ _ => (pg_name (i := 9) sc_check_net.nd rfl (Or.inl rfl))) (fun _ _ _ _ _ => (pts_one (PW.pt (pw_or (pt_not (pt_val (pe_c c_is_count hr (by omega) rfl (pa_cons (pv 9) pa_nil)))) (pw_or1 (pt_cmpR op_ge (pv 9) (pv 6) (nomark _))))))) (fun _ _ _ _ _ => (pv 9))) (by intro _; rfl)) (pss_one (ps_raise rfl (takes_of rfl rfl rfl rfl) (pmk_e c_InvalidNet hr (by omega) rfl (pa_cons pe_str pa_nil)))) pss_nil)))))))), ?_⟩
    rcases h with ⟨n, hd, hs, ky, kn⟩ | ⟨ds, hd, hl, kr⟩
    · obtain ⟨a, xs, rfl, hx, hxs⟩ := dp_tup hd
      refine ⟨_, rfl, _, _, _, _, _, rfl, .ty _, dp_ty hd, kitD K _ _ (by decide), _, rfl, ?_⟩
      refine iteF ?_
      obtain ⟨v0, v1, v2, v3, v4, rfl, d0, d1, d2, d3, d4⟩ := dps5 hxs
      refine ⟨_, rfl, a, _, rfl, .inr hx, rfl, _, rfl, ?_⟩
      refine ifF (ne_int0 rfl) ?_
      cases dp_int d0
      refine ⟨_, rfl, a, _, 0, _, rfl, rfl, hx, atI_nat (j := 0) rfl, _, rfl, _, rfl, ?_⟩
      refine ite2 (fun h0 => ?_) (fun h0 => ?_)
      · refine ⟨_, rfl, fun d m => (kn ?_).here (Same.refl _) m⟩
        unfold okNet
        rw [show decide (0 ≤ n.inp) = false by simpa using h0]
        rfl
      have p0 : 0 ≤ n.inp := by simpa using h0
      -- [part for part in net[1:] if not isinstance(part, (tuple, list))]
      refine ⟨_, rfl, 1, rfl, ?_⟩
      unfold tNoPart
      refine slA_new hx fun b H1 s1 hb => ⟨b, rfl, ⟨_, hb⟩, fun D hD => ?_⟩
      rw [cut_tail] at hb
      refine lc_dataT (K := K) (a := b) (xs := [v1, v2, v3, v4]) (ds := [.tuple (intsD n.firsts), .tuple (intsD n.nexts), .tuple (n.gates.map gateD), .tuple (intsD n.outs)]) (fun _ => false) id hb
        (dps_same s1 (.cons d1 (.cons d2 (.cons d3 (.cons d4 .nil))))) hD (show 4 ≤ 100000 by decide) ?_ ?_
      · intro v d G acc R dm hv sG hG ha hno _
        have ht : ∃ es, d = .tuple es := by
          simp only [List.mem_cons, List.not_mem_nil, or_false] at dm
          rcases dm with rfl | rfl | rfl | rfl <;> exact ⟨_, rfl⟩
        obtain ⟨es, rfl⟩ := ht
        refine ⟨rfl, _, rfl, by decide, fun p n1 => ?_⟩
        obtain ⟨np, n2⟩ := upd_none n1
        refine ⟨_, _, _, _, _, _, rfl, upd_same, clsv2 _ _, dp_ty (dp_same (same_new n1) (dp_same (same_new hG) hv)), kitD2 K _ _ _ (by decide) (by decide), _, rfl, iteF ?_⟩
        rw [upd_comm (Ne.symm np)]
        exact hno rfl _ (same_new n2) (by rw [upd_ne (Ne.symm np)]; exact hG)
      · intro G ys sG hG hys
        have hy : ys = [] := by
          cases ys with
          | nil => rfl
          | cons _ _ => cases hys
        subst hy
        refine ⟨_, .inl ⟨[], SqL.of upd_same, rfl⟩, ?_⟩
        refine iteF ?_
        have s2 : Same H (upd G D (.lst [])) := (s1.trans sG).trans (same_new hG)
        refine ⟨_, rfl, a, _, rfl, Same.tup s2 hx, rfl, ?_⟩
        obtain ⟨af, xf, rfl, hf, hfs⟩ := dp_tup d1
        obtain ⟨an, xn, rfl, hn, hns⟩ := dp_tup d2
        obtain ⟨ag, xg, rfl, hg, hgs⟩ := dp_tup d3
        obtain ⟨ao, xo, rfl, ho, hos⟩ := dp_tup d4
        cases dps_ints_of hfs
        cases dps_ints_of hns
        cases dps_ints_of hos
        generalize upd G D (.lst []) = H2 at s2
        refine ⟨_, _, rfl, _, _, rfl, _, _, rfl, _, _, rfl, _, _, rfl, rfl, ?_⟩
        refine ⟨_, rfl, _, _, rfl, rfl, _, rfl, af, _, rfl, .inr (Same.tup s2 hf), _, _, rfl, rfl, ?_⟩
        refine ⟨_, rfl, ag, rfl, ⟨_, Same.tup s2 hg⟩, for_tup (K := K) (a := ag) (xs := xg) (fun i σ H' => ∃ (o7 : Option V) (Hs : Same H H'),
          σ = [some (.ref a), some (.int n.inp), some (.ref af), some (.ref an), some (.ref ag), some (.ref ao), some (.int (w0 n + i)), o7, none, none, none] ∧ okGs (w0 n) n.gates = okGs (w0 n + i) (n.gates.drop i))
          ⟨none, s2, ?_, ?_⟩ ?_ ?_ ?_⟩
        · rw [show w0 n + ((0 : Nat) : Int) = 1 + n.inp + ((n.firsts.map V.int).length : Nat) by simp [w0]]
          rfl
        · simp
        · rintro i σ H' _ ⟨o7, Hs, _, _⟩
          exact Same.tup Hs hg
        · rintro i x σ H' hi ⟨o7, Hs, rfl, hk⟩
          obtain ⟨d, hdi, dx⟩ := dps_getv hgs hi
          rw [List.getElem?_map] at hdi
          obtain ⟨gt, hgt, rfl⟩ := Option.map_eq_some_iff.mp hdi
          obtain ⟨hl1, hl2⟩ := hs.2.2.2.2 gt (List.mem_of_getElem? hgt)
          have hdr : n.gates.drop i = gt :: n.gates.drop (i + 1) := by
            rw [List.drop_eq_getElem?_toList_append, hgt]
            rfl
          rw [hdr] at hk
          refine ⟨_, rfl, _, rfl, x, gt, _, rfl, dp_same Hs dx, hl1, hl2, fun H3 s3 => ⟨_, rfl, ?_⟩⟩
          have hk2 : okGs (w0 n) n.gates = (okG (w0 n + i) gt && okGs (w0 n + i + 1) (n.gates.drop (i + 1))) := hk
          refine ite2 (fun h1 => ?_) (fun h1 => ?_)
          · refine ⟨_, rfl, fun d m => (kn ?_).here (Hs.trans s3) m⟩
            unfold okNet
            rw [hk2, show okG (w0 n + i) gt = false by simpa using h1]
            simp
          · refine ⟨_, rfl, _, _, rfl, rfl, some x, Hs.trans s3, ?_, ?_⟩
            · rw [show w0 n + ((i + 1 : Nat) : Int) = w0 n + i + 1 by omega]
              rfl
            · rw [hk2, show okG (w0 n + i) gt = true by simpa using h1, show w0 n + ((i + 1 : Nat) : Int) = w0 n + i + 1 by omega, Bool.true_and]
        · rintro σ H' ⟨o7, Hs, rfl, hk⟩
          have hgl : xg.length = n.gates.length := by
            rw [dps_len hgs, List.length_map]
          have hk : okGs (w0 n) n.gates = true := by
            rw [hk, hgl, List.drop_length]
            rfl
          rw [hgl]
          refine ⟨_, rfl, an, _, rfl, .inr (Same.tup Hs hn), _, rfl, af, _, rfl, .inr (Same.tup Hs hf), rfl, _, rfl, ?_⟩
          rw [List.length_map, List.length_map]
          refine ite2 (fun h1 => ?_) (fun h1 => ?_)
          · refine iteT ?_
            refine ⟨_, rfl, fun d m => (kn ?_).here Hs m⟩
            have q : ¬ n.nexts.length = n.firsts.length := fun e => by
              rw [e] at h1
              simp at h1
            unfold okNet
            rw [decide_eq_false q]
            simp
          have hnl : n.nexts.length = n.firsts.length := by
            simp only [Bool.not_eq_true', decide_eq_false_iff_not, V.int.injEq, Decidable.not_not] at h1
            omega
          refine ⟨_, rfl, af, rfl, ⟨_, Same.tup Hs hf⟩, fun D hD => ?_⟩
          refine lc_dataT (K := K) (a := af) (xs := n.firsts.map V.int) (ds := intsD n.firsts) (badD fun x => decide (0 ≤ x) && decide (x ≤ 1)) id (Same.tup Hs hf) (dps_ints _) hD (by rw [intsD, List.length_map]; exact Nat.le_trans hs.1 (by decide)) ?_ ?_
          · intro v d G acc R dm hv sG hG ha hno hyes
            obtain ⟨i, hi, rfl⟩ := List.mem_map.mp dm
            cases dp_int hv
            have yes : (decide (0 ≤ i) && decide (i ≤ 1)) = false → ∃ acc', upd G D (.lst acc) D = some (.lst acc') ∧ acc'.length < sizeLine ∧ R (upd (upd G D (.lst acc)) D (.lst (acc' ++ [V.int i]))) := fun e => ⟨acc, upd_same, ha, by
              rw [upd_app]
              exact hyes (by show (!(decide (0 ≤ i) && decide (i ≤ 1))) = true; rw [e]; rfl) G _ (Same.refl _) hG (.int i)⟩
            refine ⟨rfl, _, rfl, i, rfl, _, rfl, ?_⟩
            refine ite2 (fun h2 => ?_) (fun h2 => ?_)
            · refine iteT ⟨_, rfl, yes ?_⟩
              simp only [Bool.not_eq_true', decide_eq_false_iff_not] at h2
              rw [decide_eq_false h2, Bool.false_and]
            · refine ⟨_, rfl, _, _, rfl, rfl, _, rfl, ?_⟩
              refine ite2 (fun h3 => ⟨_, rfl, yes ?_⟩) (fun h3 => ?_)
              · rw [decide_eq_false (p := i ≤ 1) (by have := of_decide_eq_true h3; omega), Bool.and_false]
              · exact hno (by
                  show (!(decide (0 ≤ i) && decide (i ≤ 1))) = false
                  rw [decide_eq_true (p := 0 ≤ i) (by simpa using h2), decide_eq_true (p := i ≤ 1) (by simpa using h3)]
                  rfl) G (Same.refl _) hG
          · intro G ys sG hG hys
            have s4 : Same H (upd G D (.lst ys)) := (Hs.trans sG).trans (same_new hG)
            refine ⟨_, .inl ⟨ys, SqL.of upd_same, rfl⟩, ?_⟩
            rw [bad_empty hys]
            refine ite2 (fun h2 => ?_) (fun h2 => ?_)
            · refine ⟨_, rfl, fun d m => (kn ?_).here s4 m⟩
              unfold okNet
              rw [show (n.firsts.all fun x => decide (0 ≤ x) && decide (x ≤ 1)) = false by simpa using h2]
              simp
            have hfa : (n.firsts.all fun x => decide (0 ≤ x) && decide (x ≤ 1)) = true := by simpa using h2
            generalize upd G D (.lst ys) = H5 at s4
            refine ⟨_, rfl, an, _, rfl, .inr (Same.tup s4 hn), fun p1 m1 => ?_⟩
            have s5 := same_new (o := HO.lst (n.nexts.map V.int)) m1
            refine ⟨_, rfl, ao, _, rfl, .inr (Same.tup (s4.trans s5) ho), fun p2 m2 => ?_⟩
            have s6 := same_new (o := HO.lst (n.outs.map V.int)) m2
            refine ⟨p1, p2, _, _, rfl, rfl, s6 _ _ upd_same, upd_same, size_of (by rw [List.length_map, List.length_map]; have := hs.2.1; have := hs.2.2.2.1; omega), fun p3 m3 => ?_⟩
            have s7 := same_new (o := HO.lst (n.nexts.map V.int ++ n.outs.map V.int)) m3
            have s8 := ((s4.trans s5).trans s6).trans s7
            refine ⟨p3, rfl, ⟨_, SqL.of upd_same⟩, fun D2 hD2 => ?_⟩
            refine lc_data (K := K) (a := p3) (xs := n.nexts.map V.int ++ n.outs.map V.int) (ds := intsD (n.nexts ++ n.outs)) (badD (inR (w0 n + n.gates.length))) id (SqL.of upd_same) (by rw [← List.map_append]; exact dps_ints _) hD2
              (by rw [intsD, List.length_map, List.length_append]; have := hs.2.1; have := hs.2.2.2.1; omega) ?_ ?_
            · intro v d G2 acc R dm hv sG2 hG2 ha hno hyes
              obtain ⟨i, hi, rfl⟩ := List.mem_map.mp dm
              cases dp_int hv
              have yes : inR (w0 n + n.gates.length) i = false → ∃ acc', upd G2 D2 (.lst acc) D2 = some (.lst acc') ∧ acc'.length < sizeLine ∧ R (upd (upd G2 D2 (.lst acc)) D2 (.lst (acc' ++ [V.int i]))) := fun e => ⟨acc, upd_same, ha, by
                rw [upd_app]
                exact hyes (by show (!inR (w0 n + n.gates.length) i) = true; rw [e]; rfl) G2 _ (Same.refl _) hG2 (.int i)⟩
              refine ⟨rfl, _, rfl, i, rfl, _, rfl, ?_⟩
              refine ite2 (fun h4 => ?_) (fun h4 => ?_)
              · refine iteT ⟨_, rfl, yes ?_⟩
                simp only [Bool.not_eq_true', decide_eq_false_iff_not] at h4
                unfold inR
                rw [decide_eq_false h4, Bool.false_and]
              · refine ⟨_, rfl, _, rfl, _, _, rfl, rfl, _, rfl, ?_⟩
                refine ite2 (fun h5 => ⟨_, rfl, yes ?_⟩) (fun h5 => ?_)
                · unfold inR
                  rw [decide_eq_false (p := i < _) (by have := of_decide_eq_true h5; omega), Bool.and_false]
                · exact hno (by
                    show (!inR (w0 n + n.gates.length) i) = false
                    unfold inR
                    rw [decide_eq_true (p := 0 ≤ i) (by simpa using h4), decide_eq_true (p := i < _) (by simpa using h5)]
                    rfl) G2 (Same.refl _) hG2
            · intro G2 ys2 sG2 hG2 hys2
              have s9 : Same H (upd G2 D2 (.lst ys2)) := (s8.trans sG2).trans (same_new hG2)
              refine ⟨_, .inl ⟨ys2, SqL.of upd_same, rfl⟩, ?_⟩
              rw [bad_empty hys2]
              have eok : okNet n = (n.nexts ++ n.outs).all (inR (w0 n + n.gates.length)) := by
                unfold okNet
                rw [decide_eq_true p0, hk, decide_eq_true hnl, hfa]
                rfl
              refine ite2 (fun h4 => ?_) (fun h4 => ?_)
              · refine ⟨_, rfl, fun d m => (kn ?_).here s9 m⟩
                rw [eok]
                simpa only [Bool.not_eq_true'] using h4
              · refine ky ?_ _ s9
                rw [eok]
                simpa only [Bool.not_eq_true', Bool.not_eq_false] using h4
    · obtain ⟨a, xs, rfl, hx, hxs⟩ := dp_tup hd
      refine ⟨_, rfl, _, _, _, _, _, rfl, .ty _, dp_ty hd, kitD K _ _ (by decide), _, rfl, ?_⟩
      refine iteF ?_
      have hlen := dps_len hxs
      refine ⟨_, rfl, a, _, rfl, .inr hx, rfl, _, rfl, ?_⟩
      refine ifT (ne_int (by rw [hlen, hl]; decide)) ?_
      refine iteT ?_
      exact ⟨_, rfl, fun d n => kr.here (Same.refl _) n⟩
end
end Q03



set_option pp.maxSteps 1500
namespace Q03
open PySem L2 G M03
open C8 (Cal Met Mak pe_c pe_mk pe_mt pe_mt0 pe_gc pss_cut tCut)
/-- a list or a tuple of numbers -/
def Nums (K : PySem.W.Frag) (H : Hp) (v : V) (ns : List Int) : Prop := ∃ a : Addr, v = .ref a ∧ (SqL K H a (ns.map V.int) ∨ SqT K H a (ns.map V.int))
theorem Nums.same {K : PySem.W.Frag} {H H' : Hp} {v : V} {ns : List Int} (s : Same H H') : Nums K H v ns → Nums K H' v ns := fun ⟨a, e, h⟩ => ⟨a, e, h.imp (fun z => s.seq z) (fun z => Same.tup s z)⟩
def goodN (L : Int) (x : Int) : Bool := decide (0 ≤ x) && !decide (0 < x / 2 ^ L.toNat)
def goodNs (L many : Int) (ns : List Int) : Bool := decide ((ns.length : Int) = many) && ns.all (goodN L)
section
variable {P : Program} {w : World} {K : PySem.W.Frag} {mg : Str → Option Value} {base : Heap}
/-! ### check_lanes -/
def spLanes (K : PySem.W.Frag) (C : Addr) : Sp := fun vs H Q E => ∃ (L : Int) (v : V) (ns : List Int) (many : Int) (what : Str), vs = [.int L, v, .int many, .str what] ∧ Nums K H v ns ∧ ns.length ≤ 1000 ∧
  (L < 1 → RaiseF C "lanes" H E) ∧ (1 ≤ L → goodNs L many ns = false → RaiseF C what H E) ∧ (1 ≤ L → goodNs L many ns = true → ∀ H', Same H H' → Q .non H')
theorem ok_lanes {C : Addr} {f : Addr} {fd : FuncData} (F : Fun K "check_lanes" "check_lanes" s_check_lanes f fd) (T : Txt K mg) (c_InvalidNet : Erm P w K mg base 1 "InvalidNet" C "what") (c_is_count : Cal P w K mg base 1 "is_count" spCnt []) :
    FnOk P w K mg base (L2.CX P w) 3 f fd ["lanes", "numbers", "many", "what"] (spLanes K C) := by
  refine F.okX sc_check_lanes (fun vs H Q E h => ?_) (fun cdv A outer s H vs Q E hr h => ?_)
  · obtain ⟨L, v, ns, many, what, rfl, _⟩ := h
    rfl
  · obtain ⟨L, v, ns, many, what, rfl, ⟨a, rfl, hN⟩, hl, k1, k2, k3⟩ := h
    rcases hN with hN | hN
    · refine ⟨_, (pss_cons (ps_if (PW.pt (pw_or (pt_not (pt_val (pe_c c_is_count hr (by omega) rfl (pa_cons (pv 0) pa_nil)))) (pw_or1 (pt_cmpR op_lt (pv 0) pe_int (nomark _))))) (pss_one (ps_raise rfl (takes_of rfl rfl rfl rfl) (pmk_e c_InvalidNet hr (by omega) rfl (pa_cons pe_str pa_nil)))) pss_nil)
      (pss_one (ps_if (PW.pt (pw_or (pt_cmpR op_ne (pe_callB call_len_seq (by rfl) T.b_len boot_len' (pa_cons (pv 1) pa_nil)) (pv 2) (nomark _)) (pw_or1 (pt_truth (pe_lc (own := [("one", 4)]) rfl sc_check_lanes.nd (pi_list (pv 1)) (blkOk_by (own := [("one", 4)]) (N := ["lanes", "numbers", "many", "what", "one"]) (sc := defScope s_check_lanes) (by decide +kernel)) (fun _ _ _ _ _ => (pg_name (i := 4) sc_check_lanes.nd rfl (Or.inl rfl))) (fun _ _ _ _ _ => (pts_one (PW.pt (pw_or (pt_not (pt_val (pe_c c_is_count hr (by omega) rfl (pa_cons (pv 4) pa_nil)))) (pw_or1 (pt_cmpR op_gt (pe_op op_shr (pv 4) (pv 0)) pe_int (nomark _))))))) (fun _ _ _ _ _ => (pv 4))) (by intro _; rfl))))) (pss_one (ps_raise rfl (takes_of rfl rfl rfl rfl) (pmk_e c_InvalidNet hr (by omega) rfl (pa_cons (pv 3) pa_nil)))) pss_nil))), ?_⟩
      refine ⟨_, rfl, L, rfl, _, rfl, ?_⟩
      refine ite2 (fun h1 => ?_) (fun h1 => ?_)
      · refine iteT ?_
        refine ⟨_, rfl, fun d m => (k1 ?_).here (Same.refl _) m⟩
        have q : ¬ 0 ≤ L := by simpa using h1
        omega
      have q0 : 0 ≤ L := by simpa using h1
      refine ⟨_, rfl, _, _, rfl, rfl, _, rfl, ?_⟩
      refine ite2 (fun h2 => ?_) (fun h2 => ?_)
      · exact ⟨_, rfl, fun d m => (k1 (of_decide_eq_true h2)).here (Same.refl _) m⟩
      have q1 : 1 ≤ L := by
        have q : ¬ L < 1 := by simpa using h2
        omega
      have k2 := k2 q1
      have k3 := k3 q1
      refine ⟨_, rfl, a, _, rfl, .inl hN, _, rfl, rfl, _, rfl, ?_⟩
      rw [List.length_map]
      refine ite2 (fun h3 => ?_) (fun h3 => ?_)
      · refine iteT ?_
        refine ⟨_, rfl, _, rfl, fun d m => (k2 ?_).here (Same.refl _) m⟩
        have q : ¬ (ns.length : Int) = many := fun e => by
          rw [e] at h3
          simp at h3
        unfold goodNs
        rw [decide_eq_false q, Bool.false_and]
      have hm : (ns.length : Int) = many := by
        simpa only [Bool.not_eq_true', decide_eq_false_iff_not, V.int.injEq, Decidable.not_not] using h3
      have eok : goodNs L many ns = ns.all (goodN L) := by
        unfold goodNs
        rw [decide_eq_true hm, Bool.true_and]
      refine ⟨_, rfl, a, rfl, ⟨_, hN⟩, fun D hD => ?_⟩
      refine lc_data (K := K) (a := a) (xs := ns.map V.int) (ds := intsD ns) (badD (goodN L)) id hN (dps_ints _) hD (by rw [intsD, List.length_map]; omega) ?_ ?_
      · intro v d G acc R dm hv sG hG ha hno hyes
        obtain ⟨i, hi, rfl⟩ := List.mem_map.mp dm
        cases dp_int hv
        have yes : goodN L i = false → ∃ acc', upd G D (.lst acc) D = some (.lst acc') ∧ acc'.length < sizeLine ∧ R (upd (upd G D (.lst acc)) D (.lst (acc' ++ [V.int i]))) := fun e => ⟨acc, upd_same, ha, by
          rw [upd_app]
          exact hyes (by show (!goodN L i) = true; rw [e]; rfl) G _ (Same.refl _) hG (.int i)⟩
        refine ⟨rfl, _, rfl, i, rfl, _, rfl, ?_⟩
        refine ite2 (fun h4 => ?_) (fun h4 => ?_)
        · refine iteT ⟨_, rfl, yes ?_⟩
          simp only [Bool.not_eq_true', decide_eq_false_iff_not] at h4
          unfold goodN
          rw [decide_eq_false h4, Bool.false_and]
        · refine ⟨_, rfl, _, rfl, _, _, rfl, rfl, q0, _, _, rfl, rfl, _, rfl, ?_⟩
          refine ite2 (fun h5 => ⟨_, rfl, yes ?_⟩) (fun h5 => ?_)
          · unfold goodN
            rw [h5]
            simp
          · exact hno (by
              show (!goodN L i) = false
              unfold goodN
              rw [decide_eq_true (p := 0 ≤ i) (by simpa using h4), Bool.true_and]
              simpa using h5) G (Same.refl _) hG
      · intro G ys sG hG hys
        have s4 : Same H (upd G D (.lst ys)) := sG.trans (same_new hG)
        refine ⟨_, .inl ⟨ys, SqL.of upd_same, rfl⟩, ?_⟩
        rw [bad_empty hys]
        refine ite2 (fun h6 => ?_) (fun h6 => ?_)
        · refine ⟨_, rfl, _, rfl, fun d m => (k2 ?_).here s4 m⟩
          rw [eok]
          simpa only [Bool.not_eq_true'] using h6
        · refine k3 ?_ _ s4
          rw [eok]
          simpa only [Bool.not_eq_true', Bool.not_eq_false] using h6
    · refine ⟨_, (pss_cons (ps_if (PW.pt (pw_or (pt_not (pt_val (pe_c c_is_count hr (by omega) rfl (pa_cons (pv 0) pa_nil)))) (pw_or1 (pt_cmpR op_lt (pv 0) pe_int (nomark _))))) (pss_one (ps_raise rfl (takes_of rfl rfl rfl rfl) (pmk_e c_InvalidNet hr (by omega) rfl (pa_cons pe_str pa_nil)))) pss_nil)
      (pss_one (ps_if (PW.pt (pw_or (pt_cmpR op_ne (pe_callB call_len_seq (by rfl) T.b_len boot_len' (pa_cons (pv 1) pa_nil)) (pv 2) (nomark _)) (pw_or1 (pt_truth (pe_lc (own := [("one", 4)]) rfl sc_check_lanes.nd (pi_tup (pv 1)) (blkOk_by (own := [("one", 4)]) (N := ["lanes", "numbers", "many", "what", "one"]) (sc := defScope s_check_lanes) (by decide +kernel)) (fun _ _ _ _ _ => (pg_name (i := 4) sc_check_lanes.nd rfl (Or.inl rfl))) (fun _ _ _ _ _ => (pts_one (PW.pt (pw_or (pt_not (pt_val (pe_c c_is_count hr (by omega) rfl (pa_cons (pv 4) pa_nil)))) (pw_or1 (pt_cmpR op_gt (pe_op op_shr (pv 4) (pv 0)) pe_int (nomark _))))))) (fun _ _ _ _ _ => (pv 4))) (by intro _; rfl))))) (pss_one (ps_raise rfl (takes_of rfl rfl rfl rfl) (pmk_e c_InvalidNet hr (by omega) rfl (pa_cons (pv 3) pa_nil)))) pss_nil))), ?_⟩
      refine ⟨_, rfl, L, rfl, _, rfl, ?_⟩
      refine ite2 (fun h1 => ?_) (fun h1 => ?_)
      · refine iteT ?_
        refine ⟨_, rfl, fun d m => (k1 ?_).here (Same.refl _) m⟩
        have q : ¬ 0 ≤ L := by simpa using h1
        omega
      have q0 : 0 ≤ L := by simpa using h1
      refine ⟨_, rfl, _, _, rfl, rfl, _, rfl, ?_⟩
      refine ite2 (fun h2 => ?_) (fun h2 => ?_)
      · exact ⟨_, rfl, fun d m => (k1 (of_decide_eq_true h2)).here (Same.refl _) m⟩
      have q1 : 1 ≤ L := by
        have q : ¬ L < 1 := by simpa using h2
        omega
      have k2 := k2 q1
      have k3 := k3 q1
      refine ⟨_, rfl, a, _, rfl, .inr hN, _, rfl, rfl, _, rfl, ?_⟩
      rw [List.length_map]
      refine ite2 (fun h3 => ?_) (fun h3 => ?_)
      · refine iteT ?_
        refine ⟨_, rfl, _, rfl, fun d m => (k2 ?_).here (Same.refl _) m⟩
        have q : ¬ (ns.length : Int) = many := fun e => by
          rw [e] at h3
          simp at h3
        unfold goodNs
        rw [decide_eq_false q, Bool.false_and]
      have hm : (ns.length : Int) = many := by
        simpa only [Bool.not_eq_true', decide_eq_false_iff_not, V.int.injEq, Decidable.not_not] using h3
      have eok : goodNs L many ns = ns.all (goodN L) := by
        unfold goodNs
        rw [decide_eq_true hm, Bool.true_and]
      refine ⟨_, rfl, a, rfl, ⟨_, hN⟩, fun D hD => ?_⟩
      refine lc_dataT (K := K) (a := a) (xs := ns.map V.int) (ds := intsD ns) (badD (goodN L)) id hN (dps_ints _) hD (by rw [intsD, List.length_map]; omega) ?_ ?_
      · intro v d G acc R dm hv sG hG ha hno hyes
        obtain ⟨i, hi, rfl⟩ := List.mem_map.mp dm
        cases dp_int hv
        have yes : goodN L i = false → ∃ acc', upd G D (.lst acc) D = some (.lst acc') ∧ acc'.length < sizeLine ∧ R (upd (upd G D (.lst acc)) D (.lst (acc' ++ [V.int i]))) := fun e => ⟨acc, upd_same, ha, by
          rw [upd_app]
          exact hyes (by show (!goodN L i) = true; rw [e]; rfl) G _ (Same.refl _) hG (.int i)⟩
        refine ⟨rfl, _, rfl, i, rfl, _, rfl, ?_⟩
        refine ite2 (fun h4 => ?_) (fun h4 => ?_)
        · refine iteT ⟨_, rfl, yes ?_⟩
          simp only [Bool.not_eq_true', decide_eq_false_iff_not] at h4
          unfold goodN
          rw [decide_eq_false h4, Bool.false_and]
        · refine ⟨_, rfl, _, rfl, _, _, rfl, rfl, q0, _, _, rfl, rfl, _, rfl, ?_⟩
          refine ite2 (fun h5 => ⟨_, rfl, yes ?_⟩) (fun h5 => ?_)
          · unfold goodN
            rw [h5]
            simp
          · exact hno (by
              show (!goodN L i) = false
              unfold goodN
              rw [decide_eq_true (p := 0 ≤ i) (by simpa using h4), Bool.true_and]
              simpa using h5) G (Same.refl _) hG
      · intro G ys sG hG hys
        have s4 : Same H (upd G D (.lst ys)) := sG.trans (same_new hG)
        refine ⟨_, .inl ⟨ys, SqL.of upd_same, rfl⟩, ?_⟩
        rw [bad_empty hys]
        refine ite2 (fun h6 => ?_) (fun h6 => ?_)
        · refine ⟨_, rfl, _, rfl, fun d m => (k2 ?_).here s4 m⟩
          rw [eok]
          simpa only [Bool.not_eq_true'] using h6
        · refine k3 ?_ _ s4
          rw [eok]
          simpa only [Bool.not_eq_true', Bool.not_eq_false] using h6
/-! ### values_of -/
theorem side_at {g : Gate} {k : Nat} (h : k < g.2.length) : (V.str g.1 :: g.2.map V.int)[k + 1]? = some (.int (side g k)) := by
  show (g.2.map V.int)[k]? = _
  exact int_at h
theorem nth_at {xs : List Int} {a : Int} (h : inR xs.length a = true) : atI (xs.map V.int) a = some (.int (nth xs a)) := by
  unfold inR at h
  simp only [Bool.and_eq_true, decide_eq_true_eq] at h
  exact int_atI h.1 (by omega)
theorem gate_dp {H : Hp} {x : V} {g : Gate} (h : Dp K H x (gateD g)) : ∃ a, x = .ref a ∧ SqT K H a (.str g.1 :: g.2.map V.int) := by
  obtain ⟨a, xs, rfl, hx, hxs⟩ := dp_tup h
  cases hxs with
  | cons h0 hs =>
    cases dp_str h0
    cases dps_ints_of hs
    exact ⟨a, rfl, hx⟩
/-- what a net's parts are in the heap -/
theorem net_dp {H : Hp} {v : V} {n : Net} (h : Dp K H v (netD n)) : ∃ (a af an ag ao : Addr) (xg : List V), v = .ref a ∧ SqT K H a [.int n.inp, .ref af, .ref an, .ref ag, .ref ao] ∧ SqT K H af (n.firsts.map V.int) ∧ SqT K H an (n.nexts.map V.int) ∧
    SqT K H ag xg ∧ DpAll K H xg (n.gates.map gateD) ∧ SqT K H ao (n.outs.map V.int) := by
  obtain ⟨a, xs, rfl, hx, hxs⟩ := dp_tup h
  obtain ⟨v0, v1, v2, v3, v4, rfl, d0, d1, d2, d3, d4⟩ := dps5 hxs
  cases dp_int d0
  obtain ⟨af, xf, rfl, hf, hfs⟩ := dp_tup d1
  obtain ⟨an, xn, rfl, hn, hns⟩ := dp_tup d2
  obtain ⟨ag, xg, rfl, hg, hgs⟩ := dp_tup d3
  obtain ⟨ao, xo, rfl, ho, hos⟩ := dp_tup d4
  cases dps_ints_of hfs
  cases dps_ints_of hns
  cases dps_ints_of hos
  exact ⟨a, af, an, ag, ao, xg, rfl, hx, hf, hn, hg, hgs, ho⟩
def mask (L : Int) : Int := 2 ^ L.toNat - 1
def valsW (n : Net) (L : Int) (fl ins : List Int) : List Int := runG (mask L) (0 :: (ins ++ fl)) n.gates
def spVals (K : PySem.W.Frag) (C : Addr) : Sp := fun vs H Q E => ∃ (v vf vi : V) (n : Net) (L : Int) (fl ins : List Int), vs = [v, .int L, vf, vi] ∧ Dp K H v (netD n) ∧ SmallN n ∧ okNet n = true ∧ L ≤ 1000 ∧ Nums K H vf fl ∧ Nums K H vi ins ∧ fl.length ≤ 1000 ∧ ins.length ≤ 1000 ∧
  (L < 1 → RaiseF C "lanes" H E) ∧ (1 ≤ L → goodNs L n.inp ins = false → RaiseF C "inputs" H E) ∧ (1 ≤ L → goodNs L n.inp ins = true → goodNs L n.firsts.length fl = false → RaiseF C "flops" H E) ∧
  (1 ≤ L → goodNs L n.inp ins = true → goodNs L n.firsts.length fl = true → ∀ (p : Addr) (H' : Hp), Same H H' → H' p = some (.lst ((valsW n L fl ins).map V.int)) → Q (.ref p) H')
theorem RaiseF.later {C : Addr} {x : Str} {H H' : Hp} {E : XK} (s : Same H H') (r : RaiseF C x H E) : RaiseF C x H' E := fun H2 d s2 e => r H2 d (s.trans s2) e
theorem none_of_same {H H' : Hp} {p : Addr} (s : Same H H') (n : H' p = none) : H p = none := by
  cases e : H p with
  | none => rfl
  | some o =>
    rw [s _ _ e] at n
    cases n
theorem words_ne : ("or" : Str) ≠ "and" ∧ ("or" : Str) ≠ "xor" ∧ ("xor" : Str) ≠ "and" ∧ ("not" : Str) ≠ "and" ∧ ("not" : Str) ≠ "xor" ∧ ("not" : Str) ≠ "or" ∧ ("mux" : Str) ≠ "and" ∧ ("mux" : Str) ≠ "xor" ∧ ("mux" : Str) ≠ "or" ∧ ("mux" : Str) ≠ "not" := by decide +kernel
theorem size_lt {m : Nat} (h : m < 100000) : m < sizeLine := Nat.lt_of_lt_of_le h (by decide)
theorem ok_vals {C : Addr} {f : Addr} {fd : FuncData} (F : Fun K "values_of" "values_of" s_values_of f fd) (T : Txt K mg) (c_check_lanes : CalX P w K mg base 3 "check_lanes" (spLanes K C)) :
    FnOk P w K mg base (L2.CX P w) 4 f fd ["net", "lanes", "flops", "inputs"] (spVals K C) := by
  refine F.okX sc_values_of (fun vs H Q E h => ?_) (fun cdv A outer s H vs Q E hr h => ?_)
  · obtain ⟨v, vf, vi, n, L, fl, ins, rfl, _⟩ := h
    rfl
  · obtain ⟨v, vf, vi, n, L, fl, ins, rfl, hd, hs, hok, hL, hf, hi, hfl, hil, k1, k2, k3, k4⟩ := h
    obtain ⟨p0, hgs, hnl, hfi, hnx⟩ := okNet_parts hok
    obtain ⟨a, af, an, ag, ao, xg, rfl, hx, hF, hN, hG, hGs, hO⟩ := net_dp hd
    refine ⟨_, (pss_cons (ps_expr (pe_cx c_check_lanes hr (by omega) rfl (takes_of rfl rfl rfl rfl) (pa_cons (pv 1) (pa_cons (pv 3) (pa_cons (pe_ix ix_tup (pv 0) pe_int (fun _ _ => rfl)) (pa_cons pe_str pa_nil))))))
      (pss_cons (ps_expr (pe_cx c_check_lanes hr (by omega) rfl (takes_of rfl rfl rfl rfl) (pa_cons (pv 1) (pa_cons (pv 2) (pa_cons (pe_callB call_len_seq (by rfl) T.b_len boot_len' (pa_cons (pe_ix ix_tup (pv 0) pe_int (fun _ _ => rfl)) pa_nil)) (pa_cons pe_str pa_nil))))))
      (pss_cons (ps_set (i := 4) sc_values_of.nd rfl (Or.inl rfl) (pe_op op_sub (pe_op op_shl pe_int (pv 1)) pe_int))
      (pss_cons (ps_set (i := 5) sc_values_of.nd rfl (Or.inl rfl) (pe_op op_cat (pe_op op_cat (pe_lst (pa_cons pe_int pa_nil)) (pe_callTy call_list_of (by rfl) T.b_list boot_list' (pa_cons (pv 3) pa_nil))) (pe_callTy call_list_of (by rfl) T.b_list boot_list' (pa_cons (pv 2) pa_nil))))
      (pss_cons (ps_for (passes_of rfl) rfl (pi_tup (pe_ix ix_tup (pv 0) pe_int (fun _ _ => rfl))) (pg_name (i := 6) sc_values_of.nd rfl (Or.inl rfl)) (pss_cons (ps_set (i := 7) sc_values_of.nd rfl (Or.inl rfl) (pe_ix ix_tup (pv 6) pe_int (fun _ _ => rfl)))
      (pss_cons (ps_set (i := 8) sc_values_of.nd rfl (Or.inl rfl) (pe_ix ix_list (pv 5) (pe_ix ix_tup (pv 6) pe_int (fun _ _ => rfl)) (fun _ _ => rfl)))
      (pss_one (ps_if (pt_cmpR op_eq (pv 7) pe_str (nomark _)) (pss_one (ps_expr (pe_bm PySem.F.plainAttrs_list PySem.F.slot_list_append PySem.F.type_list_append mt_append (pv 5) (pa_cons (pe_op op_and (pv 8) (pe_ix ix_list (pv 5) (pe_ix ix_tup (pv 6) pe_int (fun _ _ => rfl)) (fun _ _ => rfl))) pa_nil)))) (pss_one (ps_if (pt_cmpR op_eq (pv 7) pe_str (nomark _)) (pss_one (ps_expr (pe_bm PySem.F.plainAttrs_list PySem.F.slot_list_append PySem.F.type_list_append mt_append (pv 5) (pa_cons (pe_op op_xor (pv 8) (pe_ix ix_list (pv 5) (pe_ix ix_tup (pv 6) pe_int (fun _ _ => rfl)) (fun _ _ => rfl))) pa_nil)))) (pss_one (ps_if (pt_cmpR op_eq (pv 7) pe_str (nomark _)) (pss_one (ps_expr (pe_bm PySem.F.plainAttrs_list PySem.F.slot_list_append PySem.F.type_list_append mt_append (pv 5) (pa_cons (pe_op op_or (pv 8) (pe_ix ix_list (pv 5) (pe_ix ix_tup (pv 6) pe_int (fun _ _ => rfl)) (fun _ _ => rfl))) pa_nil)))) (pss_one (ps_if (pt_cmpR op_eq (pv 7) pe_str (nomark _)) (pss_one (ps_expr (pe_bm PySem.F.plainAttrs_list PySem.F.slot_list_append PySem.F.type_list_append mt_append (pv 5) (pa_cons (pe_op op_xor (pv 8) (pv 4)) pa_nil)))) (pss_one (ps_expr (pe_bm PySem.F.plainAttrs_list PySem.F.slot_list_append PySem.F.type_list_append mt_append (pv 5) (pa_cons (pe_op op_or (pe_op op_and (pv 8) (pe_ix ix_list (pv 5) (pe_ix ix_tup (pv 6) pe_int (fun _ _ => rfl)) (fun _ _ => rfl))) (pe_op op_and (pe_op op_xor (pv 8) (pv 4)) (pe_ix ix_list (pv 5) (pe_ix ix_tup (pv 6) pe_int (fun _ _ => rfl)) (fun _ _ => rfl)))) pa_nil)))))))))))))))
      (pss_one (ps_ret (pv 5)))))))), ?_⟩
    refine ⟨_, rfl, _, rfl, _, rfl, a, _, 0, _, rfl, rfl, hx, atI_nat (j := 0) rfl, L, vi, ins, n.inp, "inputs", rfl, hi, hil, k1, k2, fun q1 g1 H1 s1 => ?_⟩
    have k3 := k3 q1 g1
    have k4 := k4 q1 g1
    refine ⟨_, rfl, _, rfl, _, rfl, a, _, 1, _, rfl, rfl, Same.tup s1 hx, atI_nat (j := 1) rfl, af, _, rfl, .inr (Same.tup s1 hF), L, vf, fl, _, "flops", rfl, Nums.same s1 hf, hfl, fun q => absurd q (by omega), fun _ e => RaiseF.later s1 (k3 (by rw [← List.length_map (f := V.int)]; exact e)), fun _ g2 H2 s2 => ?_⟩
    rw [List.length_map] at g2
    have k4 := k4 g2
    have s12 := s1.trans s2
    -- mask, found
    refine ⟨_, rfl, _, _, rfl, rfl, ⟨by omega, by omega, by decide⟩, _, _, rfl, rfl, ?_⟩
    rw [Int.one_mul]
    obtain ⟨ai, rfl, hi2⟩ := Nums.same s12 hi
    obtain ⟨al, rfl, hf2⟩ := Nums.same s12 hf
    refine ⟨(show 1 ≤ sizeLine by decide), fun p1 m1 => ?_⟩
    have t1 := same_new (o := HO.lst [V.int 0]) m1
    refine ⟨_, rfl, ai, _, rfl, hi2.elim (fun z => .inl (t1.seq z)) (fun z => .inr (Same.tup t1 z)), fun p2 m2 => ?_⟩
    have t2 := same_new (o := HO.lst (ins.map V.int)) m2
    refine ⟨p1, p2, _, _, rfl, rfl, t2 _ _ upd_same, upd_same, size_of (by rw [List.length_map]; simp only [List.length_singleton]; omega), fun p3 m3 => ?_⟩
    have t3 := same_new (o := HO.lst ([V.int 0] ++ ins.map V.int)) m3
    have t123 := (t1.trans t2).trans t3
    refine ⟨_, rfl, al, _, rfl, hf2.elim (fun z => .inl (t123.seq z)) (fun z => .inr (Same.tup t123 z)), fun p4 m4 => ?_⟩
    have t4 := same_new (o := HO.lst (fl.map V.int)) m4
    refine ⟨p3, p4, _, _, rfl, rfl, t4 _ _ upd_same, upd_same, size_of (by rw [List.length_append, List.length_map, List.length_map]; simp only [List.length_singleton]; omega), fun p5 m5 => ?_⟩
    have t1234 := t123.trans t4
    have e5 : [V.int 0] ++ ins.map V.int ++ fl.map V.int = (0 :: (ins ++ fl)).map V.int := by simp
    rw [e5]
    have n5 : H p5 = none := none_of_same (s12.trans t1234) m5
    have s5 : Same H (upd (upd (upd (upd (upd H2 p1 (.lst [V.int 0])) p2 (.lst (ins.map V.int))) p3 (.lst ([V.int 0] ++ ins.map V.int))) p4 (.lst (fl.map V.int))) p5 (.lst ((0 :: (ins ++ fl)).map V.int))) := (s12.trans t1234).trans (same_new m5)
    have h5 := upd_same (H := upd (upd (upd (upd H2 p1 (.lst [V.int 0])) p2 (.lst (ins.map V.int))) p3 (.lst ([V.int 0] ++ ins.map V.int))) p4 (.lst (fl.map V.int))) (a := p5) (o := .lst ((0 :: (ins ++ fl)).map V.int))
    generalize upd (upd (upd (upd (upd H2 p1 (.lst [V.int 0])) p2 (.lst (ins.map V.int))) p3 (.lst ([V.int 0] ++ ins.map V.int))) p4 (.lst (fl.map V.int))) p5 (.lst ((0 :: (ins ++ fl)).map V.int)) = H5 at s5 h5
    refine ⟨_, rfl, a, _, 3, _, rfl, rfl, Same.tup s5 hx, atI_nat (j := 3) rfl, ag, rfl, ⟨_, Same.tup s5 hG⟩, ?_⟩
    have hgl : xg.length = n.gates.length := by rw [dps_len hGs, List.length_map]
    have gN : n.inp = ins.length := by
      unfold goodNs at g1
      simp only [Bool.and_eq_true, decide_eq_true_eq] at g1
      exact g1.1.symm
    have gF : n.firsts.length = fl.length := by
      unfold goodNs at g2
      simp only [Bool.and_eq_true, decide_eq_true_eq] at g2
      have := g2.1
      omega
    refine for_tup (K := K) (a := ag) (xs := xg) (fun i σ H' => ∃ (o6 o7 o8 : Option V) (Hs : Same H H'),
      σ = [some (.ref a), some (.int L), some (.ref al), some (.ref ai), some (.int (mask L)), some (.ref p5), o6, o7, o8] ∧ H' p5 = some (.lst ((runG (mask L) (0 :: (ins ++ fl)) (n.gates.take i)).map V.int)))
      ⟨none, none, none, s5, rfl, h5⟩ ?_ ?_ ?_
    · rintro i σ H' _ ⟨_, _, _, Hs, _, _⟩
      exact Same.tup Hs hG
    · rintro i x σ H6 hix ⟨o6, o7, o8, Hs, rfl, h6⟩
      obtain ⟨d, hdi, dx⟩ := dps_getv hGs hix
      rw [List.getElem?_map] at hdi
      obtain ⟨g, hgt, rfl⟩ := Option.map_eq_some_iff.mp hdi
      obtain ⟨ga, rfl, hg⟩ := gate_dp dx
      have hg6 := Same.tup Hs hg
      have hog0 := okGs_get hgs hgt
      have hil2 : i < n.gates.length := (List.getElem?_eq_some_iff.mp hgt).1
      have hlen : (runG (mask L) (0 :: (ins ++ fl)) (n.gates.take i)).length = 1 + ins.length + fl.length + i := by
        rw [runG_len, List.length_take, List.length_cons, List.length_append]
        omega
      have htk := take_snoc hgt
      have hrun := runG_snoc (mask L) g (n.gates.take i) (0 :: (ins ++ fl))
      rw [← htk] at hrun
      generalize runG (mask L) (0 :: (ins ++ fl)) (n.gates.take i) = cur at h6 hlen hrun
      have hog : okG cur.length g = true := by
        rw [hlen]
        have e : w0 n + (i : Int) = ((1 + ins.length + fl.length + i : Nat) : Int) := by
          unfold w0
          omega
        rw [← e]
        exact hog0
      have fin : ∀ z : Int, z = evG (mask L) cur g → ∃ (o6 o7 o8 : Option V) (Hs : Same H (upd H6 p5 (.lst (cur.map V.int ++ [V.int z])))),
          [some (V.ref a), some (.int L), some (.ref al), some (.ref ai), some (.int (mask L)), some (.ref p5), some (.ref ga), some (.str g.1), some (.int (nth cur (side g 0)))] = [some (V.ref a), some (.int L), some (.ref al), some (.ref ai), some (.int (mask L)), some (.ref p5), o6, o7, o8] ∧
          upd H6 p5 (.lst (cur.map V.int ++ [V.int z])) p5 = some (.lst ((runG (mask L) (0 :: (ins ++ fl)) (n.gates.take (i + 1))).map V.int)) := fun z hz => by
        refine ⟨_, _, _, same_mut Hs n5, rfl, ?_⟩
        rw [upd_same, hrun, hz, List.map_append]
        rfl
      have hgl1 := hs.2.2.1
      have hlen2 : 0 < g.2.length := by
        rcases okG_word hog with ⟨_, q⟩ | ⟨_, q⟩ | ⟨_, q⟩ | ⟨_, q⟩ | ⟨_, q⟩ <;> omega
      refine ⟨_, rfl, ga, _, 0, _, rfl, rfl, hg6, atI_nat (j := 0) rfl, ?_⟩
      refine ⟨_, rfl, _, rfl, ga, _, 1, _, rfl, rfl, hg6, atI_nat (j := 1) (side_at (k := 0) (by omega)), p5, _, _, _, rfl, rfl, SqL.of h6, nth_at (okG_side hog (k := 0) (by omega)), ?_⟩
      rcases okG_word hog with ⟨e, hgw⟩ | ⟨e, hgw⟩ | ⟨e, hgw⟩ | ⟨e, hgw⟩ | ⟨e, hgw⟩
      · -- and
        refine ⟨_, rfl, rfl, _, rfl, ?_⟩
        refine ifT (by rw [e]; decide) ?_
        refine ⟨_, rfl, .inl ⟨rfl, _, SqL.of h6⟩, _, rfl, _, rfl, _, rfl, ga, _, 2, _, rfl, rfl, hg6, atI_nat (j := 2) (side_at (k := 1) (by omega)), p5, _, _, _, rfl, rfl, SqL.of h6, nth_at (okG_side hog (k := 1) (by omega)), _, _, rfl, rfl, _, _, _, rfl, rfl, h6, size_lt (by rw [List.length_map, hlen]; omega), ?_⟩
        exact fin _ (by unfold evG; simp [e, words_ne])
      · -- or
        refine ⟨_, rfl, rfl, _, rfl, ?_⟩
        refine ifF (by rw [e]; decide) ?_
        refine ⟨_, rfl, rfl, _, rfl, ?_⟩
        refine ifF (by rw [e]; decide) ?_
        refine ⟨_, rfl, rfl, _, rfl, ?_⟩
        refine ifT (by rw [e]; decide) ?_
        refine ⟨_, rfl, .inl ⟨rfl, _, SqL.of h6⟩, _, rfl, _, rfl, _, rfl, ga, _, 2, _, rfl, rfl, hg6, atI_nat (j := 2) (side_at (k := 1) (by omega)), p5, _, _, _, rfl, rfl, SqL.of h6, nth_at (okG_side hog (k := 1) (by omega)), _, _, rfl, rfl, _, _, _, rfl, rfl, h6, size_lt (by rw [List.length_map, hlen]; omega), ?_⟩
        exact fin _ (by unfold evG; simp [e, words_ne])
      · -- xor
        refine ⟨_, rfl, rfl, _, rfl, ?_⟩
        refine ifF (by rw [e]; decide) ?_
        refine ⟨_, rfl, rfl, _, rfl, ?_⟩
        refine ifT (by rw [e]; decide) ?_
        refine ⟨_, rfl, .inl ⟨rfl, _, SqL.of h6⟩, _, rfl, _, rfl, _, rfl, ga, _, 2, _, rfl, rfl, hg6, atI_nat (j := 2) (side_at (k := 1) (by omega)), p5, _, _, _, rfl, rfl, SqL.of h6, nth_at (okG_side hog (k := 1) (by omega)), _, _, rfl, rfl, _, _, _, rfl, rfl, h6, size_lt (by rw [List.length_map, hlen]; omega), ?_⟩
        exact fin _ (by unfold evG; simp [e, words_ne])
      · -- not
        refine ⟨_, rfl, rfl, _, rfl, ?_⟩
        refine ifF (by rw [e]; decide) ?_
        refine ⟨_, rfl, rfl, _, rfl, ?_⟩
        refine ifF (by rw [e]; decide) ?_
        refine ⟨_, rfl, rfl, _, rfl, ?_⟩
        refine ifF (by rw [e]; decide) ?_
        refine ⟨_, rfl, rfl, _, rfl, ?_⟩
        refine ifT (by rw [e]; decide) ?_
        refine ⟨_, rfl, .inl ⟨rfl, _, SqL.of h6⟩, _, rfl, _, rfl, _, _, rfl, rfl, _, _, _, rfl, rfl, h6, size_lt (by rw [List.length_map, hlen]; omega), ?_⟩
        exact fin _ (by unfold evG; simp [e, words_ne])
      · -- mux
        refine ⟨_, rfl, rfl, _, rfl, ?_⟩
        refine ifF (by rw [e]; decide) ?_
        refine ⟨_, rfl, rfl, _, rfl, ?_⟩
        refine ifF (by rw [e]; decide) ?_
        refine ⟨_, rfl, rfl, _, rfl, ?_⟩
        refine ifF (by rw [e]; decide) ?_
        refine ⟨_, rfl, rfl, _, rfl, ?_⟩
        refine ifF (by rw [e]; decide) ?_
        refine ⟨_, rfl, .inl ⟨rfl, _, SqL.of h6⟩, _, rfl, _, rfl, _, rfl, ga, _, 2, _, rfl, rfl, hg6, atI_nat (j := 2) (side_at (k := 1) (by omega)), p5, _, _, _, rfl, rfl, SqL.of h6, nth_at (okG_side hog (k := 1) (by omega)), _, _, rfl, rfl, _, rfl, _, rfl, _, _, rfl, rfl, _, rfl, _, rfl, ga, _, 3, _, rfl, rfl, hg6, atI_nat (j := 3) (side_at (k := 2) (by omega)), p5, _, _, _, rfl, rfl, SqL.of h6, nth_at (okG_side hog (k := 2) (by omega)), _, _, rfl, rfl, _, _, rfl, rfl, _, _, _, rfl, rfl, h6, size_lt (by rw [List.length_map, hlen]; omega), ?_⟩
        exact fin _ (by unfold evG; simp [e, words_ne])
    · rintro σ H7 ⟨o6, o7, o8, Hs, rfl, h7⟩
      rw [hgl, List.take_length] at h7
      exact ⟨_, rfl, k4 p5 H7 Hs h7⟩
end
end Q03



set_option pp.maxSteps 1500
namespace Q03
open PySem L2 G M03
open C8 (Cal Met Mak pe_c pe_mk pe_mt pe_mt0 pe_gc pss_cut tCut)
def outsOf (xs ws : List Int) : List Int := ws.map (nth xs)
section
variable {P : Program} {w : World} {K : PySem.W.Frag} {mg : Str → Option Value} {base : Heap}
def gN (xs : List Int) : PyData → PyData
  | .int i => .int (nth xs i)
  | d => d
theorem gN_map (xs l : List Int) : ((intsD l).filter (fun _ => true)).map (gN xs) = (outsOf xs l).map PyData.int := by
  rw [List.filter_eq_self.mpr fun _ _ => rfl]
  unfold intsD outsOf
  rw [List.map_map, List.map_map]
  rfl
/-! ### step_values -/
def Pre (K : PySem.W.Frag) (H : Hp) (v vf vi : V) (n : Net) (L : Int) (fl ins : List Int) : Prop := Dp K H v (netD n) ∧ SmallN n ∧ okNet n = true ∧ L ≤ 1000 ∧ Nums K H vf fl ∧ Nums K H vi ins ∧ fl.length ≤ 1000 ∧ ins.length ≤ 1000
theorem Pre.same {H H' : Hp} {v vf vi : V} {n : Net} {L : Int} {fl ins : List Int} (s : Same H H') (h : Pre K H v vf vi n L fl ins) : Pre K H' v vf vi n L fl ins := ⟨dp_same s h.1, h.2.1, h.2.2.1, h.2.2.2.1, Nums.same s h.2.2.2.2.1, Nums.same s h.2.2.2.2.2.1, h.2.2.2.2.2.2⟩
/-- what a step answers -/
def StepE (n : Net) (L : Int) (fl ins : List Int) (C : Addr) (H : Hp) (Q : VK) (E : XK) : Prop :=
  (L < 1 → RaiseF C "lanes" H E) ∧ (1 ≤ L → goodNs L n.inp ins = false → RaiseF C "inputs" H E) ∧ (1 ≤ L → goodNs L n.inp ins = true → goodNs L n.firsts.length fl = false → RaiseF C "flops" H E) ∧
  (1 ≤ L → goodNs L n.inp ins = true → goodNs L n.firsts.length fl = true → ∀ (t l1 l2 : Addr) (H' : Hp), Same H H' → H l1 = none → H l2 = none → H' t = some (.tup [.ref l1, .ref l2]) → H' l1 = some (.lst ((outsOf (valsW n L fl ins) n.outs).map V.int)) → H' l2 = some (.lst ((outsOf (valsW n L fl ins) n.nexts).map V.int)) → Q (.ref t) H')
def spStep (K : PySem.W.Frag) (C : Addr) : Sp := fun vs H Q E => ∃ (v vf vi : V) (n : Net) (L : Int) (fl ins : List Int), vs = [v, .int L, vf, vi] ∧ Pre K H v vf vi n L fl ins ∧ StepE n L fl ins C H Q E
theorem ok_step {C : Addr} {f : Addr} {fd : FuncData} (F : Fun K "step_values" "step_values" s_step_values f fd) (T : Txt K mg) (c_values_of : CalX P w K mg base 4 "values_of" (spVals K C)) :
    FnOk P w K mg base (L2.CX P w) 5 f fd ["net", "lanes", "flops", "inputs"] (spStep K C) := by
  refine F.okX sc_step_values (fun vs H Q E h => ?_) (fun cdv A outer s H vs Q E hr h => ?_)
  · obtain ⟨v, vf, vi, n, L, fl, ins, rfl, _⟩ := h
    rfl
  · obtain ⟨v, vf, vi, n, L, fl, ins, rfl, ⟨hd, hs, hok, hL, hf, hi, hfl, hil⟩, k1, k2, k3, k4⟩ := h
    refine ⟨_, (pss_cons (ps_set (i := 4) sc_step_values.nd rfl (Or.inr rfl) (pe_cx c_values_of hr (by omega) rfl (takes_of rfl rfl rfl rfl) (pa_cons (pv 0) (pa_cons (pv 1) (pa_cons (pv 2) (pa_cons (pv 3) pa_nil))))))
      (pss_one (ps_ret (pe_tup (pa_cons (pe_lc (own := [("wire", 5)]) rfl sc_step_values.nd (pi_tup (pe_ix ix_tup (pv 0) pe_int (fun _ _ => rfl))) (blkOk_by (own := [("wire", 5)]) (N := ["net", "lanes", "flops", "inputs", "found", "wire"]) (sc := defScope s_step_values) (by decide +kernel)) (fun _ _ _ _ _ => (pg_name (i := 5) sc_step_values.nd rfl (Or.inl rfl))) (fun _ _ _ _ _ => pts_nil) (fun _ _ _ _ _ => (pe_ix (ix_listK (K := K) rfl) (pv 4) (pv 5) (fun _ _ => rfl)))) (pa_cons (pe_lc (own := [("wire", 5)]) rfl sc_step_values.nd (pi_tup (pe_ix ix_tup (pv 0) pe_int (fun _ _ => rfl))) (blkOk_by (own := [("wire", 5)]) (N := ["net", "lanes", "flops", "inputs", "found", "wire"]) (sc := defScope s_step_values) (by decide +kernel)) (fun _ _ _ _ _ => (pg_name (i := 5) sc_step_values.nd rfl (Or.inl rfl))) (fun _ _ _ _ _ => pts_nil) (fun _ _ _ _ _ => (pe_ix (ix_listK (K := K) rfl) (pv 4) (pv 5) (fun _ _ => rfl)))) pa_nil)))))), ?_⟩
    refine ⟨_, rfl, _, rfl, _, rfl, _, rfl, v, vf, vi, n, L, fl, ins, rfl, hd, hs, hok, hL, hf, hi, hfl, hil, k1, k2, k3, fun q1 g1 g2 p H1 s1 h1 => ?_⟩
    have k4 := k4 q1 g1 g2
    obtain ⟨p0, hgs, hnl, hfi, hnx⟩ := okNet_parts hok
    obtain ⟨a, af, an, ag, ao, xg, rfl, hx, hF, hN, hG, hGs, hO⟩ := net_dp hd
    refine ⟨_, rfl, a, _, 4, _, rfl, rfl, Same.tup s1 hx, atI_nat (j := 4) rfl, ao, rfl, ⟨_, Same.tup s1 hO⟩, fun D hD => ?_⟩
    have hvl : ((valsW n L fl ins).length : Int) = w0 n + n.gates.length := by
      unfold valsW w0
      unfold goodNs at g1 g2
      simp only [Bool.and_eq_true, decide_eq_true_eq] at g1 g2
      rw [runG_len, List.length_cons, List.length_append]
      have := g1.1
      have := g2.1
      omega
    refine lc_dataT (K := K) (a := ao) (xs := n.outs.map V.int) (ds := intsD n.outs) (fun _ => true) (gN (valsW n L fl ins)) (Same.tup s1 hO) (dps_ints _) hD (by rw [intsD, List.length_map]; have := hs.1; have := hs.2.1; have := hs.2.2.2.1; omega) ?_ ?_
    · intro v d G acc R dm hv sG hG ha _ hyes
      obtain ⟨i, hi, rfl⟩ := List.mem_map.mp dm
      cases dp_int hv
      have hp : upd G D (.lst acc) p = some (.lst ((valsW n L fl ins).map V.int)) := same_new hG _ _ (sG _ _ h1)
      refine ⟨rfl, _, rfl, _, rfl, p, _, _, _, rfl, rfl, SqL.of hp, nth_at (by rw [hvl]; exact hnx i (List.mem_append_right _ hi)), acc, upd_same, ha, ?_⟩
      rw [upd_app]
      exact hyes rfl G _ (Same.refl _) hG (.int _)
    · intro G ys sG hG hys
      rw [gN_map] at hys
      cases dps_ints_of hys
      have s2 : Same H (upd G D (.lst ((outsOf (valsW n L fl ins) n.outs).map V.int))) := (s1.trans sG).trans (same_new hG)
      have hp2 : upd G D (.lst ((outsOf (valsW n L fl ins) n.outs).map V.int)) p = some (.lst ((valsW n L fl ins).map V.int)) := same_new hG _ _ (sG _ _ h1)
      have hD1 : upd G D (.lst ((outsOf (valsW n L fl ins) n.outs).map V.int)) D = some (.lst ((outsOf (valsW n L fl ins) n.outs).map V.int)) := upd_same
      have nD : H D = none := none_of_same s1 hD
      generalize upd G D (.lst ((outsOf (valsW n L fl ins) n.outs).map V.int)) = H2 at s2 hp2 hD1
      refine ⟨_, rfl, a, _, 2, _, rfl, rfl, Same.tup s2 hx, atI_nat (j := 2) rfl, an, rfl, ⟨_, Same.tup s2 hN⟩, fun D2 hD2 => ?_⟩
      refine lc_dataT (K := K) (a := an) (xs := n.nexts.map V.int) (ds := intsD n.nexts) (fun _ => true) (gN (valsW n L fl ins)) (Same.tup s2 hN) (dps_ints _) hD2 (by rw [intsD, List.length_map]; have := hs.1; have := hs.2.1; have := hs.2.2.2.1; omega) ?_ ?_
      · intro v d G acc R dm hv sG hG ha _ hyes
        obtain ⟨i, hi, rfl⟩ := List.mem_map.mp dm
        cases dp_int hv
        have hp : upd G D2 (.lst acc) p = some (.lst ((valsW n L fl ins).map V.int)) := same_new hG _ _ (sG _ _ (hp2))
        refine ⟨rfl, _, rfl, _, rfl, p, _, _, _, rfl, rfl, SqL.of hp, nth_at (by rw [hvl]; exact hnx i (List.mem_append_left _ hi)), acc, upd_same, ha, ?_⟩
        rw [upd_app]
        exact hyes rfl G _ (Same.refl _) hG (.int _)
      · intro G2 ys2 sG2 hG2 hys2
        rw [gN_map] at hys2
        cases dps_ints_of hys2
        refine ⟨(show 2 ≤ sizeLine by decide), fun t nt => ?_⟩
        have s3 := same_new (o := HO.lst ((outsOf (valsW n L fl ins) n.nexts).map V.int)) hG2
        have s4 := same_new (o := HO.tup [V.ref D, V.ref D2]) nt
        exact k4 t D D2 _ (((s2.trans sG2).trans s3).trans s4) nD (none_of_same s2 hD2) upd_same (s4 _ _ (s3 _ _ (sG2 _ _ hD1))) (s4 _ _ upd_same)
theorem StepE.later {n : Net} {L : Int} {fl ins : List Int} {C : Addr} {H H' : Hp} {Q : VK} {E : XK} (s : Same H H') (h : StepE n L fl ins C H Q E) : StepE n L fl ins C H' Q E :=
  ⟨fun q => RaiseF.later s (h.1 q), fun q g => RaiseF.later s (h.2.1 q g), fun q g g' => RaiseF.later s (h.2.2.1 q g g'), fun q g g' t l1 l2 H2 s2 n1 n2 => h.2.2.2 q g g' t l1 l2 H2 (s.trans s2) (none_of_same s n1) (none_of_same s n2)⟩
/-! ### step_net -/
def spStepNet (K : PySem.W.Frag) (C : Addr) : Sp := fun vs H Q E => ∃ (v vf vi : V) (L : Int), vs = [v, .int L, vf, vi] ∧ ((∃ (n : Net) (fl ins : List Int), Pre K H v vf vi n L fl ins ∧ StepE n L fl ins C H Q E) ∨
  (∃ n : Net, Dp K H v (netD n) ∧ SmallN n ∧ okNet n = false ∧ RaiseF C "form" H E) ∨ ∃ ds, Dp K H v (.tuple ds) ∧ ds.length = 4 ∧ RaiseF C "form" H E)
theorem ok_stepNet {C : Addr} {f : Addr} {fd : FuncData} (F : Fun K "step_net" "step_net" s_step_net f fd) (T : Txt K mg) (c_check_net : CalX P w K mg base 3 "check_net" (spCheck K C)) (c_step_values : CalX P w K mg base 5 "step_values" (spStep K C)) :
    FnOk P w K mg base (L2.CX P w) 6 f fd ["net", "lanes", "flops", "inputs"] (spStepNet K C) := by
  refine F.okX sc_step_net (fun vs H Q E h => ?_) (fun cdv A outer s H vs Q E hr h => ?_)
  · obtain ⟨v, vf, vi, L, rfl, _⟩ := h
    rfl
  · obtain ⟨v, vf, vi, L, rfl, h⟩ := h
    refine ⟨_, (pss_cons (ps_expr (pe_cx c_check_net hr (by omega) rfl (takes_of rfl rfl rfl rfl) (pa_cons (pv 0) pa_nil)))
      (pss_one (ps_ret (pe_cx c_step_values hr (by omega) rfl (takes_of rfl rfl rfl rfl) (pa_cons (pv 0) (pa_cons (pv 1) (pa_cons (pv 2) (pa_cons (pv 3) pa_nil)))))))), ?_⟩
    rcases h with ⟨n, fl, ins, hp, k⟩ | ⟨n, hd, hs, hb, k⟩ | ⟨ds, hd, hl, k⟩
    · refine ⟨_, rfl, v, rfl, .inl ⟨n, hp.1, hp.2.1, fun _ H1 s1 => ?_, fun e => absurd hp.2.2.1 (by rw [e]; decide)⟩⟩
      exact ⟨_, rfl, _, rfl, _, rfl, _, rfl, v, vf, vi, n, L, fl, ins, rfl, hp.same s1, k.later s1⟩
    · exact ⟨_, rfl, v, rfl, .inl ⟨n, hd, hs, fun e => absurd hb (by rw [e]; decide), fun _ => k⟩⟩
    · exact ⟨_, rfl, v, rfl, .inr ⟨ds, hd, hl, k⟩⟩
/-! ### first_flops -/
def firstsW (n : Net) (L : Int) : List Int := n.firsts.map fun x => mask L * x
def spFirst (K : PySem.W.Frag) (C : Addr) : Sp := fun vs H Q E => ∃ (v : V) (n : Net) (L : Int), vs = [v, .int L] ∧ Dp K H v (netD n) ∧ SmallN n ∧ okNet n = true ∧ L ≤ 1000 ∧ (L < 1 → RaiseF C "lanes" H E) ∧
  (1 ≤ L → ∀ (p : Addr) (H' : Hp), Same H H' → H p = none → H' p = some (.lst ((firstsW n L).map V.int)) → Q (.ref p) H')
theorem ok_first {C : Addr} {f : Addr} {fd : FuncData} (F : Fun K "first_flops" "first_flops" s_first_flops f fd) (T : Txt K mg) (c_InvalidNet : Erm P w K mg base 1 "InvalidNet" C "what") (c_is_count : Cal P w K mg base 1 "is_count" spCnt []) (c_check_lanes : CalX P w K mg base 3 "check_lanes" (spLanes K C)) :
    FnOk P w K mg base (L2.CX P w) 4 f fd ["level", "lanes"] (spFirst K C) := by
  refine F.okX sc_first_flops (fun vs H Q E h => ?_) (fun cdv A outer s H vs Q E hr h => ?_)
  · obtain ⟨v, n, L, rfl, _⟩ := h
    rfl
  · obtain ⟨v, n, L, rfl, hd, hs, hok, hL, k1, k2⟩ := h
    refine ⟨_, (pss_cons (ps_if (PW.pt (pw_or (pt_not (pt_val (pe_callB call_isi (by rfl) T.b_isinstance boot_isinstance' (pa_cons (pv 0) (pa_cons (pe_bltn (v := .ty "tuple") (by rfl) T.b_tuple boot_tuple' rfl) pa_nil))))) (pw_or (pt_cmpR op_ne (pe_callB call_len_seq (by rfl) T.b_len boot_len' (pa_cons (pv 0) pa_nil)) pe_int (nomark _)) (pw_or1 (pt_not (pt_val (pe_callB call_isiT (by rfl) T.b_isinstance boot_isinstance' (pa_cons (pe_ix ix_tup (pv 0) pe_int (fun _ _ => rfl)) (pa_cons (pe_tup (pa_cons (pe_bltn (v := .ty "tuple") (by rfl) T.b_tuple boot_tuple' rfl) (pa_cons (pe_bltn (v := .ty "list") (by rfl) T.b_list boot_list' rfl) pa_nil))) pa_nil))))))))) (pss_one (ps_raise rfl (takes_of rfl rfl rfl rfl) (pmk_e c_InvalidNet hr (by omega) rfl (pa_cons pe_str pa_nil)))) pss_nil)
      (pss_cons (ps_if (pt_truth (pe_lc (own := [("first", 2)]) rfl sc_first_flops.nd (pi_tup (pe_ix ix_tup (pv 0) pe_int (fun _ _ => rfl))) (blkOk_by (own := [("first", 2)]) (N := ["level", "lanes", "first"]) (sc := defScope s_first_flops) (by decide +kernel)) (fun _ _ _ _ _ => (pg_name (i := 2) sc_first_flops.nd rfl (Or.inl rfl))) (fun _ _ _ _ _ => (pts_one (PW.pt (pw_or (pt_not (pt_val (pe_c c_is_count hr (by omega) rfl (pa_cons (pv 2) pa_nil)))) (pw_or1 (pt_cmpR op_gt (pv 2) pe_int (nomark _))))))) (fun _ _ _ _ _ => (pv 2))) (by intro _; rfl)) (pss_one (ps_raise rfl (takes_of rfl rfl rfl rfl) (pmk_e c_InvalidNet hr (by omega) rfl (pa_cons pe_str pa_nil)))) pss_nil)
      (pss_cons (ps_expr (pe_cx c_check_lanes hr (by omega) rfl (takes_of rfl rfl rfl rfl) (pa_cons (pv 1) (pa_cons (pe_lst pa_nil) (pa_cons pe_int (pa_cons pe_str pa_nil))))))
      (pss_one (ps_ret (pe_lc (own := [("first", 2)]) rfl sc_first_flops.nd (pi_tup (pe_ix ix_tup (pv 0) pe_int (fun _ _ => rfl))) (blkOk_by (own := [("first", 2)]) (N := ["level", "lanes", "first"]) (sc := defScope s_first_flops) (by decide +kernel)) (fun _ _ _ _ _ => (pg_name (i := 2) sc_first_flops.nd rfl (Or.inl rfl))) (fun _ _ _ _ _ => pts_nil) (fun _ _ _ _ _ => (pe_op op_mul (pe_op op_sub (pe_op op_shl pe_int (pv 1)) pe_int) (pv 2))))))))), ?_⟩
    obtain ⟨p0, hgs, hnl, hfi, hnx⟩ := okNet_parts hok
    obtain ⟨a, af, an, ag, ao, xg, rfl, hx, hF, hN, hG, hGs, hO⟩ := net_dp hd
    have hFd : Dp K H (.ref af) (.tuple (intsD n.firsts)) := .tup hF (dps_ints _)
    refine ⟨_, rfl, _, _, _, _, _, rfl, .ty _, dp_ty hd, kitD K _ _ (by decide), _, rfl, ?_⟩
    refine iteF ?_
    refine ⟨_, rfl, a, _, rfl, .inr hx, rfl, _, rfl, ?_⟩
    refine ifF (ne_int0 rfl) ?_
    refine ⟨_, rfl, a, _, 1, _, rfl, rfl, hx, atI_nat (j := 1) rfl, by decide, fun p1 m1 => ?_⟩
    refine ⟨_, _, _, _, _, _, rfl, upd_same, clsv2 _ _, dp_ty (dp_same (same_new m1) hFd), kitD2 K _ _ _ (by decide) (by decide), _, rfl, ?_⟩
    refine iteF ?_
    have s1 := same_new (o := HO.tup [V.ty "tuple", V.ty "list"]) m1
    refine ⟨_, rfl, a, _, 1, _, rfl, rfl, Same.tup s1 hx, atI_nat (j := 1) rfl, af, rfl, ⟨_, Same.tup s1 hF⟩, fun D hD => ?_⟩
    refine lc_dataT (K := K) (a := af) (xs := n.firsts.map V.int) (ds := intsD n.firsts) (fun _ => false) id (Same.tup s1 hF) (dps_ints _) hD (by rw [intsD, List.length_map]; exact Nat.le_trans hs.1 (by decide)) ?_ ?_
    · intro v d G acc R dm hv sG hG ha hno hyes
      obtain ⟨i, hi, rfl⟩ := List.mem_map.mp dm
      cases dp_int hv
      obtain ⟨i0, i1⟩ := hfi i hi
      refine ⟨rfl, _, rfl, i, rfl, _, rfl, ?_⟩
      refine ifF (by rw [decide_eq_true i0]; rfl) ?_
      refine ⟨_, rfl, _, _, rfl, rfl, _, rfl, ?_⟩
      refine ifF (decide_eq_false (by omega)) ?_
      exact hno rfl G (Same.refl _) hG
    · intro G ys sG hG hys
      have hy : ys = [] := by
        cases ys with
        | nil => rfl
        | cons _ _ =>
          rw [show ((intsD n.firsts).filter fun _ => false) = [] from List.filter_eq_nil_iff.mpr fun _ _ => by decide] at hys
          cases hys
      subst hy
      refine ⟨_, .inl ⟨[], SqL.of upd_same, rfl⟩, ?_⟩
      refine iteF ?_
      have s2 : Same H (upd G D (.lst [])) := (s1.trans sG).trans (same_new hG)
      generalize upd G D (.lst []) = H2 at s2
      refine ⟨_, rfl, Nat.zero_le _, fun p2 m2 => ?_⟩
      have s3 := same_new (o := HO.lst []) m2
      have s23 := s2.trans s3
      refine ⟨L, .ref p2, [], 0, "inputs", rfl, ⟨p2, rfl, .inl (SqL.of upd_same)⟩, Nat.zero_le _, fun q => RaiseF.later s23 (k1 q), fun q g => ?_, fun q1 g H4 s4 => ?_⟩
      · exact absurd g (by simp [goodNs])
      have k2 := k2 q1
      have s5 := s23.trans s4
      refine ⟨_, rfl, a, _, 1, _, rfl, rfl, Same.tup s5 hx, atI_nat (j := 1) rfl, af, rfl, ⟨_, Same.tup s5 hF⟩, fun D2 hD2 => ?_⟩
      refine lc_dataT (K := K) (a := af) (xs := n.firsts.map V.int) (ds := intsD n.firsts) (fun _ => true) (fun d => match d with | .int i => .int (mask L * i) | d => d) (Same.tup s5 hF) (dps_ints _) hD2 (by rw [intsD, List.length_map]; exact Nat.le_trans hs.1 (by decide)) ?_ ?_
      · intro v d G2 acc R dm hv sG2 hG2 ha _ hyes
        obtain ⟨i, hi, rfl⟩ := List.mem_map.mp dm
        cases dp_int hv
        obtain ⟨i0, i1⟩ := hfi i hi
        refine ⟨rfl, _, rfl, _, _, rfl, rfl, ⟨by omega, by omega, by decide⟩, _, _, rfl, rfl, _, rfl, _, _, rfl, rfl, .inr ⟨by omega, by omega⟩, acc, upd_same, ha, ?_⟩
        rw [upd_app, Int.one_mul]
        exact hyes rfl G2 _ (Same.refl _) hG2 (.int _)
      · intro G2 ys2 sG2 hG2 hys2
        have e : ((intsD n.firsts).filter (fun _ => true)).map (fun d => match d with | .int i => .int (mask L * i) | d => d) = (firstsW n L).map PyData.int := by
          rw [List.filter_eq_self.mpr fun _ _ => rfl]
          unfold intsD firstsW
          rw [List.map_map, List.map_map]
          rfl
        rw [e] at hys2
        cases dps_ints_of hys2
        exact k2 D2 _ ((s5.trans sG2).trans (same_new hG2)) (none_of_same s5 hD2) upd_same
/-! ### run_net -/
def runW (n : Net) (L : Int) : List Int → List (List Int) → List (List Int)
  | _, [] => []
  | fl, r :: rs => outsOf (valsW n L fl r) n.outs :: runW n L (outsOf (valsW n L fl r) n.nexts) rs
/-- the flip-flops behind some clocks -/
def flsW (n : Net) (L : Int) : List Int → List (List Int) → List Int
  | fl, [] => fl
  | fl, r :: rs => flsW n L (outsOf (valsW n L fl r) n.nexts) rs
/-- all rows fit -/
def goodR (n : Net) (L : Int) : List Int → List (List Int) → Prop
  | _, [] => True
  | fl, r :: rs => goodNs L n.inp r = true ∧ goodNs L n.firsts.length fl = true ∧ r.length ≤ 1000 ∧ fl.length ≤ 1000 ∧ goodR n L (outsOf (valsW n L fl r) n.nexts) rs
theorem runW_snoc (n : Net) (L : Int) (r : List Int) : ∀ (rs : List (List Int)) (fl : List Int), runW n L fl (rs ++ [r]) = runW n L fl rs ++ [outsOf (valsW n L (flsW n L fl rs) r) n.outs]
  | [], _ => rfl
  | x :: rs, fl => congrArg (_ :: ·) (runW_snoc n L r rs _)
theorem runW_len (n : Net) (L : Int) : ∀ (rs : List (List Int)) (fl : List Int), (runW n L fl rs).length = rs.length
  | [], _ => rfl
  | x :: rs, fl => congrArg (· + 1) (runW_len n L rs _)
theorem flsW_snoc (n : Net) (L : Int) (r : List Int) : ∀ (rs : List (List Int)) (fl : List Int), flsW n L fl (rs ++ [r]) = outsOf (valsW n L (flsW n L fl rs) r) n.nexts
  | [], _ => rfl
  | x :: rs, fl => flsW_snoc n L r rs _
theorem goodR_at {n : Net} {L : Int} : ∀ {rs : List (List Int)} {fl : List Int} {i : Nat} {r : List Int}, goodR n L fl rs → rs[i]? = some r → goodNs L n.inp r = true ∧ goodNs L n.firsts.length (flsW n L fl (rs.take i)) = true ∧ r.length ≤ 1000 ∧ (flsW n L fl (rs.take i)).length ≤ 1000
  | [], _, i, _, _, e => by simp at e
  | x :: rs, fl, 0, r, h, e => by
    simp at e
    subst e
    exact ⟨h.1, h.2.1, h.2.2.1, h.2.2.2.1⟩
  | x :: rs, fl, i + 1, r, h, e => goodR_at (rs := rs) (i := i) h.2.2.2.2 (by simpa using e)
def listD (l : List Int) : PyData := .list (intsD l)
theorem dp_listD {H : Hp} {a : Addr} {l : List Int} (h : H a = some (.lst (l.map V.int))) : Dp K H (.ref a) (listD l) := .lst (SqL.of h) (dps_ints _)
theorem nums_listD {H : Hp} {v : V} {l : List Int} (h : Dp K H v (listD l)) : Nums K H v l := by
  obtain ⟨a, xs, rfl, hx, hxs⟩ := dp_lst h
  cases dps_ints_of hxs
  exact ⟨a, rfl, .inl hx⟩
def spRun (K : PySem.W.Frag) (C : Addr) : Sp := fun vs H Q E => ∃ (v vi : V) (n : Net) (L : Int) (rs : List (List Int)), vs = [v, .int L, vi] ∧ Dp K H v (netD n) ∧ SmallN n ∧ okNet n = true ∧ L ≤ 1000 ∧ Dp K H vi (.list (rs.map listD)) ∧ rs.length ≤ 1000 ∧
  (L < 1 → RaiseF C "lanes" H E) ∧ (1 ≤ L → goodR n L (firstsW n L) rs) ∧ (1 ≤ L → ∀ (u : V) (H' : Hp), Same H H' → Dp K H' u (.list ((runW n L (firstsW n L) rs).map listD)) → Q u H')
theorem ok_run {C : Addr} {f : Addr} {fd : FuncData} (F : Fun K "run_net" "run_net" s_run_net f fd) (T : Txt K mg) (c_check_net : CalX P w K mg base 3 "check_net" (spCheck K C)) (c_first_flops : CalX P w K mg base 4 "first_flops" (spFirst K C)) (c_step_values : CalX P w K mg base 5 "step_values" (spStep K C)) :
    FnOk P w K mg base (L2.CX P w) 6 f fd ["net", "lanes", "inputs"] (spRun K C) := by
  refine F.okX sc_run_net (fun vs H Q E h => ?_) (fun cdv A outer s H vs Q E hr h => ?_)
  · obtain ⟨v, vi, n, L, rs, rfl, _⟩ := h
    rfl
  · obtain ⟨v, vi, n, L, rs, rfl, hd, hs, hok, hL, hi, hrl, k1, hg, k2⟩ := h
    refine ⟨_, (pss_cons (ps_expr (pe_cx c_check_net hr (by omega) rfl (takes_of rfl rfl rfl rfl) (pa_cons (pv 0) pa_nil)))
      (pss_cons (ps_set (i := 3) sc_run_net.nd rfl (Or.inl rfl) (pe_cx c_first_flops hr (by omega) rfl (takes_of rfl rfl rfl rfl) (pa_cons (pv 0) (pa_cons (pv 1) pa_nil))))
      (pss_cons (ps_set (i := 4) sc_run_net.nd rfl (Or.inl rfl) (pe_lst pa_nil))
      (pss_cons (ps_for (passes_of rfl) rfl (pi_list (pv 2)) (pg_name (i := 5) sc_run_net.nd rfl (Or.inl rfl)) (pss_cons (ps_asg (pe_cx c_step_values hr (by omega) rfl (takes_of rfl rfl rfl rfl) (pa_cons (pv 0) (pa_cons (pv 1) (pa_cons (pv 3) (pa_cons (pv 5) pa_nil))))) (pg_tup rfl (pgs_cons (pg_name (i := 6) sc_run_net.nd rfl (Or.inl rfl)) (pgs_cons (pg_name (i := 3) sc_run_net.nd rfl (Or.inl rfl)) pgs_nil))))
      (pss_one (ps_expr (pe_bm PySem.F.plainAttrs_list PySem.F.slot_list_append PySem.F.type_list_append mt_append (pv 4) (pa_cons (pv 6) pa_nil))))))
      (pss_one (ps_ret (pv 4))))))), ?_⟩
    refine ⟨_, rfl, v, rfl, .inl ⟨n, hd, hs, fun _ H1 s1 => ?_, fun e => absurd hok (by rw [e]; decide)⟩⟩
    refine ⟨_, rfl, _, rfl, v, n, L, rfl, dp_same s1 hd, hs, hok, hL, fun q => RaiseF.later s1 (k1 q), fun q1 p H2 s2 _ h2 => ?_⟩
    have hg := hg q1
    have k2 := k2 q1
    have s12 := s1.trans s2
    refine ⟨Nat.zero_le _, fun p3 m3 => ?_⟩
    have n3 : H p3 = none := none_of_same s12 m3
    have s3 := s12.trans (same_new (o := HO.lst []) m3)
    have hp3 : p ≠ p3 := ne_of_none h2 m3
    obtain ⟨ai, xi, rfl, hxi, hxs⟩ := dp_lst hi
    have hxl : xi.length = rs.length := by rw [dps_len hxs, List.length_map]
    refine ⟨_, rfl, ai, rfl, ⟨_, s3.seq hxi⟩, for_list (K := K) (a := ai) (xs := xi) (fun i σ H' => ∃ (fa : Addr) (G : Hp) (ys : List V) (o5 o6 : Option V), Same H G ∧ G p3 = none ∧ H' = upd G p3 (.lst ys) ∧
      σ = [some v, some (.int L), some (.ref ai), some (.ref fa), some (.ref p3), o5, o6] ∧ G fa = some (.lst ((flsW n L (firstsW n L) (rs.take i)).map V.int)) ∧ DpAll K G ys ((runW n L (firstsW n L) (rs.take i)).map listD))
      ⟨p, H2, [], none, none, s12, m3, rfl, rfl, h2, .nil⟩ ?_ ?_ ?_⟩
    · rintro i σ H' _ ⟨fa, G, ys, o5, o6, sG, hG, rfl, _⟩
      exact (same_new hG).seq (sG.seq hxi)
    · rintro i x σ H' hix ⟨fa, G, ys, o5, o6, sG, hG, rfl, rfl, hfa, hys⟩
      obtain ⟨d, hdi, dx⟩ := dps_getv hxs hix
      rw [List.getElem?_map] at hdi
      obtain ⟨r, hri, rfl⟩ := Option.map_eq_some_iff.mp hdi
      obtain ⟨g1, g2, g3, g4⟩ := goodR_at hg hri
      have sG1 : Same G (upd G p3 (.lst ys)) := same_new hG
      have sH1 := sG.trans sG1
      refine ⟨_, rfl, _, rfl, _, rfl, _, rfl, v, .ref fa, x, n, L, _, r, rfl, ⟨dp_same sH1 hd, hs, hok, hL, ⟨fa, rfl, .inl (SqL.of (sG1 _ _ hfa))⟩, nums_listD (dp_same sH1 dx), g4, g3⟩, fun q => absurd q1 (by omega), fun _ e => absurd g1 (by rw [e]; decide), fun _ _ e => absurd g2 (by rw [e]; decide), fun _ _ _ t l1 l2 H3 s4 n1 n2 ht h1 h2 => ?_⟩
      have h3 : H3 p3 = some (.lst ys) := s4 _ _ upd_same
      obtain ⟨np1, _⟩ := upd_none n1
      obtain ⟨np2, _⟩ := upd_none n2
      refine ⟨t, _, rfl, SqT.of ht, rfl, _, _, rfl, _, _, rfl, rfl, ?_⟩
      refine ⟨_, rfl, .inl ⟨rfl, _, SqL.of h3⟩, _, rfl, _, _, _, rfl, rfl, h3, size_lt (by rw [dps_len hys, List.length_map, runW_len, List.length_take]; omega), ?_⟩
      have tk := take_snoc hri
      refine ⟨l2, del1 H3 p3, ys ++ [.ref l1], _, _, sG.trans (same_del hG s4), del1_at _ _, ?_, rfl, ?_, ?_⟩
      · rw [split_at h3, upd_upd]
        congr 1
        rw [← split_at h3]
      · rw [del1_ne np2, h2, tk, flsW_snoc]
      · rw [tk, runW_snoc, List.map_append]
        exact dps_snoc (dps_same (same_del hG s4) hys) (dp_listD (by rw [del1_ne np1]; exact h1))
    · rintro σ H' ⟨fa, G, ys, o5, o6, sG, hG, rfl, rfl, hfa, hys⟩
      rw [hxl, List.take_length] at hys
      have sG1 : Same G (upd G p3 (.lst ys)) := same_new hG
      exact ⟨_, rfl, k2 _ _ (sG.trans sG1) (.lst (SqL.of upd_same) (dps_same sG1 hys))⟩
end
end Q03



set_option pp.maxSteps 1500
namespace Q03
open PySem L2 G M03
open C8 (Cal Met Mak pe_c pe_mk pe_mt pe_mt0 pe_gc pss_cut tCut)
/-! ### all but lists stands -/
def KeepT (H H' : Hp) : Prop := ∀ b u, H b = some u → (∀ xs, u ≠ .lst xs) → H' b = some u
theorem KeepT.of_same {H H' : Hp} (s : Same H H') : KeepT H H' := fun b u e _ => s b u e
theorem KeepT.of_but {H H' : Hp} {a : Addr} (hk : Deck H a) (s : But a H H') : KeepT H H' := fun b u e n => s b u (fun q => by
  obtain ⟨ds, _, h⟩ := hk
  rw [q, h] at e
  exact n _ (Option.some.inj e).symm) e
theorem KeepT.trans {H H1 H2 : Hp} (s : KeepT H H1) (t : KeepT H1 H2) : KeepT H H2 := fun b u e n => t b u (s b u e n) n
theorem KeepT.upd {H H' : Hp} {a : Addr} {xs ys : List V} (s : KeepT H H') (h : H' a = some (.lst xs)) : KeepT H (upd H' a (.lst ys)) := fun b u e n => by
  have q := s b u e n
  have ne : b ≠ a := fun z => by
    rw [z, h] at q
    exact n _ (Option.some.inj q).symm
  rw [upd_ne ne]
  exact q
theorem SqT.keep {K : PySem.W.Frag} {H H' : Hp} {a : Addr} {xs : List V} (s : KeepT H H') (h : SqT K H a xs) : SqT K H' a xs := by
  rcases h with (h | ⟨o, h⟩) | h
  · exact .inl (.inl (s _ _ h (fun _ z => by cases z)))
  · exact .inl (.inr ⟨o, s _ _ h (fun _ z => by cases z)⟩)
  · exact .inr h
mutual
def noL : PyData → Bool
  | .list _ => false
  | .tuple ds => noLs ds
  | _ => true
def noLs : List PyData → Bool
  | [] => true
  | d :: r => noL d && noLs r
end
mutual
theorem dp_keep {K : PySem.W.Frag} {H H' : Hp} (e : KeepT H H') : ∀ {v : V} {d : PyData}, noL d = true → Dp K H v d → Dp K H' v d
  | _, _, _, .non => .non
  | _, _, _, .bl b => .bl b
  | _, _, _, .int i => .int i
  | _, _, _, .str x => .str x
  | _, _, n, .lst _ _ => by simp [noL] at n
  | _, _, n, .tup h a => .tup (SqT.keep e h) (dps_keep e (by simpa [noL] using n) a)
theorem dps_keep {K : PySem.W.Frag} {H H' : Hp} (e : KeepT H H') : ∀ {v : List V} {d : List PyData}, noLs d = true → DpAll K H v d → DpAll K H' v d
  | _, _, _, .nil => .nil
  | _, _, n, .cons h t => .cons (dp_keep e (by simp only [noLs, Bool.and_eq_true] at n; exact n.1) h) (dps_keep e (by simp only [noLs, Bool.and_eq_true] at n; exact n.2) t)
end
theorem noLs_all {ds : List PyData} (h : ∀ d ∈ ds, noL d = true) : noLs ds = true := by
  induction ds with
  | nil => rfl
  | cons d r ih =>
    unfold noLs
    rw [h d List.mem_cons_self, ih fun x hx => h x (List.mem_cons_of_mem _ hx)]
    rfl
theorem noL_ints (l : List Int) : noL (.tuple (intsD l)) = true := by
  unfold noL
  exact noLs_all fun d hd => by
    obtain ⟨i, _, rfl⟩ := List.mem_map.mp hd
    rfl
theorem noL_gate (g : Gate) : noL (gateD g) = true := by
  unfold gateD noL
  exact noLs_all fun d hd => by
    rcases List.mem_cons.mp hd with rfl | hd
    · rfl
    · obtain ⟨i, _, rfl⟩ := List.mem_map.mp hd
      rfl
theorem noL_gates (gs : List Gate) : noL (.tuple (gs.map gateD)) = true := by
  unfold noL
  exact noLs_all fun d hd => by
    obtain ⟨g, _, rfl⟩ := List.mem_map.mp hd
    exact noL_gate g
theorem noL_net (n : Net) : noL (netD n) = true := by
  unfold netD noL noLs noLs noLs noLs noLs noLs
  rw [noL_ints, noL_ints, noL_ints, noL_gates]
  rfl
/-! ### draws in a comprehension -/
def DrawP (dk D : Addr) (H1 : Hp) (m : Int) (i : Nat) (H : Hp) : Prop := ∃ rs : List Int, rs.length = i ∧ (∀ r ∈ rs, 0 ≤ r ∧ r < m) ∧ But dk H1 H ∧ H D = some (.lst (rs.map V.int)) ∧ Deck H dk
theorem Deck.ne {H : Hp} {a D : Addr} (h : Deck H a) (hD : H D = none) : D ≠ a := fun e => by
  obtain ⟨ds, _, q⟩ := h
  rw [← e, hD] at q
  cases q
theorem draw0 {dk D : Addr} {H1 : Hp} {m : Int} (hD : H1 D = none) (hk : Deck H1 dk) : DrawP dk D H1 m 0 (upd H1 D (.lst [])) :=
  ⟨[], rfl, (fun _ h => by cases h), But.of (same_new hD), upd_same, hk.same (same_new hD)⟩
theorem draw_next {dk D : Addr} {H1 H : Hp} {m : Int} {i : Nat} {E : XK} (hD : H1 D = none) (hk : Deck H1 dk) (hm : 0 < m) (hi : i < 100000) (p : DrawP dk D H1 m i H) :
    spTake [.ref dk, .int m] H (fun y H4 => ∃ acc, H4 D = some (.lst acc) ∧ acc.length < sizeLine ∧ DrawP dk D H1 m (i + 1) (upd H4 D (.lst (acc ++ [y])))) E := by
  obtain ⟨rs, hl, hr, b, hd, k⟩ := p
  have ne := Deck.ne hk hD
  refine ⟨dk, m, rfl, hm, k, fun r H' r0 r1 b2 k2 => ⟨rs.map V.int, b2 _ _ ne hd, size_lt (by rw [List.length_map]; omega), rs ++ [r], by rw [List.length_append, hl]; rfl, fun x hx => ?_, ?_, by rw [upd_same, List.map_append]; rfl, ?_⟩⟩
  · rcases List.mem_append.mp hx with hx | hx
    · exact hr x hx
    · rw [List.mem_singleton.mp hx]
      exact ⟨r0, r1⟩
  · intro c o nc e
    have q := b2 c o nc (b c o nc e)
    rw [upd_ne (fun z => by rw [z, hD] at e; cases e)]
    exact q
  · obtain ⟨ds, h1, h2⟩ := k2
    exact ⟨ds, h1, by rw [upd_ne (Ne.symm ne)]; exact h2⟩
theorem but_mut {dk p : Addr} {H H' : Hp} {o : HO} (b : But dk H H') (n : H p = none) : But dk H (upd H' p o) := fun c u nc e => by
  rw [upd_ne (fun z => by rw [z, n] at e; cases e)]
  exact b c u nc e
theorem none_of_but {dk p : Addr} {H H' : Hp} (hk : Deck H' dk) (b : But dk H H') (n : H' p = none) : H p = none := by
  have ne := Deck.ne hk n
  cases e : H p with
  | none => rfl
  | some o =>
    rw [b _ _ ne e] at n
    cases n
def dkv : List (Key × V) := mergeK [] [(.inr "not", .int 1), (.inr "mux", .int 3)]
theorem word_drawn {r : Int} (r0 : 0 ≤ r) (r1 : r < 5) : ∃ (wd : Str) (sz : Nat), atI [V.str "and", V.str "or", V.str "xor", V.str "not", V.str "mux"] r = some (.str wd) ∧ (wd, sz + 1) ∈ sizes ∧ PyData.strOk wd = true ∧ sz ≤ 3 ∧ (valV dkv (.inr wd)).getD (.int 2) = .int (sz : Int) := by
  have h : r = 0 ∨ r = 1 ∨ r = 2 ∨ r = 3 ∨ r = 4 := by omega
  rcases h with rfl | rfl | rfl | rfl | rfl
  · exact ⟨"and", 2, rfl, by decide +kernel, by decide +kernel, by decide, by rfl⟩
  · exact ⟨"or", 2, rfl, by decide +kernel, by decide +kernel, by decide, by rfl⟩
  · exact ⟨"xor", 2, rfl, by decide +kernel, by decide +kernel, by decide, by rfl⟩
  · exact ⟨"not", 1, rfl, by decide +kernel, by decide +kernel, by decide, by rfl⟩
  · exact ⟨"mux", 3, rfl, by decide +kernel, by decide +kernel, by decide, by rfl⟩
theorem okG_drawn {m : Int} {wd : Str} {sz : Nat} {rs : List Int} (h : (wd, sz + 1) ∈ sizes) (hl : rs.length = sz) (hr : ∀ r ∈ rs, 0 ≤ r ∧ r < m) : okG m (wd, rs) = true := by
  unfold okG
  rw [show (wd, rs).2.length = sz from hl, decide_eq_true h, Bool.true_and, List.all_eq_true]
  intro x hx
  unfold inR
  rw [decide_eq_true (hr x hx).1, decide_eq_true (hr x hx).2]
  rfl
section
variable {P : Program} {w : World} {K : PySem.W.Frag} {mg : Str → Option Value} {base : Heap}
/-! ### _law_net -/
def spNet (K : PySem.W.Frag) : Sp := fun vs H Q _ => ∃ (dk : Addr) (many : Nat), vs = [.ref dk, .int many] ∧ many ≤ 100 ∧ Deck H dk ∧ ∀ (v : V) (n : Net) (H' : Hp), But dk H H' → Deck H' dk → Dp K H' v (netD n) → SmallN n → okNet n = true → n.inp ≤ 4 → n.firsts.length ≤ 3 → n.gates.length ≤ 100 → n.outs.length ≤ 5 → Q v H'
theorem ok_net {f : Addr} {fd : FuncData} (F : Fun K "_law_net" "_law_net" s__law_net f fd) (T : Txt K mg) (c__law_take : Cal P w K mg base 1 "_law_take" spTake []) : FnOk P w K mg base CX0 2 f fd ["deck", "many"] (spNet K) := by
  refine F.ok sc__law_net (fun vs H Q E h => ?_) (fun cdv A outer s H vs Q E hr h => ?_)
  · obtain ⟨dk, many, rfl, _⟩ := h
    rfl
  · obtain ⟨dk, many, rfl, hm, hk, k⟩ := h
    have hu := hu_of hr
    refine ⟨_, (pss_cons (ps_set (i := 2) sc__law_net.nd rfl (Or.inl rfl) (pe_c c__law_take hr (by omega) rfl (pa_cons (pv 0) (pa_cons pe_int pa_nil))))
      (pss_cons (ps_set (i := 3) sc__law_net.nd rfl (Or.inl rfl) (pe_callTy call_tuple_of (by rfl) T.b_tuple boot_tuple' (pa_cons (pe_lc (own := [("at", 6)]) rfl sc__law_net.nd (pi_range1 (by rfl) T.b_range (pa_cons (pe_c c__law_take hr (by omega) rfl (pa_cons (pv 0) (pa_cons pe_int pa_nil))) pa_nil)) (blkOk_by (own := [("at", 6)]) (N := ["deck", "many", "inputs", "firsts", "wires", "gates", "at", "word", "sides", "nexts", "outputs", "first", "side"]) (sc := defScope s__law_net) (by decide +kernel)) (fun _ _ _ _ _ => (pg_name (i := 6) sc__law_net.nd rfl (Or.inl rfl))) (fun _ _ _ _ _ => pts_nil) (fun _ _ _ _ _ => (pe_c c__law_take hr (by omega) rfl (pa_cons (pv 0) (pa_cons pe_int pa_nil))))) pa_nil)))
      (pss_cons (ps_set (i := 4) sc__law_net.nd rfl (Or.inr rfl) (pe_op op_add (pe_op op_add pe_int (pv 2)) (pe_callB call_len_seq (by rfl) T.b_len boot_len' (pa_cons (pv 3) pa_nil))))
      (pss_cons (ps_set (i := 5) sc__law_net.nd rfl (Or.inl rfl) (pe_lst pa_nil))
      (pss_cons (ps_for PassesOwn.never rfl (pi_range1 (by rfl) T.b_range (pa_cons (pe_c c__law_take hr (by omega) rfl (pa_cons (pv 0) (pa_cons (pe_op op_add (pv 1) pe_int) pa_nil))) pa_nil)) (pg_name (i := 6) sc__law_net.nd rfl (Or.inl rfl)) (pss_cons (ps_set (i := 7) sc__law_net.nd rfl (Or.inl rfl) (pe_ix ix_list (pe_lst (pa_cons pe_str (pa_cons pe_str (pa_cons pe_str (pa_cons pe_str (pa_cons pe_str pa_nil)))))) (pe_c c__law_take hr (by omega) rfl (pa_cons (pv 0) (pa_cons pe_int pa_nil))) (fun _ _ => rfl)))
      (pss_cons (ps_set (i := 8) sc__law_net.nd rfl (Or.inl rfl) (pe_dget2 hu (pe_disp (pps_cons pe_str pe_int (pps_cons pe_str pe_int pps_nil)) (by rfl) (by rfl) (fun z => by cases z) (by decide)) (pv 7) pe_int ⟨rfl, rfl, rfl, rfl⟩))
      (pss_cons (ps_expr (pe_bm PySem.F.plainAttrs_list PySem.F.slot_list_append PySem.F.type_list_append mt_append (pv 5) (pa_cons (pe_op op_catA (pe_tup (pa_cons (pv 7) pa_nil)) (pe_callTy call_tuple_of (by rfl) T.b_tuple boot_tuple' (pa_cons (pe_lc (own := [("side", 12)]) rfl sc__law_net.nd (pi_range1 (by rfl) T.b_range (pa_cons (pv 8) pa_nil)) (blkOk_by (own := [("side", 12)]) (N := ["deck", "many", "inputs", "firsts", "wires", "gates", "at", "word", "sides", "nexts", "outputs", "first", "side"]) (sc := defScope s__law_net) (by decide +kernel)) (fun _ _ _ _ _ => (pg_name (i := 12) sc__law_net.nd rfl (Or.inl rfl))) (fun _ _ _ _ _ => pts_nil) (fun _ _ _ _ _ => (pe_c c__law_take hr (by omega) rfl (pa_cons (pv 0) (pa_cons (pv 4) pa_nil))))) pa_nil))) pa_nil)))
      (pss_one (ps_set (i := 4) sc__law_net.nd rfl (Or.inr rfl) (pe_op op_add (pv 4) pe_int)))))))
      (pss_cons (ps_set (i := 9) sc__law_net.nd rfl (Or.inl rfl) (pe_callTy call_tuple_of (by rfl) T.b_tuple boot_tuple' (pa_cons (pe_lc (own := [("first", 11)]) rfl sc__law_net.nd (pi_tup (pv 3)) (blkOk_by (own := [("first", 11)]) (N := ["deck", "many", "inputs", "firsts", "wires", "gates", "at", "word", "sides", "nexts", "outputs", "first", "side"]) (sc := defScope s__law_net) (by decide +kernel)) (fun _ _ _ _ _ => (pg_name (i := 11) sc__law_net.nd rfl (Or.inl rfl))) (fun _ _ _ _ _ => pts_nil) (fun _ _ _ _ _ => (pe_c c__law_take hr (by omega) rfl (pa_cons (pv 0) (pa_cons (pv 4) pa_nil))))) pa_nil)))
      (pss_cons (ps_set (i := 10) sc__law_net.nd rfl (Or.inl rfl) (pe_callTy call_tuple_of (by rfl) T.b_tuple boot_tuple' (pa_cons (pe_lc (own := [("at", 6)]) rfl sc__law_net.nd (pi_range1 (by rfl) T.b_range (pa_cons (pe_c c__law_take hr (by omega) rfl (pa_cons (pv 0) (pa_cons pe_int pa_nil))) pa_nil)) (blkOk_by (own := [("at", 6)]) (N := ["deck", "many", "inputs", "firsts", "wires", "gates", "at", "word", "sides", "nexts", "outputs", "first", "side"]) (sc := defScope s__law_net) (by decide +kernel)) (fun _ _ _ _ _ => (pg_name (i := 6) sc__law_net.nd rfl (Or.inl rfl))) (fun _ _ _ _ _ => pts_nil) (fun _ _ _ _ _ => (pe_c c__law_take hr (by omega) rfl (pa_cons (pv 0) (pa_cons (pv 4) pa_nil))))) pa_nil)))
      (pss_one (ps_ret (pe_tup (pa_cons (pv 2) (pa_cons (pv 3) (pa_cons (pv 9) (pa_cons (pe_callTy call_tuple_of (by rfl) T.b_tuple boot_tuple' (pa_cons (pv 5) pa_nil)) (pa_cons (pv 10) pa_nil))))))))))))))), ?_⟩
    refine ⟨_, rfl, dk, 5, rfl, by decide, hk, fun inp H1 i0 i1 b1 k1 => ?_⟩
    refine ⟨_, rfl, dk, 4, rfl, by decide, k1, fun nf H2 f0 f1 b2 k2 => ?_⟩
    refine ⟨nf, rfl, by omega, by omega, fun D hD => ?_⟩
    refine lc_range (lo := 0) (n := nf.toNat) (DrawP dk D H2 2) (draw0 hD k2) (fun i G hi p => ⟨rfl, _, rfl, draw_next (E := C8.E0) hD k2 (by decide) (by omega) p⟩) ?_
    rintro G ⟨fs, hfl, hfr, bG, hGD, kG⟩
    refine ⟨D, _, rfl, .inl ⟨SqL.of hGD, fun af naf => ?_⟩⟩
    have s3 := same_new (o := HO.tup (fs.map V.int)) naf
    have bH3 : But dk H (upd G af (.tup (fs.map V.int))) := ((b1.trans b2).trans bG).trans (But.of s3)
    have k3 := kG.same s3
    have hf3 : upd G af (.tup (fs.map V.int)) af = some (.tup (fs.map V.int)) := upd_same
    generalize upd G af (.tup (fs.map V.int)) = H3 at bH3 k3 hf3
    refine ⟨_, rfl, _, _, rfl, rfl, _, rfl, af, _, rfl, .inr (SqT.of hf3), _, _, rfl, rfl, ?_⟩
    rw [List.length_map]
    have hW : 1 + inp + ((fs.length : Nat) : Int) = w0 ⟨inp, fs, [], [], []⟩ := rfl
    generalize hWg : 1 + inp + ((fs.length : Nat) : Int) = W at hW
    refine ⟨Nat.zero_le _, fun pg mg => ?_⟩
    have ng0 : H pg = none := none_of_but k3 bH3 mg
    have t4 := same_new (o := HO.lst []) mg
    refine ⟨_, rfl, _, rfl, _, _, rfl, rfl, dk, _, rfl, by omega, k3.same t4, fun ng H5 g0 g1 b5 k5 => ?_⟩
    have bH5 := (bH3.trans (But.of t4)).trans b5
    have hf5 : H5 af = some (.tup (fs.map V.int)) := KeepT.of_but (k3.same t4) b5 _ _ (t4 _ _ hf3) (fun _ z => by cases z)
    have hp5 : H5 pg = some (.lst []) := b5 _ _ (Deck.ne k3 mg) upd_same
    refine ⟨ng, rfl, by omega, by omega, for_range (lo := 0) (n := ng.toNat) (fun i σ H' => ∃ (gs : List Gate) (xs : List V) (o6 o7 o8 : Option V),
      σ = [some (.ref dk), some (.int many), some (.int inp), some (.ref af), some (.int (W + i)), some (.ref pg), o6, o7, o8, none, none, none, none] ∧ gs.length = i ∧ But dk H H' ∧ Deck H' dk ∧ H' af = some (.tup (fs.map V.int)) ∧
      H' pg = some (.lst xs) ∧ DpAll K H' xs (gs.map gateD) ∧ okGs W gs = true ∧ ∀ g ∈ gs, g.2.length ≤ 1000 ∧ PyData.strOk g.1 = true)
      ⟨[], [], none, none, none, ?_, rfl, bH5, k5, hf5, hp5, .nil, rfl, fun _ h => by cases h⟩ ?_ ?_⟩
    · rw [← hWg, show 1 + inp + ((fs.length : Nat) : Int) + ((0 : Nat) : Int) = 1 + inp + ((fs.length : Nat) : Int) by omega]
      rfl
    · rintro i σ H' hi ⟨gs, xs, o6, o7, o8, rfl, hgl, bi, ki, hfi, hpi, hxi, oki, smi⟩
      refine ⟨(show 5 ≤ sizeLine by decide), fun q nq => ?_⟩
      have u1 := same_new (o := HO.lst [V.str "and", V.str "or", V.str "xor", V.str "not", V.str "mux"]) nq
      refine ⟨_, rfl, dk, 5, rfl, by decide, ki.same u1, fun r H6 r0 r1 b6 k6 => ?_⟩
      obtain ⟨wd, sz, e1, e2, e3, e4, e5⟩ := word_drawn r0 r1
      have hq6 := b6 q _ (Deck.ne ki nq) upd_same
      refine ⟨q, _, r, _, rfl, rfl, SqL.of hq6, e1, ?_⟩
      have K6 : KeepT H' H6 := (KeepT.of_same u1).trans (KeepT.of_but (ki.same u1) b6)
      have hp6 : H6 pg = some (.lst xs) := b6 _ _ (Deck.ne hk ng0) (u1 _ _ hpi)
      have b6' : But dk H H6 := (bi.trans (But.of u1)).trans b6
      -- sides
      refine fun pd nd => ⟨upd_same, [(.inr "not", .int 1), (.inr "mux", .int 3)], rfl, by decide, ?_⟩
      rw [upd_upd]
      refine ⟨pd, rfl, .inl ⟨_, .inl upd_same⟩, _, rfl, _, .inl ⟨_, .inr wd, .inl upd_same, rfl, rfl⟩, ?_⟩
      have u2 := same_new (o := HO.dK dkv) nd
      change gName 8 ((valV dkv (.inr wd)).getD (.int 2)) _ (upd H6 pd (.dK dkv)) _
      rw [e5]
      have k7 := k6.same u2
      have K7 := K6.trans (KeepT.of_same u2)
      have hp7 := u2 _ _ hp6
      have b7 : But dk H (upd H6 pd (.dK dkv)) := b6'.trans (But.of u2)
      generalize upd H6 pd (.dK dkv) = H7 at k7 K7 hp7 b7
      -- gates.append
      refine ⟨_, rfl, .inl ⟨rfl, _, SqL.of hp7⟩, _, rfl, (show 1 ≤ sizeLine by decide), fun pt nt => ?_⟩
      have u3 := same_new (o := HO.tup [V.str wd]) nt
      have k8 := k7.same u3
      refine ⟨_, rfl, sz, rfl, by omega, by omega, fun D2 hD2 => ?_⟩
      have wpos : 0 < W + (i : Int) := by rw [← hWg]; omega
      refine lc_range (lo := 0) (n := (sz : Int).toNat) (DrawP dk D2 (upd H7 pt (.tup [V.str wd])) (W + i)) (draw0 hD2 k8) (fun j G hj p => ⟨rfl, _, rfl, _, rfl, draw_next (E := C8.E0) hD2 k8 wpos (by omega) p⟩) ?_
      rintro G ⟨rs, hrl, hrr, bG2, hGD2, kG2⟩
      have hpt : G pt = some (.tup [V.str wd]) := bG2 _ _ (Deck.ne k7 nt) upd_same
      have hpG : G pg = some (.lst xs) := bG2 _ _ (Deck.ne hk ng0) (u3 _ _ hp7)
      have KG : KeepT H' G := (K7.trans (KeepT.of_same u3)).trans (KeepT.of_but k8 bG2)
      have bG : But dk H G := (b7.trans (But.of u3)).trans bG2
      refine ⟨D2, _, rfl, .inl ⟨SqL.of hGD2, fun ta nta => ?_⟩⟩
      have u4 := same_new (o := HO.tup (rs.map V.int)) nta
      have hrl2 : rs.length = sz := by rw [hrl]; exact Int.toNat_natCast sz
      refine catA_new ⟨pt, rfl, u4 _ _ hpt⟩ ⟨ta, rfl, upd_same⟩ (size_of (by rw [List.length_map, hrl2]; simp only [List.length_singleton]; omega)) fun z H9 s9 hz => ?_
      have s49 := u4.trans s9
      have hp9 : H9 pg = some (.lst xs) := s49 _ _ hpG
      refine ⟨_, _, _, rfl, rfl, hp9, size_lt (by rw [dps_len hxi, List.length_map, hgl]; omega), ?_⟩
      have hgate : okG (W + ((gs.length : Nat) : Int)) (wd, rs) = true := okG_drawn e2 hrl2 (by rw [hgl]; exact hrr)
      have K9 : KeepT H' (upd H9 pg (.lst (xs ++ [z]))) := (KG.trans (KeepT.of_same s49)).upd hp9
      obtain ⟨zt, rfl, hzt⟩ := hz
      have K99 : KeepT H9 (upd H9 pg (.lst (xs ++ [.ref zt]))) := KeepT.upd (KeepT.of_same (Same.refl _)) hp9
      refine ⟨_, rfl, _, _, rfl, rfl, gs ++ [(wd, rs)], xs ++ [.ref zt], some (.int (0 + (i : Int))), some (.str wd), some (.int (sz : Int)), ?_, by rw [List.length_append, hgl]; rfl, but_mut (bG.trans (But.of s49)) ng0, ?_, K9 _ _ hfi (fun _ z => by cases z), upd_same, ?_, by rw [okGs_snoc, oki, hgate]; rfl, ?_⟩
      · rw [show W + ((i + 1 : Nat) : Int) = W + (i : Int) + 1 by omega]
        rfl
      · obtain ⟨ds, d1, d2⟩ := kG2.same s49
        exact ⟨ds, d1, by rw [upd_ne (Ne.symm (Deck.ne hk ng0))]; exact d2⟩
      · rw [List.map_append]
        refine dps_snoc (dps_keep K9 (noLs_all fun d hd => ?_) hxi) ?_
        · obtain ⟨g, _, rfl⟩ := List.mem_map.mp hd
          exact noL_gate g
        · exact .tup (SqT.of (K99 _ _ hzt (fun _ z => by cases z))) (.cons (.str _) (dps_ints rs))
      · intro g hg
        rcases List.mem_append.mp hg with hg | hg
        · exact smi g hg
        · rw [List.mem_singleton.mp hg]
          exact ⟨by rw [show (wd, rs).2.length = sz from hrl2]; omega, e3⟩
    · rintro σ H' ⟨gs, xs, o6, o7, o8, rfl, hgl, bi, ki, hfi, hpi, hxi, oki, smi⟩
      have wpos : 0 < W + ((ng.toNat : Nat) : Int) := by rw [← hWg]; omega
      have naf : af ≠ dk := fun z => by
        obtain ⟨ds, _, hh⟩ := ki
        rw [← z, hfi] at hh
        cases hh
      refine ⟨_, rfl, af, rfl, ⟨_, SqT.of hfi⟩, fun D3 hD3 => ?_⟩
      refine lc_tup (K := K) (a := af) (xs := fs.map V.int) (DrawP dk D3 H' (W + ((ng.toNat : Nat) : Int))) (draw0 hD3 ki) (fun j G _ p => ?_) (fun j x G hj p => ⟨rfl, _, rfl, _, rfl, draw_next (E := C8.E0) hD3 ki wpos (by
        have := (List.getElem?_eq_some_iff.mp hj).1
        rw [List.length_map] at this
        omega) p⟩) ?_
      · obtain ⟨_, _, _, b, _, _⟩ := p
        exact SqT.of (b _ _ naf hfi)
      rintro G ⟨ns, hnl, hnr, bG, hGD, kG⟩
      rw [List.length_map] at hnl
      refine ⟨D3, _, rfl, .inl ⟨SqL.of hGD, fun an nan => ?_⟩⟩
      have v1 := same_new (o := HO.tup (ns.map V.int)) nan
      have KA : KeepT H' (upd G an (.tup (ns.map V.int))) := (KeepT.of_but ki bG).trans (KeepT.of_same v1)
      have bA : But dk H (upd G an (.tup (ns.map V.int))) := (bi.trans bG).trans (But.of v1)
      have kA := kG.same v1
      have hpA : upd G an (.tup (ns.map V.int)) pg = some (.lst xs) := v1 _ _ (bG _ _ (Deck.ne hk ng0) hpi)
      have haA : upd G an (.tup (ns.map V.int)) an = some (.tup (ns.map V.int)) := upd_same
      generalize upd G an (.tup (ns.map V.int)) = HA at KA bA kA hpA haA
      refine ⟨_, rfl, dk, 5, rfl, by decide, kA, fun no HB o0 o1 bB kB => ?_⟩
      refine ⟨no, rfl, by omega, by omega, fun D4 hD4 => ?_⟩
      refine lc_range (lo := 0) (n := no.toNat) (DrawP dk D4 HB (W + ((ng.toNat : Nat) : Int))) (draw0 hD4 kB) (fun j G hj p => ⟨rfl, _, rfl, _, rfl, draw_next (E := C8.E0) hD4 kB wpos (by omega) p⟩) ?_
      rintro G2 ⟨os, hol, hor, bG2, hGD2, kG2⟩
      refine ⟨D4, _, rfl, .inl ⟨SqL.of hGD2, fun ao nao => ?_⟩⟩
      have v2 := same_new (o := HO.tup (os.map V.int)) nao
      have bAC : But dk HA (upd G2 ao (.tup (os.map V.int))) := (bB.trans bG2).trans (But.of v2)
      have kC := kG2.same v2
      have hpC := bAC _ _ (Deck.ne hk ng0) hpA
      have KC : KeepT HA (upd G2 ao (.tup (os.map V.int))) := KeepT.of_but kA bAC
      have hoC : upd G2 ao (.tup (os.map V.int)) ao = some (.tup (os.map V.int)) := upd_same
      generalize upd G2 ao (.tup (os.map V.int)) = HC at bAC kC hpC KC hoC
      refine ⟨_, rfl, _, rfl, _, rfl, _, rfl, pg, _, rfl, .inl ⟨SqL.of hpC, fun ag nag => ⟨_, rfl, (show 5 ≤ sizeLine by decide), fun t nt => ?_⟩⟩⟩
      have v3 := same_new (o := HO.tup xs) nag
      have v4 := same_new (o := HO.tup [V.int inp, V.ref af, V.ref an, V.ref ag, V.ref ao]) nt
      have v34 := v3.trans v4
      have K' := KC.trans (KeepT.of_same v34)
      have K'' := KA.trans K'
      have hfl2 : fs.length ≤ 3 := by omega
      refine k _ ⟨inp, fs, ns, gs, os⟩ _ (bA.trans (bAC.trans (But.of v34))) (kC.same v34) (.tup (SqT.of upd_same) (.cons (.int _) (.cons (.tup (SqT.of (K'' _ _ hfi (fun _ z => by cases z))) (dps_ints _)) (.cons (.tup (SqT.of (K' _ _ haA (fun _ z => by cases z))) (dps_ints _))
        (.cons (.tup (SqT.of (v4 _ _ upd_same)) (dps_keep K'' (noLs_all fun d hd => ?_) hxi)) (.cons (.tup (SqT.of (v34 _ _ hoC)) (dps_ints _)) .nil)))))) ?_ ?_ (by show inp ≤ 4; omega) hfl2 (by show gs.length ≤ 100; omega) (by show os.length ≤ 5; omega)
      · obtain ⟨g, _, rfl⟩ := List.mem_map.mp hd
        exact noL_gate g
      · refine ⟨by show fs.length ≤ 1000; omega, by show ns.length ≤ 1000; omega, by show gs.length ≤ 1000; omega, by show os.length ≤ 1000; omega, smi⟩
      · have hgi : ((gs.length : Nat) : Int) = ((ng.toNat : Nat) : Int) := by rw [hgl]
        have hw : w0 ⟨inp, fs, ns, gs, os⟩ = W := hW.symm
        unfold okNet
        rw [hw]
        simp only [Bool.and_eq_true, decide_eq_true_eq, List.all_eq_true]
        refine ⟨⟨⟨⟨i0, oki⟩, hnl⟩, fun x hx => ?_⟩, fun x hx => ?_⟩
        · have := hfr x hx
          exact ⟨this.1, by omega⟩
        · unfold inR
          rw [Bool.and_eq_true, decide_eq_true_eq, decide_eq_true_eq, hgi]
          rcases List.mem_append.mp hx with hx | hx
          · exact hnr x hx
          · exact hor x hx
end
end Q03



set_option pp.maxSteps 1500
namespace Q03
open PySem L2 G M03
open C8 (Cal Met Mak pe_c pe_mk pe_mt pe_mt0 pe_gc pss_cut tCut)
def valsL (n : Net) (fl ins : List Int) : List Int := runL (0 :: (ins ++ fl)) n.gates
theorem outsOf_at {cur : List Int} {g : Gate} {k : Nat} (h : k < g.2.length) : ((outsOf cur g.2).map V.int)[k]? = some (.int (nth cur (side g k))) := by
  unfold outsOf side
  rw [List.getElem?_map, List.getElem?_map, List.getElem?_eq_getElem h, List.getD_eq_getElem?_getD, List.getElem?_eq_getElem h]
  rfl
theorem dk_and (x y z : V) : valV (mergeK [] [(.inr "and", x), (.inr "or", y), (.inr "xor", z)]) (.inr "and") = some x := by rfl
theorem dk_or (x y z : V) : valV (mergeK [] [(.inr "and", x), (.inr "or", y), (.inr "xor", z)]) (.inr "or") = some y := by rfl
theorem dk_xor (x y z : V) : valV (mergeK [] [(.inr "and", x), (.inr "or", y), (.inr "xor", z)]) (.inr "xor") = some z := by rfl
theorem words_ne2 : ("and" : Str) ≠ "not" ∧ ("and" : Str) ≠ "mux" ∧ ("or" : Str) ≠ "not" ∧ ("or" : Str) ≠ "mux" ∧ ("or" : Str) ≠ "and" ∧ ("xor" : Str) ≠ "not" ∧ ("xor" : Str) ≠ "mux" ∧ ("xor" : Str) ≠ "and" ∧ ("xor" : Str) ≠ "or" := by decide +kernel
theorem bit_small {x : Int} (h : Bit x) : -(2 ^ 64) < x ∧ x < 2 ^ 64 := by
  rcases h with rfl | rfl <;> decide
section
variable {P : Program} {w : World} {K : PySem.W.Frag} {mg : Str → Option Value} {base : Heap}
/-! ### _law_net_step -/
def spLStep (K : PySem.W.Frag) : Sp := fun vs H Q _ => ∃ (v vf vi : V) (n : Net) (fl ins : List Int), vs = [v, vf, vi] ∧ Dp K H v (netD n) ∧ SmallN n ∧ okNet n = true ∧ Nums K H vf fl ∧ Nums K H vi ins ∧ fl.length = n.firsts.length ∧ (ins.length : Int) = n.inp ∧ ins.length ≤ 1000 ∧ (∀ x ∈ fl, Bit x) ∧ (∀ x ∈ ins, Bit x) ∧
  ∀ (t l1 l2 : Addr) (H' : Hp), Same H H' → H l1 = none → H l2 = none → H' t = some (.tup [.ref l1, .ref l2]) → H' l1 = some (.lst ((outsOf (valsL n fl ins) n.outs).map V.int)) → H' l2 = some (.lst ((outsOf (valsL n fl ins) n.nexts).map V.int)) → Q (.ref t) H'
theorem ok_lstep {f : Addr} {fd : FuncData} (F : Fun K "_law_net_step" "_law_net_step" s__law_net_step f fd) (T : Txt K mg) : FnOk P w K mg base CX0 1 f fd ["net", "flops", "inputs"] (spLStep K) := by
  refine F.ok sc__law_net_step (fun vs H Q E h => ?_) (fun cdv A outer s H vs Q E hr h => ?_)
  · obtain ⟨v, vf, vi, n, fl, ins, rfl, _⟩ := h
    rfl
  · obtain ⟨v, vf, vi, n, fl, ins, rfl, hd, hs, hok, hf, hi, gF, gN', hil, bf, bi, k⟩ := h
    have hu := hu_of hr
    obtain ⟨p0, hgs, hnl, hfi, hnx⟩ := okNet_parts hok
    obtain ⟨a, af, an, ag, ao, xg, rfl, hx, hF, hN, hG, hGs, hO⟩ := net_dp hd
    have hfl : fl.length ≤ 1000 := by rw [gF]; exact hs.1
    refine ⟨_, (pss_cons (ps_set (i := 3) sc__law_net_step.nd rfl (Or.inr rfl) (pe_op op_cat (pe_op op_cat (pe_lst (pa_cons pe_int pa_nil)) (pe_callTy call_list_of (by rfl) T.b_list boot_list' (pa_cons (pv 2) pa_nil))) (pe_callTy call_list_of (by rfl) T.b_list boot_list' (pa_cons (pv 1) pa_nil))))
      (pss_cons (ps_for PassesOwn.never rfl (pi_tup (pe_ix ix_tup (pv 0) pe_int (fun _ _ => rfl))) (pg_name (i := 4) sc__law_net_step.nd rfl (Or.inl rfl)) (pss_cons (ps_setLc (i := 5) (own := [("wire", 6)]) rfl sc__law_net_step.nd rfl rfl (sw_true rfl rfl rfl (by decide +kernel)) (pi_tup (pe_slice sl_tupA (pv 4) (po_some pe_int) po_none)) (blkOk_by (own := [("wire", 6)]) (N := ["net", "flops", "inputs", "values", "gate", "sides", "wire"]) (sc := defScope s__law_net_step) (by decide +kernel)) (fun _ _ _ _ _ => (pg_name (i := 6) sc__law_net_step.nd rfl (Or.inl rfl))) (fun _ _ _ _ _ => pts_nil) (fun _ _ _ _ _ => (pe_ix (ix_listK (K := K) rfl) (pv 3) (pv 6) (fun _ _ => rfl))))
      (pss_one (ps_if (pt_cmpR op_eq (pe_ix ix_tup (pv 4) pe_int (fun _ _ => rfl)) pe_str (nomark _)) (pss_one (ps_expr (pe_bm PySem.F.plainAttrs_list PySem.F.slot_list_append PySem.F.type_list_append mt_append (pv 3) (pa_cons (pe_op op_sub pe_int (pe_ix ix_list (pv 5) pe_int (fun _ _ => rfl))) pa_nil)))) (pss_one (ps_if (pt_cmpR op_eq (pe_ix ix_tup (pv 4) pe_int (fun _ _ => rfl)) pe_str (nomark _)) (pss_one (ps_expr (pe_bm PySem.F.plainAttrs_list PySem.F.slot_list_append PySem.F.type_list_append mt_append (pv 3) (pa_cons (pe_ifExp (pt_cmpR op_eq (pe_ix ix_list (pv 5) pe_int (fun _ _ => rfl)) pe_int (nomark _)) (pe_ix ix_list (pv 5) pe_int (fun _ _ => rfl)) (pe_ix ix_list (pv 5) pe_int (fun _ _ => rfl))) pa_nil)))) (pss_one (ps_expr (pe_bm PySem.F.plainAttrs_list PySem.F.slot_list_append PySem.F.type_list_append mt_append (pv 3) (pa_cons (pe_dget hu (pe_disp (pps_cons pe_str (pe_op op_mul (pe_ix ix_list (pv 5) pe_int (fun _ _ => rfl)) (pe_ix ix_list (pv 5) pe_int (fun _ _ => rfl))) (pps_cons pe_str (pe_callB (cr_max rfl) (by rfl) T.b_max boot_max' (pa_cons (pv 5) pa_nil)) (pps_cons pe_str (pe_callTy call_int1 (by rfl) T.b_int boot_int' (pa_cons (pe_cmpR op_ne (pe_ix ix_list (pv 5) pe_int (fun _ _ => rfl)) (pe_ix ix_list (pv 5) pe_int (fun _ _ => rfl)) (nomark _)) pa_nil)) pps_nil))) (by rfl) (by rfl) (fun z => by cases z) (by decide)) (pe_ix ix_tup (pv 4) pe_int (fun _ _ => rfl)) (fun _ _ => rfl)) pa_nil))))))))))
      (pss_one (ps_ret (pe_tup (pa_cons (pe_lc (own := [("wire", 6)]) rfl sc__law_net_step.nd (pi_tup (pe_ix ix_tup (pv 0) pe_int (fun _ _ => rfl))) (blkOk_by (own := [("wire", 6)]) (N := ["net", "flops", "inputs", "values", "gate", "sides", "wire"]) (sc := defScope s__law_net_step) (by decide +kernel)) (fun _ _ _ _ _ => (pg_name (i := 6) sc__law_net_step.nd rfl (Or.inl rfl))) (fun _ _ _ _ _ => pts_nil) (fun _ _ _ _ _ => (pe_ix (ix_listK (K := K) rfl) (pv 3) (pv 6) (fun _ _ => rfl)))) (pa_cons (pe_lc (own := [("wire", 6)]) rfl sc__law_net_step.nd (pi_tup (pe_ix ix_tup (pv 0) pe_int (fun _ _ => rfl))) (blkOk_by (own := [("wire", 6)]) (N := ["net", "flops", "inputs", "values", "gate", "sides", "wire"]) (sc := defScope s__law_net_step) (by decide +kernel)) (fun _ _ _ _ _ => (pg_name (i := 6) sc__law_net_step.nd rfl (Or.inl rfl))) (fun _ _ _ _ _ => pts_nil) (fun _ _ _ _ _ => (pe_ix (ix_listK (K := K) rfl) (pv 3) (pv 6) (fun _ _ => rfl)))) pa_nil))))))), ?_⟩
    obtain ⟨ai, rfl, hi2⟩ := hi
    obtain ⟨al, rfl, hf2⟩ := hf
    refine ⟨(show 1 ≤ sizeLine by decide), fun p1 m1 => ?_⟩
    have t1 := same_new (o := HO.lst [V.int 0]) m1
    refine ⟨_, rfl, ai, _, rfl, hi2.elim (fun z => .inl (t1.seq z)) (fun z => .inr (Same.tup t1 z)), fun p2 m2 => ?_⟩
    have t2 := same_new (o := HO.lst (ins.map V.int)) m2
    refine ⟨p1, p2, _, _, rfl, rfl, t2 _ _ upd_same, upd_same, size_of (by rw [List.length_map]; simp only [List.length_singleton]; omega), fun p3 m3 => ?_⟩
    have t3 := same_new (o := HO.lst ([V.int 0] ++ ins.map V.int)) m3
    have t123 := (t1.trans t2).trans t3
    refine ⟨_, rfl, al, _, rfl, hf2.elim (fun z => .inl (t123.seq z)) (fun z => .inr (Same.tup t123 z)), fun p4 m4 => ?_⟩
    have t4 := same_new (o := HO.lst (fl.map V.int)) m4
    refine ⟨p3, p4, _, _, rfl, rfl, t4 _ _ upd_same, upd_same, size_of (by rw [List.length_append, List.length_map, List.length_map]; simp only [List.length_singleton]; omega), fun p5 m5 => ?_⟩
    have t1234 := t123.trans t4
    have e5 : [V.int 0] ++ ins.map V.int ++ fl.map V.int = (0 :: (ins ++ fl)).map V.int := by simp
    rw [e5]
    have n5 : H p5 = none := none_of_same t1234 m5
    have s5 : Same H (upd (upd (upd (upd (upd H p1 (.lst [V.int 0])) p2 (.lst (ins.map V.int))) p3 (.lst ([V.int 0] ++ ins.map V.int))) p4 (.lst (fl.map V.int))) p5 (.lst ((0 :: (ins ++ fl)).map V.int))) := t1234.trans (same_new m5)
    have h5 := upd_same (H := upd (upd (upd (upd H p1 (.lst [V.int 0])) p2 (.lst (ins.map V.int))) p3 (.lst ([V.int 0] ++ ins.map V.int))) p4 (.lst (fl.map V.int))) (a := p5) (o := .lst ((0 :: (ins ++ fl)).map V.int))
    generalize upd (upd (upd (upd (upd H p1 (.lst [V.int 0])) p2 (.lst (ins.map V.int))) p3 (.lst ([V.int 0] ++ ins.map V.int))) p4 (.lst (fl.map V.int))) p5 (.lst ((0 :: (ins ++ fl)).map V.int)) = H5 at s5 h5
    refine ⟨_, rfl, a, _, 3, _, rfl, rfl, Same.tup s5 hx, atI_nat (j := 3) rfl, ag, rfl, ⟨_, Same.tup s5 hG⟩, ?_⟩
    have hgl : xg.length = n.gates.length := by rw [dps_len hGs, List.length_map]
    have bits0 : Bits (0 :: (ins ++ fl)) := Bits.of_all fun x hx => by
      rcases List.mem_cons.mp hx with rfl | hx
      · exact .inl rfl
      · rcases List.mem_append.mp hx with hx | hx
        · exact bi x hx
        · exact bf x hx
    refine for_tup (K := K) (a := ag) (xs := xg) (fun i σ H' => ∃ (o4 o5 : Option V) (Hs : Same H H'),
      σ = [some (.ref a), some (.ref al), some (.ref ai), some (.ref p5), o4, o5, none] ∧ H' p5 = some (.lst ((runL (0 :: (ins ++ fl)) (n.gates.take i)).map V.int)))
      ⟨none, none, s5, rfl, h5⟩ ?_ ?_ ?_
    · rintro i σ H' _ ⟨_, _, Hs, _, _⟩
      exact Same.tup Hs hG
    · rintro i x σ H6 hix ⟨o4, o5, Hs, rfl, h6⟩
      obtain ⟨d, hdi, dx⟩ := dps_getv hGs hix
      rw [List.getElem?_map] at hdi
      obtain ⟨g, hgt, rfl⟩ := Option.map_eq_some_iff.mp hdi
      obtain ⟨ga, rfl, hg⟩ := gate_dp dx
      have hog0 := okGs_get hgs hgt
      have hil2 : i < n.gates.length := (List.getElem?_eq_some_iff.mp hgt).1
      have hlen : (runL (0 :: (ins ++ fl)) (n.gates.take i)).length = 1 + ins.length + fl.length + i := by
        rw [runL_len, List.length_take, List.length_cons, List.length_append]
        omega
      have htk := take_snoc hgt
      have hrun := runL_snoc g (n.gates.take i) (0 :: (ins ++ fl))
      rw [← htk] at hrun
      have hbits := bits0.run (okGs_take i hgs)
      generalize runL (0 :: (ins ++ fl)) (n.gates.take i) = cur at h6 hlen hrun hbits
      have hog : okG cur.length g = true := by
        rw [hlen]
        have e : w0 n + (i : Int) = ((1 + ins.length + fl.length + i : Nat) : Int) := by
          unfold w0
          omega
        rw [← e]
        exact hog0
      have hgl1 := hs.2.2.1
      have hg2 := (hs.2.2.2.2 g (List.mem_of_getElem? hgt)).1
      -- sides
      refine ⟨_, rfl, 1, rfl, ?_⟩
      unfold tNoPart
      refine slA_new (Same.tup Hs hg) fun b H7 s7 hb => ⟨b, rfl, ⟨_, hb⟩, fun D hD => ?_⟩
      rw [cut_tail] at hb
      have h7 := s7 _ _ h6
      refine lc_dataT (K := K) (a := b) (xs := g.2.map V.int) (ds := intsD g.2) (fun _ => true) (gN cur) hb (dps_ints _) hD (by rw [intsD, List.length_map]; omega) ?_ ?_
      · intro v d G acc R dm hv sG hGD ha _ hyes
        obtain ⟨j, hj, rfl⟩ := List.mem_map.mp dm
        cases dp_int hv
        have hp : upd G D (.lst acc) p5 = some (.lst (cur.map V.int)) := same_new hGD _ _ (sG _ _ h7)
        have hin : inR cur.length j = true := by
          unfold okG at hog
          simp only [Bool.and_eq_true, List.all_eq_true] at hog
          exact hog.2 j hj
        refine ⟨rfl, _, rfl, _, rfl, p5, _, _, _, rfl, rfl, SqL.of hp, nth_at hin, acc, upd_same, ha, ?_⟩
        rw [upd_app]
        exact hyes rfl G _ (Same.refl _) hGD (.int _)
      intro G ys sG hGD hys
      rw [gN_map] at hys
      cases dps_ints_of hys
      have s8 : Same H (upd G D (.lst ((outsOf cur g.2).map V.int))) := ((Hs.trans s7).trans sG).trans (same_new hGD)
      have h8 : upd G D (.lst ((outsOf cur g.2).map V.int)) p5 = some (.lst (cur.map V.int)) := same_new hGD _ _ (sG _ _ h7)
      have hD8 : upd G D (.lst ((outsOf cur g.2).map V.int)) D = some (.lst ((outsOf cur g.2).map V.int)) := upd_same
      generalize upd G D (.lst ((outsOf cur g.2).map V.int)) = H8 at s8 h8 hD8
      have s9g : ∀ (Hx : Hp) (z : Int), Same H8 Hx → z = evL cur g → ∃ (o4 o5 : Option V) (Hs : Same H (upd Hx p5 (.lst (cur.map V.int ++ [V.int z])))),
          [some (V.ref a), some (V.ref al), some (V.ref ai), some (V.ref p5), some (V.ref ga), some (V.ref D), none] = [some (V.ref a), some (V.ref al), some (V.ref ai), some (V.ref p5), o4, o5, none] ∧
          upd Hx p5 (.lst (cur.map V.int ++ [V.int z])) p5 = some (.lst ((runL (0 :: (ins ++ fl)) (n.gates.take (i + 1))).map V.int)) := fun Hx z sx hz => by
        refine ⟨_, _, same_mut (s8.trans sx) n5, rfl, ?_⟩
        rw [upd_same, hrun, hz, List.map_append]
        rfl
      have hb8 := fun k => hbits.nth (side g k)
      by_cases e1 : g.1 = "not"
      · have hgw : g.2.length = 1 := by
          rcases okG_word hog with ⟨q, _⟩ | ⟨q, _⟩ | ⟨q, _⟩ | ⟨q, z⟩ | ⟨q, _⟩
          · rw [e1] at q; exact absurd q (by decide +kernel)
          · rw [e1] at q; exact absurd q (by decide +kernel)
          · rw [e1] at q; exact absurd q (by decide +kernel)
          · exact z
          · rw [e1] at q; exact absurd q (by decide +kernel)
        refine ⟨_, rfl, ga, _, 0, _, rfl, rfl, Same.tup s8 hg, atI_nat (j := 0) rfl, rfl, _, rfl, ?_⟩
        refine ifT (by rw [e1]; rfl) ?_
        refine ⟨_, rfl, .inl ⟨rfl, _, SqL.of h8⟩, _, rfl, D, _, 0, _, rfl, rfl, SqL.of hD8, atI_nat (j := 0) (outsOf_at (k := 0) (by omega)), _, _, rfl, rfl, _, _, _, rfl, rfl, h8, size_lt (by rw [List.length_map, hlen]; omega), ?_⟩
        exact s9g _ _ (Same.refl _) (by unfold evL; simp [e1])
      by_cases e2 : g.1 = "mux"
      · have hgw : g.2.length = 3 := by
          rcases okG_word hog with ⟨q, _⟩ | ⟨q, _⟩ | ⟨q, _⟩ | ⟨q, _⟩ | ⟨q, z⟩
          · rw [e2] at q; exact absurd q (by decide +kernel)
          · rw [e2] at q; exact absurd q (by decide +kernel)
          · rw [e2] at q; exact absurd q (by decide +kernel)
          · rw [e2] at q; exact absurd q (by decide +kernel)
          · exact z
        refine ⟨_, rfl, ga, _, 0, _, rfl, rfl, Same.tup s8 hg, atI_nat (j := 0) rfl, rfl, _, rfl, ?_⟩
        refine ifF (by rw [e2]; decide) ?_
        refine ⟨_, rfl, ga, _, 0, _, rfl, rfl, Same.tup s8 hg, atI_nat (j := 0) rfl, rfl, _, rfl, ?_⟩
        refine ifT (by rw [e2]; rfl) ?_
        refine ⟨_, rfl, .inl ⟨rfl, _, SqL.of h8⟩, _, rfl, D, _, 0, _, rfl, rfl, SqL.of hD8, atI_nat (j := 0) (outsOf_at (k := 0) (by omega)), rfl, _, rfl, ?_⟩
        refine ite2 (fun hc => ?_) (fun hc => ?_)
        · have q : nth cur (side g 0) = 1 := by simpa using hc
          refine ⟨_, rfl, D, _, 1, _, rfl, rfl, SqL.of hD8, atI_nat (j := 1) (outsOf_at (k := 1) (by omega)), _, _, _, rfl, rfl, h8, size_lt (by rw [List.length_map, hlen]; omega), ?_⟩
          exact s9g _ _ (Same.refl _) (by unfold evL; simp [e2, q, words_ne])
        · have q : ¬ nth cur (side g 0) = 1 := by simpa using hc
          refine ⟨_, rfl, D, _, 2, _, rfl, rfl, SqL.of hD8, atI_nat (j := 2) (outsOf_at (k := 2) (by omega)), _, _, _, rfl, rfl, h8, size_lt (by rw [List.length_map, hlen]; omega), ?_⟩
          exact s9g _ _ (Same.refl _) (by unfold evL; simp [e2, q, words_ne])
      have hgw : g.2.length = 2 := by
        rcases okG_word hog with ⟨_, z⟩ | ⟨_, z⟩ | ⟨_, z⟩ | ⟨q, _⟩ | ⟨q, _⟩
        · exact z
        · exact z
        · exact z
        · exact absurd q e1
        · exact absurd q e2
      refine ⟨_, rfl, ga, _, 0, _, rfl, rfl, Same.tup s8 hg, atI_nat (j := 0) rfl, rfl, _, rfl, ?_⟩
      refine ifF (by simp [e1]) ?_
      refine ⟨_, rfl, ga, _, 0, _, rfl, rfl, Same.tup s8 hg, atI_nat (j := 0) rfl, rfl, _, rfl, ?_⟩
      refine ifF (by simp [e2]) ?_
      refine ⟨_, rfl, .inl ⟨rfl, _, SqL.of h8⟩, ?_⟩
      refine fun pd nd => ?_
      have u9 := same_new (o := HO.dK []) nd
      have hD9 := u9 _ _ hD8
      refine ⟨_, rfl, D, _, 0, _, rfl, rfl, SqL.of hD9, atI_nat (j := 0) (outsOf_at (k := 0) (by omega)), _, rfl, D, _, 1, _, rfl, rfl, SqL.of hD9, atI_nat (j := 1) (outsOf_at (k := 1) (by omega)), _, _, rfl, rfl, .inl (bit_small (hb8 0)), ?_⟩
      refine ⟨_, rfl, D, outsOf cur g.2, rfl, SqL.of hD9, by rw [outsOf, List.length_map]; omega, fun mx hm hx => ?_⟩
      refine ⟨_, rfl, D, _, 0, _, rfl, rfl, SqL.of hD9, atI_nat (j := 0) (outsOf_at (k := 0) (by omega)), _, rfl, D, _, 1, _, rfl, rfl, SqL.of hD9, atI_nat (j := 1) (outsOf_at (k := 1) (by omega)), rfl, .inr ⟨_, rfl, ?_⟩⟩
      refine ⟨upd_same, [(.inr "and", _), (.inr "or", _), (.inr "xor", _)], rfl, (show 3 ≤ 15 by decide), ?_⟩
      rw [upd_upd]
      have out2 : outsOf cur g.2 = [nth cur (side g 0), nth cur (side g 1)] := by
        unfold outsOf side
        match g.2, hgw with
        | [x, y], _ => rfl
      have hmx : mx = if nth cur (side g 1) > nth cur (side g 0) then nth cur (side g 1) else nth cur (side g 0) := by
        rw [out2] at hm hx
        have q0 := hx (nth cur (side g 0)) (by simp)
        have q1 := hx (nth cur (side g 1)) (by simp)
        simp only [List.mem_cons, List.not_mem_nil, or_false] at hm
        split <;> rcases hm with rfl | rfl <;> omega
      have fin3 : ∃ z : Int, valV (mergeK [] [(.inr "and", V.int (nth cur (side g 0) * nth cur (side g 1))), (.inr "or", V.int mx), (.inr "xor", V.int (if (!decide (V.int (nth cur (side g 0)) = V.int (nth cur (side g 1)))) = true then 1 else 0))]) (.inr g.1) = some (.int z) ∧ z = evL cur g := by
        rcases okG_word hog with ⟨q, _⟩ | ⟨q, _⟩ | ⟨q, _⟩ | ⟨q, _⟩ | ⟨q, _⟩
        · exact ⟨nth cur (side g 0) * nth cur (side g 1), by rw [q]; exact dk_and _ _ _, by unfold evL; simp [q, words_ne2]⟩
        · exact ⟨mx, by rw [q]; exact dk_or _ _ _, by rw [hmx]; unfold evL; simp [q, words_ne2]⟩
        · exact ⟨_, by rw [q]; exact dk_xor _ _ _, by unfold evL; simp [q, words_ne2]⟩
        · exact absurd q e1
        · exact absurd q e2
      obtain ⟨z, hz1, hz2⟩ := fin3
      have u10 := same_new (o := HO.dK (mergeK [] [(.inr "and", V.int (nth cur (side g 0) * nth cur (side g 1))), (.inr "or", V.int mx), (.inr "xor", V.int (if (!decide (V.int (nth cur (side g 0)) = V.int (nth cur (side g 1)))) = true then 1 else 0))])) nd
      have h10 := u10 _ _ h8
      exact ⟨_, rfl, ga, _, 0, _, rfl, rfl, Same.tup (s8.trans u10) hg, atI_nat (j := 0) rfl, pd, _, rfl, .inl ⟨_, .inr g.1, .inl upd_same, rfl, hz1.symm⟩, _, _, _, rfl, rfl, h10, size_lt (by rw [List.length_map, hlen]; omega), s9g _ z u10 hz2⟩
    · rintro σ H' ⟨o4, o5, Hs, rfl, h7⟩
      rw [hgl, List.take_length] at h7
      have h7 : H' p5 = some (.lst ((valsL n fl ins).map V.int)) := h7
      have hvl : ((valsL n fl ins).length : Int) = w0 n + n.gates.length := by
        unfold valsL w0
        rw [runL_len, List.length_cons, List.length_append]
        omega
      refine ⟨_, rfl, a, _, 4, _, rfl, rfl, Same.tup Hs hx, atI_nat (j := 4) rfl, ao, rfl, ⟨_, Same.tup Hs hO⟩, fun D hD => ?_⟩
      refine lc_dataT (K := K) (a := ao) (xs := n.outs.map V.int) (ds := intsD n.outs) (fun _ => true) (gN (valsL n fl ins)) (Same.tup Hs hO) (dps_ints _) hD (by rw [intsD, List.length_map]; have := hs.1; have := hs.2.1; have := hs.2.2.2.1; omega) ?_ ?_
      · intro v d G acc R dm hv sG hG ha _ hyes
        obtain ⟨i, hi, rfl⟩ := List.mem_map.mp dm
        cases dp_int hv
        have hp : upd G D (.lst acc) p5 = some (.lst ((valsL n fl ins).map V.int)) := same_new hG _ _ (sG _ _ h7)
        refine ⟨rfl, _, rfl, _, rfl, p5, _, _, _, rfl, rfl, SqL.of hp, nth_at (by rw [hvl]; exact hnx i (List.mem_append_right _ hi)), acc, upd_same, ha, ?_⟩
        rw [upd_app]
        exact hyes rfl G _ (Same.refl _) hG (.int _)
      · intro G ys sG hG hys
        rw [gN_map] at hys
        cases dps_ints_of hys
        have s2 : Same H (upd G D (.lst ((outsOf (valsL n fl ins) n.outs).map V.int))) := (Hs.trans sG).trans (same_new hG)
        have hp2 : upd G D (.lst ((outsOf (valsL n fl ins) n.outs).map V.int)) p5 = some (.lst ((valsL n fl ins).map V.int)) := same_new hG _ _ (sG _ _ h7)
        have hD1 : upd G D (.lst ((outsOf (valsL n fl ins) n.outs).map V.int)) D = some (.lst ((outsOf (valsL n fl ins) n.outs).map V.int)) := upd_same
        generalize upd G D (.lst ((outsOf (valsL n fl ins) n.outs).map V.int)) = H2 at s2 hp2 hD1
        refine ⟨_, rfl, a, _, 2, _, rfl, rfl, Same.tup s2 hx, atI_nat (j := 2) rfl, an, rfl, ⟨_, Same.tup s2 hN⟩, fun D2 hD2 => ?_⟩
        refine lc_dataT (K := K) (a := an) (xs := n.nexts.map V.int) (ds := intsD n.nexts) (fun _ => true) (gN (valsL n fl ins)) (Same.tup s2 hN) (dps_ints _) hD2 (by rw [intsD, List.length_map]; have := hs.1; have := hs.2.1; have := hs.2.2.2.1; omega) ?_ ?_
        · intro v d G acc R dm hv sG hG ha _ hyes
          obtain ⟨i, hi, rfl⟩ := List.mem_map.mp dm
          cases dp_int hv
          have hp : upd G D2 (.lst acc) p5 = some (.lst ((valsL n fl ins).map V.int)) := same_new hG _ _ (sG _ _ hp2)
          refine ⟨rfl, _, rfl, _, rfl, p5, _, _, _, rfl, rfl, SqL.of hp, nth_at (by rw [hvl]; exact hnx i (List.mem_append_left _ hi)), acc, upd_same, ha, ?_⟩
          rw [upd_app]
          exact hyes rfl G _ (Same.refl _) hG (.int _)
        · intro G2 ys2 sG2 hG2 hys2
          rw [gN_map] at hys2
          cases dps_ints_of hys2
          refine ⟨(show 2 ≤ sizeLine by decide), fun t nt => ?_⟩
          have s3 := same_new (o := HO.lst ((outsOf (valsL n fl ins) n.nexts).map V.int)) hG2
          have s4 := same_new (o := HO.tup [V.ref D, V.ref D2]) nt
          exact k t D D2 _ (((s2.trans sG2).trans s3).trans s4) (none_of_same Hs hD) (none_of_same s2 hD2) upd_same (s4 _ _ (s3 _ _ (sG2 _ _ hD1))) (s4 _ _ upd_same)
end
end Q03



set_option pp.maxSteps 1500
namespace Q03
open PySem L2 G M03
open C8 (Cal Met Mak pe_c pe_mk pe_mt pe_mt0 pe_gc pss_cut tCut)
theorem pk_sum (f : Nat → Int) : ∀ n, ((List.range n).map fun l => f l * 2 ^ l).sum = pk f n
  | 0 => rfl
  | n + 1 => by
    rw [List.range_succ, List.map_append, List.sum_append, pk_sum f n]
    show _ + (f n * 2 ^ n + 0) = pk f n + f n * 2 ^ n
    rw [Int.add_zero]
theorem row_at {K : PySem.W.Frag} {H : Hp} {xs : List V} {rows : List (List Int)} {l : Nat} (h : DpAll K H xs (rows.map listD)) (hl : l < rows.length) : ∃ (b : Addr), xs[l]? = some (.ref b) ∧ SqL K H b ((rows.getD l []).map V.int) := by
  have e : (rows.map listD)[l]? = some (listD (rows.getD l [])) := by
    rw [List.getElem?_map, List.getD_eq_getElem?_getD, List.getElem?_eq_getElem hl]
    rfl
  obtain ⟨v, hv, hd⟩ := dps_get h e
  obtain ⟨b, ys, rfl, hb, hys⟩ := dp_lst hd
  cases dps_ints_of hys
  exact ⟨b, hv, hb⟩
section
variable {P : Program} {w : World} {K : PySem.W.Frag} {mg : Str → Option Value} {base : Heap}
/-! ### _law_lanes -/
def spWords (K : PySem.W.Frag) : Sp := fun vs H Q _ => ∃ (v : V) (rows : List (List Int)) (m : Nat), vs = [v] ∧ Dp K H v (.list (rows.map listD)) ∧ 0 < rows.length ∧ rows.length ≤ 1000 ∧ (∀ l, l < rows.length → (rows.getD l []).length = m) ∧ m ≤ 1000 ∧ (∀ l, l < rows.length → Bits (rows.getD l [])) ∧
  ∀ (p : Addr) (H' : Hp), Same H H' → H p = none → H' p = some (.lst ((words rows m).map V.int)) → Q (.ref p) H'
theorem ok_words {f : Addr} {fd : FuncData} (F : Fun K "_law_lanes" "_law_lanes" s__law_lanes f fd) (T : Txt K mg) : FnOk P w K mg base CX0 1 f fd ["rows"] (spWords K) := by
  refine F.ok sc__law_lanes (fun vs H Q E h => ?_) (fun cdv A outer s H vs Q E hr h => ?_)
  · obtain ⟨v, rows, m, rfl, _⟩ := h
    rfl
  · obtain ⟨v, rows, m, rfl, hd, h0, hn, hm, hm2, hb, k⟩ := h
    refine ⟨_, (pss_cons (ps_set (i := 1) sc__law_lanes.nd rfl (Or.inl rfl) (pe_lst pa_nil))
      (pss_cons (ps_for PassesOwn.never rfl (pi_range1 (by rfl) T.b_range (pa_cons (pe_callB call_len_seq (by rfl) T.b_len boot_len' (pa_cons (pe_ix ix_list (pv 0) pe_int (fun _ _ => rfl)) pa_nil)) pa_nil)) (pg_name (i := 2) sc__law_lanes.nd rfl (Or.inr rfl)) (pss_one (ps_expr (pe_bm PySem.F.plainAttrs_list PySem.F.slot_list_append PySem.F.type_list_append mt_append (pv 1) (pa_cons (pe_callB (cr_sum rfl) (by rfl) T.b_sum boot_sum' (pa_cons (pe_lc (own := [("lane", 3)]) rfl sc__law_lanes.nd (pi_range1 (by rfl) T.b_range (pa_cons (pe_callB call_len_seq (by rfl) T.b_len boot_len' (pa_cons (pv 0) pa_nil)) pa_nil)) (blkOk_by (own := [("lane", 3)]) (N := ["rows", "found", "at", "lane"]) (sc := defScope s__law_lanes) (by decide +kernel)) (fun _ _ _ _ _ => (pg_name (i := 3) sc__law_lanes.nd rfl (Or.inl rfl))) (fun _ _ _ _ _ => pts_nil) (fun _ _ _ _ _ => (pe_op op_shl (pe_ix (ix_listK (K := K) rfl) (pe_ix (ix_listK (K := K) rfl) (pv 0) (pv 3) (fun _ _ => rfl)) (pv 2) (fun _ _ => rfl)) (pv 3)))) pa_nil)) pa_nil)))))
      (pss_one (ps_ret (pv 1))))), ?_⟩
    obtain ⟨a, xs, rfl, hx, hxs⟩ := dp_lst hd
    have hxl : xs.length = rows.length := by rw [dps_len hxs, List.length_map]
    refine ⟨Nat.zero_le _, fun p m1 => ?_⟩
    have s1 := same_new (o := HO.lst []) m1
    obtain ⟨b0, e0, hb0⟩ := row_at hxs h0
    refine ⟨_, rfl, a, _, 0, _, rfl, rfl, s1.seq hx, atI_nat (j := 0) e0, b0, _, rfl, .inl (s1.seq hb0), _, rfl, by omega, by rw [List.length_map, hm 0 h0]; omega, ?_⟩
    rw [List.length_map, hm 0 h0]
    refine for_range (lo := 0) (n := ((m : Nat) : Int).toNat) (fun i σ H' => ∃ (o2 : Option V) (Hs : Same H H'), σ = [some (.ref a), some (.ref p), o2, none] ∧ H' p = some (.lst (((words rows m).take i).map V.int))) ⟨none, s1, rfl, by rw [upd_same]; rfl⟩ ?_ ?_
    · rintro i σ H' hi ⟨o2, Hs, rfl, hp⟩
      have him : i < m := by omega
      refine ⟨_, rfl, .inl ⟨rfl, _, SqL.of hp⟩, _, rfl, a, _, rfl, .inl (Hs.seq hx), _, rfl, by omega, by rw [hxl]; omega, fun D hD => ?_⟩
      rw [hxl]
      have sD : Same H (upd H' D (.lst [])) := Hs.trans (same_new hD)
      refine lc_range (lo := 0) (n := ((rows.length : Nat) : Int).toNat) (fun j G => G = upd H' D (.lst (((List.range j).map fun l => (rows.getD l []).getD i 0 * 2 ^ l).map V.int))) rfl ?_ ?_
      · rintro j G hj rfl
        have hjl : j < rows.length := by omega
        obtain ⟨b, eb, hbb⟩ := row_at hxs hjl
        have sG : Same H (upd H' D (.lst (((List.range j).map fun l => (rows.getD l []).getD i 0 * 2 ^ l).map V.int))) := Hs.trans (same_new hD)
        have hin : i < (rows.getD j []).length := by rw [hm j hjl]; exact him
        refine ⟨rfl, _, rfl, _, rfl, a, _, _, .ref b, rfl, rfl, sG.seq hx, ?_, _, rfl, b, _, _, .int ((rows.getD j []).getD i 0), rfl, rfl, sG.seq hbb, ?_, _, rfl, _, _, rfl, rfl, ⟨by omega, by omega, ?_⟩, _, upd_same, size_lt (by rw [List.length_map, List.length_map, List.length_range]; omega), ?_⟩
        · rw [Int.zero_add]
          exact atI_nat eb
        · rw [Int.zero_add]
          exact atI_nat (int_at hin)
        · rcases hb j hjl i with e | e <;> rw [e] <;> decide
        · rw [upd_upd, List.range_succ, List.map_append, List.map_append]
          congr 3
          rw [Int.zero_add]
          rfl
      · rintro G rfl
        refine ⟨D, _, rfl, SqL.of upd_same, ?_⟩
        rw [show ((rows.length : Nat) : Int).toNat = rows.length from rfl, pk_sum (fun l => (rows.getD l []).getD i 0)]
        have hp2 := same_new (o := HO.lst (((List.range rows.length).map fun l => (rows.getD l []).getD i 0 * 2 ^ l).map V.int)) hD _ _ hp
        refine ⟨_, _, _, rfl, rfl, hp2, size_lt (by rw [List.length_map, List.length_take, words_len]; omega), some (.int (0 + (i : Int))), same_mut (Hs.trans (same_new hD)) m1, rfl, ?_⟩
        have hw : (words rows m)[i]? = some (pk (fun l => (rows.getD l []).getD i 0) rows.length) := by simp [words, him]
        rw [upd_same, take_snoc hw, List.map_append]
        rfl
    · rintro σ H' ⟨o2, Hs, rfl, hp⟩
      rw [show ((m : Nat) : Int).toNat = (words rows m).length by rw [words_len]; rfl, List.take_length] at hp
      exact ⟨_, rfl, k p H' Hs m1 hp⟩
/-! ### _law_refusal, _law_unlit -/
def spRef (K : PySem.W.Frag) (C : Addr) : Sp := fun vs H Q _ => ∃ (v vf vi : V) (L : Int) (x : Str), vs = [v, .int L, vf, vi] ∧ (∀ (Q' : VK) (E' : XK), RaiseF C x H E' → spStepNet K C [v, .int L, vf, vi] H Q' E') ∧ ∀ H', Same H H' → Q (.str x) H'
theorem ok_ref {C : Addr} {f : Addr} {fd : FuncData} (F : Fun K "_law_refusal" "_law_refusal" s__law_refusal f fd) (T : Txt K mg) (R_InvalidNet : ErrT K mg "InvalidNet" C "what") (c_step_net : CalX P w K mg base 6 "step_net" (spStepNet K C)) : FnOk P w K mg base CX0 7 f fd ["net", "lanes", "flops", "inputs"] (spRef K C) := by
  refine F.ok sc__law_refusal (fun vs H Q E h => ?_) (fun cdv A outer s H vs Q E hr h => ?_)
  · obtain ⟨v, vf, vi, L, x, rfl, _⟩ := h
    rfl
  · obtain ⟨v, vf, vi, L, x, rfl, hc, k⟩ := h
    refine ⟨_, (pss_cons (ps_try_as (i := 4) rfl rfl sc__law_refusal.nd rfl rfl ⟨rfl, by decide, .inl R_InvalidNet.gC⟩ takes0 (fun W pn xe tk po => (pss_one (ps_expr (pe_cx c_step_net hr (by omega) rfl tk (pa_cons (pv 0) (pa_cons (pv 1) (pa_cons (pv 2) (pa_cons (pv 3) pa_nil)))))))) (fun a oe cls d pn hz hf => (pss_one (ps_ret (pe_xf R_InvalidNet.xf R_InvalidNet.no hz hf (pv 4))))))
      (pss_one (ps_ret pe_non))), ?_⟩
    refine ⟨_, rfl, _, rfl, _, rfl, _, rfl, hc _ _ fun H' d s1 hd => ?_⟩
    exact ⟨true, R_InvalidNet.te, fun _ a ha => ⟨_, rfl, rfl, rfl, d, _, _, rfl, hd, rfl, k H' s1⟩, fun q => Bool.noConfusion q⟩
def spUnlit (K : PySem.W.Frag) : Sp := fun vs H Q _ => ∃ (v : V) (n : Net), vs = [v] ∧ Dp K H v (netD n) ∧ SmallN n ∧ okNet n = true ∧ ∀ H', Same H H' → Q (.str "lanes") H'
theorem ok_unlit {C : Addr} {f : Addr} {fd : FuncData} (F : Fun K "_law_unlit" "_law_unlit" s__law_unlit f fd) (T : Txt K mg) (R_InvalidNet : ErrT K mg "InvalidNet" C "what") (c_run_net : CalX P w K mg base 6 "run_net" (spRun K C)) : FnOk P w K mg base CX0 7 f fd ["net"] (spUnlit K) := by
  refine F.ok sc__law_unlit (fun vs H Q E h => ?_) (fun cdv A outer s H vs Q E hr h => ?_)
  · obtain ⟨v, n, rfl, _⟩ := h
    rfl
  · obtain ⟨v, n, rfl, hd, hs, hok, k⟩ := h
    refine ⟨_, (pss_cons (ps_try_as (i := 1) rfl rfl sc__law_unlit.nd rfl rfl ⟨rfl, by decide, .inl R_InvalidNet.gC⟩ takes0 (fun W pn xe tk po => (pss_one (ps_expr (pe_cx c_run_net hr (by omega) rfl tk (pa_cons (pv 0) (pa_cons pe_int (pa_cons (pe_lst pa_nil) pa_nil))))))) (fun a oe cls d pn hz hf => (pss_one (ps_ret (pe_xf R_InvalidNet.xf R_InvalidNet.no hz hf (pv 1))))))
      (pss_one (ps_ret pe_non))), ?_⟩
    refine ⟨_, rfl, Nat.zero_le _, fun p m => ?_⟩
    have s0 := same_new (o := HO.lst []) m
    refine ⟨v, .ref p, n, 0, [], rfl, dp_same s0 hd, hs, hok, by decide, .lst (SqL.of upd_same) .nil, Nat.zero_le _, fun _ H' d s1 hdd => ?_, fun q => absurd q (by decide), fun q => absurd q (by decide)⟩
    exact ⟨true, R_InvalidNet.te, fun _ a ha => ⟨_, rfl, rfl, rfl, d, _, _, rfl, hdd, rfl, k H' (s0.trans s1)⟩, fun q => Bool.noConfusion q⟩
end
end Q03



set_option pp.maxSteps 1500
namespace Q03
open PySem L2 G M03
open C8 (Cal Met Mak pe_c pe_mk pe_mt pe_mt0 pe_gc pss_cut tCut)
theorem catD {K : PySem.W.Frag} {H : Hp} {v u : V} {ds es : List PyData} {Q : VK} (h1 : Dp K H v (.tuple ds)) (h2 : Dp K H u (.tuple es)) (hl : ds.length + es.length ≤ 100000) (k : ∀ (z : V) (H' : Hp), Same H H' → Dp K H' z (.tuple (ds ++ es)) → Q z H') : rCatA K v u H Q := by
  obtain ⟨a, xs, rfl, ha, hxs⟩ := dp_tup h1
  obtain ⟨b, ys, rfl, hb, hys⟩ := dp_tup h2
  have l1 := dps_len hxs
  have l2 := dps_len hys
  refine ⟨a, b, xs, ys, rfl, rfl, ha, hb, size_of (by omega), fun e => ?_, fun _ e => ?_, fun _ _ p hp => ?_⟩
  · subst e
    cases hxs
    exact k _ _ (Same.refl _) h2
  · subst e
    cases hys
    rw [List.append_nil] at k
    exact k _ _ (Same.refl _) h1
  · exact k _ _ (same_new hp) (.tup (SqT.of upd_same) (dps_app (dps_same (same_new hp) hxs) (dps_same (same_new hp) hys)))
def wiresN (n : Net) : Int := w0 n + n.gates.length
def bents (n : Net) : List PyData := [netD { n with inp := -1 }, netD { n with firsts := n.firsts ++ [2], nexts := n.nexts ++ [0] }, netD { n with nexts := n.nexts ++ [0] }, netD { n with gates := n.gates ++ [(("and", [0, wiresN n]) : Gate)] }, netD { n with outs := n.outs ++ [wiresN n] },
  netD { n with gates := n.gates ++ [(("not", [0, 0]) : Gate)] }, netD { n with gates := n.gates ++ [(("nor", [0, 0]) : Gate)] }, .tuple [.int n.inp, .tuple (intsD n.firsts), .tuple (intsD n.nexts), .tuple (n.gates.map gateD)], netD { n with gates := n.gates ++ [(("mux", [0, 0, -1]) : Gate)] }]
def Small5 (n : Net) : Prop := n.firsts.length ≤ 500 ∧ n.nexts.length ≤ 500 ∧ n.gates.length ≤ 500 ∧ n.outs.length ≤ 500 ∧ ∀ g ∈ n.gates, g.2.length ≤ 1000 ∧ PyData.strOk g.1 = true
def BadD (d : PyData) : Prop := (∃ n, d = netD n ∧ SmallN n ∧ okNet n = false) ∨ ∃ ds, d = .tuple ds ∧ ds.length = 4
theorem small_gate {n : Net} {g : Gate} (hs : Small5 n) (h1 : g.2.length ≤ 1000) (h2 : PyData.strOk g.1 = true) : SmallN { n with gates := n.gates ++ [g] } := by
  obtain ⟨a, b, c, d, e⟩ := hs
  refine ⟨by show n.firsts.length ≤ 1000; omega, by show n.nexts.length ≤ 1000; omega, by show (n.gates ++ [g]).length ≤ 1000; rw [List.length_append, List.length_singleton]; omega, by show n.outs.length ≤ 1000; omega, fun x hx => ?_⟩
  rcases List.mem_append.mp hx with hx | hx
  · exact e x hx
  · rw [List.mem_singleton.mp hx]
    exact ⟨h1, h2⟩
theorem bad_gate {n : Net} {g : Gate} (h : okG (wiresN n) g = false) : okNet { n with gates := n.gates ++ [g] } = false := Bool.eq_false_iff.mpr fun q => by
  have e := (okNet_parts q).2.1
  have e : okGs (w0 n) (n.gates ++ [g]) = true := e
  rw [okGs_snoc, show w0 n + ((n.gates.length : Nat) : Int) = wiresN n from rfl, h, Bool.and_false] at e
  cases e
theorem bents_bad {n : Net} (hs : Small5 n) (hok : okNet n = true) : ∀ d ∈ bents n, BadD d := by
  obtain ⟨p0, hgs, hnl, hfi, hnx⟩ := okNet_parts hok
  obtain ⟨a, b, c, d, e⟩ := id hs
  have l1 : ∀ x : Int, (n.firsts ++ [x]).length ≤ 1000 := fun x => by rw [List.length_append, List.length_singleton]; omega
  have l2 : ∀ x : Int, (n.nexts ++ [x]).length ≤ 1000 := fun x => by rw [List.length_append, List.length_singleton]; omega
  have l3 : ∀ x : Int, (n.outs ++ [x]).length ≤ 1000 := fun x => by rw [List.length_append, List.length_singleton]; omega
  have a : n.firsts.length ≤ 1000 := by omega
  have b : n.nexts.length ≤ 1000 := by omega
  have c : n.gates.length ≤ 1000 := by omega
  have d : n.outs.length ≤ 1000 := by omega
  intro x hx
  unfold bents at hx
  simp only [List.mem_cons, List.not_mem_nil, or_false] at hx
  rcases hx with rfl | rfl | rfl | rfl | rfl | rfl | rfl | rfl | rfl
  · exact .inl ⟨{ n with inp := -1 }, rfl, ⟨a, b, c, d, e⟩, Bool.eq_false_iff.mpr fun q => absurd (okNet_parts q).1 (show ¬ (0 : Int) ≤ -1 by decide)⟩
  · refine .inl ⟨{ n with firsts := n.firsts ++ [2], nexts := n.nexts ++ [0] }, rfl, ⟨l1 _, l2 _, c, d, e⟩, Bool.eq_false_iff.mpr fun q => ?_⟩
    exact absurd ((okNet_parts q).2.2.2.1 2 (List.mem_append_right n.firsts (List.mem_singleton_self _))).2 (by decide)
  · refine .inl ⟨{ n with nexts := n.nexts ++ [0] }, rfl, ⟨a, l2 _, c, d, e⟩, Bool.eq_false_iff.mpr fun q => ?_⟩
    have z : (n.nexts ++ [0]).length = n.firsts.length := (okNet_parts q).2.2.1
    rw [List.length_append, List.length_singleton] at z
    omega
  · refine .inl ⟨{ n with gates := n.gates ++ [(("and", [0, wiresN n]) : Gate)] }, rfl, small_gate hs (show 2 ≤ 1000 by decide) (show PyData.strOk "and" = true by decide +kernel), bad_gate ?_⟩
    unfold okG
    rw [show ([0, wiresN n] : List Int).all (inR (wiresN n)) = false by simp [inR], Bool.and_false]
  · refine .inl ⟨{ n with outs := n.outs ++ [wiresN n] }, rfl, ⟨a, b, c, l3 _, e⟩, Bool.eq_false_iff.mpr fun q => ?_⟩
    have z := (okNet_parts q).2.2.2.2 (wiresN n) (List.mem_append_right n.nexts (List.mem_append_right n.outs (List.mem_singleton_self _)))
    have z : inR (wiresN n) (wiresN n) = true := z
    unfold inR at z
    simp at z
  · refine .inl ⟨{ n with gates := n.gates ++ [(("not", [0, 0]) : Gate)] }, rfl, small_gate hs (by decide) (by decide +kernel), bad_gate ?_⟩
    unfold okG
    rw [show decide ((("not" : Str), ([0, 0] : List Int).length + 1) ∈ sizes) = false by decide +kernel, Bool.false_and]
  · refine .inl ⟨{ n with gates := n.gates ++ [(("nor", [0, 0]) : Gate)] }, rfl, small_gate hs (by decide) (by decide +kernel), bad_gate ?_⟩
    unfold okG
    rw [show decide ((("nor" : Str), ([0, 0] : List Int).length + 1) ∈ sizes) = false by decide +kernel, Bool.false_and]
  · exact .inr ⟨_, rfl, rfl⟩
  · refine .inl ⟨{ n with gates := n.gates ++ [(("mux", [0, 0, -1]) : Gate)] }, rfl, small_gate hs (by decide) (by decide +kernel), bad_gate ?_⟩
    unfold okG
    rw [show ([0, 0, -1] : List Int).all (inR (wiresN n)) = false by simp [inR], Bool.and_false]
section
variable {P : Program} {w : World} {K : PySem.W.Frag} {mg : Str → Option Value} {base : Heap}
/-- a new tuple of data -/
theorem tupD {H : Hp} {p : Addr} {xs : List V} {ds : List PyData} (h : DpAll K H xs ds) (n : H p = none) : Same H (upd H p (.tup xs)) ∧ Dp K (upd H p (.tup xs)) (.ref p) (.tuple ds) :=
  ⟨same_new n, .tup (SqT.of upd_same) (dps_same (same_new n) h)⟩
theorem lstD {H : Hp} {p : Addr} {xs : List V} {ds : List PyData} (h : DpAll K H xs ds) (n : H p = none) : Same H (upd H p (.lst xs)) ∧ Dp K (upd H p (.lst xs)) (.ref p) (.list ds) :=
  ⟨same_new n, .lst (SqL.of upd_same) (dps_same (same_new n) h)⟩
/-! ### _law_bent -/
def spBent (K : PySem.W.Frag) : Sp := fun vs H Q _ => ∃ (dk : Addr) (v : V) (n : Net), vs = [.ref dk, v] ∧ Deck H dk ∧ Dp K H v (netD n) ∧ Small5 n ∧ okNet n = true ∧ ∀ (u : V) (d : PyData) (H' : Hp), But dk H H' → Deck H' dk → Dp K H' u d → BadD d → Q u H'
theorem ok_bent {f : Addr} {fd : FuncData} (F : Fun K "_law_bent" "_law_bent" s__law_bent f fd) (T : Txt K mg) (c__law_take : Cal P w K mg base 1 "_law_take" spTake []) : FnOk P w K mg base CX0 2 f fd ["deck", "net"] (spBent K) := by
  refine F.ok sc__law_bent (fun vs H Q E h => ?_) (fun cdv A outer s H vs Q E hr h => ?_)
  · obtain ⟨dk, v, n, rfl, _⟩ := h
    rfl
  · obtain ⟨dk, v, n, rfl, hk, hd, hs, hok, k⟩ := h
    obtain ⟨a, af, an, ag, ao, xg, rfl, hx, hF, hN, hG, hGs, hO⟩ := net_dp hd
    have hgl : xg.length = n.gates.length := by rw [dps_len hGs, List.length_map]
    refine ⟨_, (pss_cons (ps_asg (pv 1) (pg_tup rfl (pgs_cons (pg_name (i := 2) sc__law_bent.nd rfl (Or.inl rfl)) (pgs_cons (pg_name (i := 3) sc__law_bent.nd rfl (Or.inl rfl)) (pgs_cons (pg_name (i := 4) sc__law_bent.nd rfl (Or.inl rfl)) (pgs_cons (pg_name (i := 5) sc__law_bent.nd rfl (Or.inl rfl)) (pgs_cons (pg_name (i := 6) sc__law_bent.nd rfl (Or.inl rfl)) pgs_nil)))))))
      (pss_cons (ps_set (i := 7) sc__law_bent.nd rfl (Or.inl rfl) (pe_op op_add (pe_op op_add (pe_op op_add pe_int (pv 2)) (pe_callB call_len_seq (by rfl) T.b_len boot_len' (pa_cons (pv 3) pa_nil))) (pe_callB call_len_seq (by rfl) T.b_len boot_len' (pa_cons (pv 5) pa_nil))))
      (pss_cons (ps_set (i := 8) sc__law_bent.nd rfl (Or.inl rfl) (pe_c c__law_take hr (by omega) rfl (pa_cons (pv 0) (pa_cons pe_int pa_nil))))
      (pss_cons (ps_set (i := 9) sc__law_bent.nd rfl (Or.inl rfl) (pe_lst (pa_cons (pe_tup (pa_cons (pe_un un_neg pe_int) (pa_cons (pv 3) (pa_cons (pv 4) (pa_cons (pv 5) (pa_cons (pv 6) pa_nil)))))) (pa_cons (pe_tup (pa_cons (pv 2) (pa_cons (pe_op op_catA (pv 3) (pe_tup (pa_cons pe_int pa_nil))) (pa_cons (pe_op op_catA (pv 4) (pe_tup (pa_cons pe_int pa_nil))) (pa_cons (pv 5) (pa_cons (pv 6) pa_nil)))))) (pa_cons (pe_tup (pa_cons (pv 2) (pa_cons (pv 3) (pa_cons (pe_op op_catA (pv 4) (pe_tup (pa_cons pe_int pa_nil))) (pa_cons (pv 5) (pa_cons (pv 6) pa_nil)))))) pa_nil)))))
      (pss_cons (ps_set (i := 9) sc__law_bent.nd rfl (Or.inl rfl) (pe_op op_cat (pv 9) (pe_lst (pa_cons (pe_tup (pa_cons (pv 2) (pa_cons (pv 3) (pa_cons (pv 4) (pa_cons (pe_op op_catA (pv 5) (pe_tup (pa_cons (pe_tup (pa_cons pe_str (pa_cons pe_int (pa_cons (pv 7) pa_nil)))) pa_nil))) (pa_cons (pv 6) pa_nil)))))) (pa_cons (pe_tup (pa_cons (pv 2) (pa_cons (pv 3) (pa_cons (pv 4) (pa_cons (pv 5) (pa_cons (pe_op op_catA (pv 6) (pe_tup (pa_cons (pv 7) pa_nil))) pa_nil)))))) pa_nil)))))
      (pss_cons (ps_set (i := 9) sc__law_bent.nd rfl (Or.inl rfl) (pe_op op_cat (pv 9) (pe_lst (pa_cons (pe_tup (pa_cons (pv 2) (pa_cons (pv 3) (pa_cons (pv 4) (pa_cons (pe_op op_catA (pv 5) (pe_tup (pa_cons (pe_tup (pa_cons pe_str (pa_cons pe_int (pa_cons pe_int pa_nil)))) pa_nil))) (pa_cons (pv 6) pa_nil)))))) (pa_cons (pe_tup (pa_cons (pv 2) (pa_cons (pv 3) (pa_cons (pv 4) (pa_cons (pe_op op_catA (pv 5) (pe_tup (pa_cons (pe_tup (pa_cons pe_str (pa_cons pe_int (pa_cons pe_int pa_nil)))) pa_nil))) (pa_cons (pv 6) pa_nil)))))) pa_nil)))))
      (pss_cons (ps_set (i := 9) sc__law_bent.nd rfl (Or.inl rfl) (pe_op op_cat (pv 9) (pe_lst (pa_cons (pe_tup (pa_cons (pv 2) (pa_cons (pv 3) (pa_cons (pv 4) (pa_cons (pv 5) pa_nil))))) (pa_cons (pe_tup (pa_cons (pv 2) (pa_cons (pv 3) (pa_cons (pv 4) (pa_cons (pe_op op_catA (pv 5) (pe_tup (pa_cons (pe_tup (pa_cons pe_str (pa_cons pe_int (pa_cons pe_int (pa_cons (pe_un un_neg pe_int) pa_nil))))) pa_nil))) (pa_cons (pv 6) pa_nil)))))) pa_nil)))))
      (pss_one (ps_ret (pe_ix ix_list (pv 9) (pv 8) (fun _ _ => rfl))))))))))), ?_⟩
    refine ⟨_, rfl, a, _, rfl, hx, rfl, ?_⟩
    refine ⟨_, _, rfl, _, _, rfl, _, _, rfl, _, _, rfl, _, _, rfl, rfl, ?_⟩
    refine ⟨_, rfl, _, _, rfl, rfl, _, rfl, af, _, rfl, .inr hF, _, _, rfl, rfl, _, rfl, ag, _, rfl, .inr hG, _, _, rfl, rfl, ?_⟩
    rw [List.length_map, hgl]
    change gName 7 (.int (wiresN n)) _ _ _
    refine ⟨_, rfl, dk, 9, rfl, by decide, hk, fun way H1 w0' w1 b1 k1 => ?_⟩
    have K1 := KeepT.of_but hk b1
    have dF : Dp K H1 (.ref af) (.tuple (intsD n.firsts)) := .tup (SqT.keep K1 hF) (dps_ints _)
    have dN : Dp K H1 (.ref an) (.tuple (intsD n.nexts)) := .tup (SqT.keep K1 hN) (dps_ints _)
    have dG : Dp K H1 (.ref ag) (.tuple (n.gates.map gateD)) := dp_keep K1 (noL_gates _) (.tup hG hGs)
    have dO : Dp K H1 (.ref ao) (.tuple (intsD n.outs)) := .tup (SqT.keep K1 hO) (dps_ints _)
    -- (-1, ..)
    refine ⟨_, rfl, _, rfl, _, rfl, _, rfl, _, rfl, (show 5 ≤ sizeLine by decide), fun p0 m0 => ?_⟩
    obtain ⟨s0, e0⟩ := tupD (K := K) (.cons (.int (-1)) (.cons dF (.cons dN (.cons dG (.cons dO .nil))))) m0
    -- (inputs, firsts + (2,), nexts + (0,), gates, outputs)
    refine ⟨_, rfl, _, rfl, (show 1 ≤ sizeLine by decide), fun q1 j1 => ?_⟩
    obtain ⟨s1, e1⟩ := tupD (K := K) (.cons (.int 2) .nil) j1
    refine catD (dp_same (s0.trans s1) dF) e1 (by rw [intsD, List.length_map]; have := hs.1; simp only [List.length_singleton]; omega) fun z1 H2 s2 f1 => ?_
    have S2 := (s0.trans s1).trans s2
    refine ⟨_, rfl, (show 1 ≤ sizeLine by decide), fun q2 j2 => ?_⟩
    obtain ⟨s3, e3⟩ := tupD (K := K) (.cons (.int 0) .nil) j2
    refine catD (dp_same (S2.trans s3) dN) e3 (by rw [intsD, List.length_map]; have := hs.2.1; simp only [List.length_singleton]; omega) fun z2 H3 s4 f2 => ?_
    have S4 := (S2.trans s3).trans s4
    refine ⟨_, rfl, _, rfl, (show 5 ≤ sizeLine by decide), fun p1 m1 => ?_⟩
    obtain ⟨s5, r1⟩ := tupD (K := K) (.cons (.int n.inp) (.cons (dp_same (s3.trans s4) f1) (.cons f2 (.cons (dp_same S4 dG) (.cons (dp_same S4 dO) .nil))))) m1
    have S5 := S4.trans s5
    -- (inputs, firsts, nexts + (0,), gates, outputs)
    refine ⟨_, rfl, _, rfl, _, rfl, (show 1 ≤ sizeLine by decide), fun q3 j3 => ?_⟩
    obtain ⟨s6, e6⟩ := tupD (K := K) (.cons (.int 0) .nil) j3
    refine catD (dp_same (S5.trans s6) dN) e6 (by rw [intsD, List.length_map]; have := hs.2.1; simp only [List.length_singleton]; omega) fun z3 H4 s7 f3 => ?_
    have S7 := (S5.trans s6).trans s7
    refine ⟨_, rfl, _, rfl, (show 5 ≤ sizeLine by decide), fun p2 m2 => ?_⟩
    obtain ⟨s8, r2⟩ := tupD (K := K) (.cons (.int n.inp) (.cons (dp_same S7 dF) (.cons f3 (.cons (dp_same S7 dG) (.cons (dp_same S7 dO) .nil))))) m2
    have S8 := S7.trans s8
    -- rows
    refine ⟨(show 3 ≤ sizeLine by decide), fun l0 k0 => ?_⟩
    have s9 := same_new (o := HO.lst [V.ref p0, V.ref p1, V.ref p2]) k0
    have L0 := dps_same s9 (DpAll.cons (dp_same (((((((s1.trans s2).trans s3).trans s4).trans s5).trans s6).trans s7).trans s8) e0) (.cons (dp_same ((s6.trans s7).trans s8) r1) (.cons r2 .nil)))
    have S9 := S8.trans s9
    have h0 : upd (upd H4 p2 (.tup [V.int n.inp, V.ref af, z3, V.ref ag, V.ref ao])) l0 (.lst [V.ref p0, V.ref p1, V.ref p2]) l0 = some (.lst [V.ref p0, V.ref p1, V.ref p2]) := upd_same
    generalize upd (upd H4 p2 (.tup [V.int n.inp, V.ref af, z3, V.ref ag, V.ref ao])) l0 (.lst [V.ref p0, V.ref p1, V.ref p2]) = G0 at L0 S9 h0
    clear e0 e1 f1 e3 f2 e6 f3 r1 r2
    refine ⟨_, rfl, _, rfl, _, rfl, _, rfl, _, rfl, _, rfl, (show 3 ≤ sizeLine by decide), fun q_1 j_2 => ?_⟩
    obtain ⟨a_11, e_9⟩ := tupD (K := K) (ds := [.str "and", .int 0, .int (wiresN n)]) (.cons (.str _) (.cons (.int _) (.cons (.int _) .nil))) j_2
    refine ⟨(show 1 ≤ sizeLine by decide), fun q_3 j_4 => ?_⟩
    obtain ⟨a_12, e_10⟩ := tupD (K := K) (.cons e_9 .nil) j_4
    refine catD (dp_same ((S9.trans a_11).trans a_12) dG) e_10 (by rw [List.length_map]; have := hs.2.2.1; simp only [List.length_singleton]; omega) fun z_5 H_16 s_13 f_6 => ?_
    have T_17 := ((S9.trans a_11).trans a_12).trans s_13
    refine ⟨_, rfl, (show 5 ≤ sizeLine by decide), fun p_7 m_8 => ?_⟩
    obtain ⟨s_15, r_14⟩ := tupD (K := K) (.cons (.int n.inp) (.cons (dp_same T_17 dF) (.cons (dp_same T_17 dN) (.cons f_6 (.cons (dp_same T_17 dO) .nil))))) m_8
    have T_18 := T_17.trans s_15
    refine ⟨_, rfl, _, rfl, _, rfl, _, rfl, _, rfl, _, rfl, (show 1 ≤ sizeLine by decide), fun q_19 j_20 => ?_⟩
    obtain ⟨a_26, e_25⟩ := tupD (K := K) (ds := [.int (wiresN n)]) (.cons (.int _) .nil) j_20
    refine catD (dp_same (T_18.trans a_26) dO) e_25 (by rw [intsD, List.length_map]; have := hs.2.2.2.1; simp only [List.length_singleton]; omega) fun z_21 H_30 s_27 f_22 => ?_
    have T_31 := (T_18.trans a_26).trans s_27
    refine ⟨(show 5 ≤ sizeLine by decide), fun p_23 m_24 => ?_⟩
    obtain ⟨s_29, r_28⟩ := tupD (K := K) (.cons (.int n.inp) (.cons (dp_same T_31 dF) (.cons (dp_same T_31 dN) (.cons (dp_same T_31 dG) (.cons f_22 .nil))))) m_24
    have T_32 := T_31.trans s_29
    refine ⟨(show 2 ≤ sizeLine by decide), fun l_33 k_34 => ?_⟩
    have u_35 := same_new (o := HO.lst [V.ref p_7, V.ref p_23]) k_34
    refine ⟨l0, l_33, [V.ref p0, V.ref p1, V.ref p2], [V.ref p_7, V.ref p_23], rfl, rfl, (((((a_11.trans a_12).trans s_13).trans s_15).trans ((a_26.trans s_27).trans s_29)).trans u_35) _ _ h0, upd_same, (show 5 ≤ sizeLine by decide), fun l_36 k_37 => ?_⟩
    have u_38 := same_new (o := HO.lst ([V.ref p0, V.ref p1, V.ref p2] ++ [V.ref p_7, V.ref p_23])) k_37
    have S_39 := (T_32.trans u_35).trans u_38
    have L_42 := dps_app (dps_same ((((((a_11.trans a_12).trans s_13).trans s_15).trans ((a_26.trans s_27).trans s_29)).trans u_35).trans u_38) L0) (DpAll.cons (dp_same ((((a_26.trans s_27).trans s_29).trans u_35).trans u_38) r_14) (.cons (dp_same (u_35.trans u_38) r_28) .nil))
    have h_l_36 := (fun (Hx : Hp) => upd_same (H := Hx) (a := l_36) (o := HO.lst ([V.ref p0, V.ref p1, V.ref p2] ++ [V.ref p_7, V.ref p_23])))
    refine ⟨_, rfl, _, rfl, _, rfl, _, rfl, _, rfl, (show 3 ≤ sizeLine by decide), fun q_43 j_44 => ?_⟩
    obtain ⟨a_53, e_51⟩ := tupD (K := K) (ds := [.str "not", .int 0, .int 0]) (.cons (.str _) (.cons (.int _) (.cons (.int _) .nil))) j_44
    refine ⟨(show 1 ≤ sizeLine by decide), fun q_45 j_46 => ?_⟩
    obtain ⟨a_54, e_52⟩ := tupD (K := K) (.cons e_51 .nil) j_46
    refine catD (dp_same ((S_39.trans a_53).trans a_54) dG) e_52 (by rw [List.length_map]; have := hs.2.2.1; simp only [List.length_singleton]; omega) fun z_47 H_58 s_55 f_48 => ?_
    have T_59 := ((S_39.trans a_53).trans a_54).trans s_55
    refine ⟨_, rfl, (show 5 ≤ sizeLine by decide), fun p_49 m_50 => ?_⟩
    obtain ⟨s_57, r_56⟩ := tupD (K := K) (.cons (.int n.inp) (.cons (dp_same T_59 dF) (.cons (dp_same T_59 dN) (.cons f_48 (.cons (dp_same T_59 dO) .nil))))) m_50
    have T_60 := T_59.trans s_57
    refine ⟨_, rfl, _, rfl, _, rfl, _, rfl, (show 3 ≤ sizeLine by decide), fun q_61 j_62 => ?_⟩
    obtain ⟨a_71, e_69⟩ := tupD (K := K) (ds := [.str "nor", .int 0, .int 0]) (.cons (.str _) (.cons (.int _) (.cons (.int _) .nil))) j_62
    refine ⟨(show 1 ≤ sizeLine by decide), fun q_63 j_64 => ?_⟩
    obtain ⟨a_72, e_70⟩ := tupD (K := K) (.cons e_69 .nil) j_64
    refine catD (dp_same ((T_60.trans a_71).trans a_72) dG) e_70 (by rw [List.length_map]; have := hs.2.2.1; simp only [List.length_singleton]; omega) fun z_65 H_76 s_73 f_66 => ?_
    have T_77 := ((T_60.trans a_71).trans a_72).trans s_73
    refine ⟨_, rfl, (show 5 ≤ sizeLine by decide), fun p_67 m_68 => ?_⟩
    obtain ⟨s_75, r_74⟩ := tupD (K := K) (.cons (.int n.inp) (.cons (dp_same T_77 dF) (.cons (dp_same T_77 dN) (.cons f_66 (.cons (dp_same T_77 dO) .nil))))) m_68
    have T_78 := T_77.trans s_75
    refine ⟨(show 2 ≤ sizeLine by decide), fun l_79 k_80 => ?_⟩
    have u_81 := same_new (o := HO.lst [V.ref p_49, V.ref p_67]) k_80
    refine ⟨l_36, l_79, [V.ref p0, V.ref p1, V.ref p2, V.ref p_7, V.ref p_23], [V.ref p_49, V.ref p_67], rfl, rfl, (((((a_53.trans a_54).trans s_55).trans s_57).trans (((a_71.trans a_72).trans s_73).trans s_75)).trans u_81) _ _ (h_l_36 _), upd_same, (show 7 ≤ sizeLine by decide), fun l_82 k_83 => ?_⟩
    have u_84 := same_new (o := HO.lst ([V.ref p0, V.ref p1, V.ref p2, V.ref p_7, V.ref p_23] ++ [V.ref p_49, V.ref p_67])) k_83
    have S_85 := (T_78.trans u_81).trans u_84
    have L_88 := dps_app (dps_same ((((((a_53.trans a_54).trans s_55).trans s_57).trans (((a_71.trans a_72).trans s_73).trans s_75)).trans u_81).trans u_84) L_42) (DpAll.cons (dp_same (((((a_71.trans a_72).trans s_73).trans s_75).trans u_81).trans u_84) r_56) (.cons (dp_same (u_81.trans u_84) r_74) .nil))
    have h_l_82 := (fun (Hx : Hp) => upd_same (H := Hx) (a := l_82) (o := HO.lst ([V.ref p0, V.ref p1, V.ref p2, V.ref p_7, V.ref p_23] ++ [V.ref p_49, V.ref p_67])))
    refine ⟨_, rfl, _, rfl, _, rfl, _, rfl, _, rfl, (show 4 ≤ sizeLine by decide), fun p_89 m_90 => ?_⟩
    obtain ⟨s_91, r_92⟩ := tupD (K := K) (.cons (.int n.inp) (.cons (dp_same S_85 dF) (.cons (dp_same S_85 dN) (.cons (dp_same S_85 dG) .nil)))) m_90
    have T_93 := S_85.trans s_91
    refine ⟨_, rfl, _, rfl, _, rfl, _, rfl, _, rfl, (show 4 ≤ sizeLine by decide), fun q_94 j_95 => ?_⟩
    obtain ⟨a_104, e_102⟩ := tupD (K := K) (ds := [.str "mux", .int 0, .int 0, .int (-1)]) (.cons (.str _) (.cons (.int _) (.cons (.int _) (.cons (.int _) .nil)))) j_95
    refine ⟨(show 1 ≤ sizeLine by decide), fun q_96 j_97 => ?_⟩
    obtain ⟨a_105, e_103⟩ := tupD (K := K) (.cons e_102 .nil) j_97
    refine catD (dp_same ((T_93.trans a_104).trans a_105) dG) e_103 (by rw [List.length_map]; have := hs.2.2.1; simp only [List.length_singleton]; omega) fun z_98 H_109 s_106 f_99 => ?_
    have T_110 := ((T_93.trans a_104).trans a_105).trans s_106
    refine ⟨_, rfl, (show 5 ≤ sizeLine by decide), fun p_100 m_101 => ?_⟩
    obtain ⟨s_108, r_107⟩ := tupD (K := K) (.cons (.int n.inp) (.cons (dp_same T_110 dF) (.cons (dp_same T_110 dN) (.cons f_99 (.cons (dp_same T_110 dO) .nil))))) m_101
    have T_111 := T_110.trans s_108
    refine ⟨(show 2 ≤ sizeLine by decide), fun l_112 k_113 => ?_⟩
    have u_114 := same_new (o := HO.lst [V.ref p_89, V.ref p_100]) k_113
    refine ⟨l_82, l_112, [V.ref p0, V.ref p1, V.ref p2, V.ref p_7, V.ref p_23, V.ref p_49, V.ref p_67], [V.ref p_89, V.ref p_100], rfl, rfl, ((s_91.trans (((a_104.trans a_105).trans s_106).trans s_108)).trans u_114) _ _ (h_l_82 _), upd_same, (show 9 ≤ sizeLine by decide), fun l_115 k_116 => ?_⟩
    have u_117 := same_new (o := HO.lst ([V.ref p0, V.ref p1, V.ref p2, V.ref p_7, V.ref p_23, V.ref p_49, V.ref p_67] ++ [V.ref p_89, V.ref p_100])) k_116
    have S_118 := (T_111.trans u_114).trans u_117
    have L_121 := dps_app (dps_same (((s_91.trans (((a_104.trans a_105).trans s_106).trans s_108)).trans u_114).trans u_117) L_88) (DpAll.cons (dp_same (((((a_104.trans a_105).trans s_106).trans s_108).trans u_114).trans u_117) r_92) (.cons (dp_same (u_114.trans u_117) r_107) .nil))
    have h_l_115 := (fun (Hx : Hp) => upd_same (H := Hx) (a := l_115) (o := HO.lst ([V.ref p0, V.ref p1, V.ref p2, V.ref p_7, V.ref p_23, V.ref p_49, V.ref p_67] ++ [V.ref p_89, V.ref p_100])))
    have LB : ∀ {Hx : Hp} {xs : List V} {ds : List PyData}, ds = bents n → DpAll K Hx xs ds → DpAll K Hx xs (bents n) := fun e h => e ▸ h
    have LL := LB (by simp only [bents, netD, intsD, gateD, List.map_append, List.map_cons, List.map_nil, List.cons_append, List.nil_append]) L_121
    have wl : way.toNat < (bents n).length := (show way.toNat < 9 by omega)
    obtain ⟨u, hu, du⟩ := dps_get LL (List.getElem?_eq_getElem wl)
    refine ⟨_, rfl, _, rfl, l_115, _, way, u, rfl, rfl, SqL.of upd_same, ?_, ?_⟩
    · obtain ⟨m, hm⟩ := Int.eq_ofNat_of_zero_le w0'
      subst hm
      exact atI_nat hu
    · exact k u _ _ (b1.trans (But.of S_118)) (k1.same S_118) du (bents_bad hs hok _ (List.getElem_mem wl))
end
end Q03



set_option pp.maxSteps 1500
namespace Q03
open PySem L2 G M03
open C8 (Cal Met Mak pe_c pe_mk pe_mt pe_mt0 pe_gc pss_cut tCut)
/-! ### the plain law: a step in words is the lanes' steps side by side -/
theorem pk_zero : ∀ n, pk (fun _ => 0) n = 0
  | 0 => rfl
  | n + 1 => by
    show pk _ n + 0 * 2 ^ n = 0
    rw [pk_zero n]
    omega
/-- rows of bits, all of one length -/
structure Lanes (L m : Nat) (rows : List (List Int)) : Prop where
  len : rows.length = L
  each : ∀ l, l < L → (rows.getD l []).length = m
  bit : ∀ l, l < L → Bits (rows.getD l [])
theorem getD_app (xs ys : List Int) (w : Nat) : (xs ++ ys).getD w 0 = if w < xs.length then xs.getD w 0 else ys.getD (w - xs.length) 0 := by
  simp only [List.getD_eq_getElem?_getD, List.getElem?_append]
  split <;> rfl
theorem side0 {L ni nf : Nat} {bt st : List (List Int)} (hb : Lanes L ni bt) (hs : Lanes L nf st) : Side L (0 :: (words bt ni ++ words st nf)) (fun l => 0 :: (bt.getD l [] ++ st.getD l [])) := by
  refine ⟨fun l hl => ?_, fun w hw => ?_, fun l hl w => ?_⟩
  · simp only [List.length_cons, List.length_append, words_len, hb.each l hl, hs.each l hl]
  · cases w with
    | zero => exact (pk_zero L).symm
    | succ w =>
      show (words bt ni ++ words st nf).getD w 0 = pk (fun l => (bt.getD l [] ++ st.getD l []).getD w 0) L
      rw [getD_app, words_len]
      by_cases h1 : w < ni
      · rw [if_pos h1, words_at bt h1, hb.len]
        exact pk_congr fun l hl => by rw [getD_app, hb.each l hl, if_pos h1]
      · have h2 : w - ni < nf := by
          simp only [List.length_cons, List.length_append, words_len] at hw
          omega
        rw [if_neg h1, words_at st h2, hs.len]
        exact pk_congr fun l hl => by rw [getD_app, hb.each l hl, if_neg h1]
  · cases w with
    | zero => exact .inl rfl
    | succ w =>
      show Bit ((bt.getD l [] ++ st.getD l []).getD w 0)
      rw [getD_app]
      split
      · exact hb.bit l hl w
      · exact hs.bit l hl _
/-- the lanes' answers -/
def rowsL (n : Net) (L : Nat) (st bt : List (List Int)) (ws : List Int) : List (List Int) := (List.range L).map fun l => outsOf (valsL n (st.getD l []) (bt.getD l [])) ws
theorem rowsL_at (n : Net) (st bt : List (List Int)) (ws : List Int) {L l : Nat} (h : l < L) : (rowsL n L st bt ws).getD l [] = outsOf (valsL n (st.getD l []) (bt.getD l [])) ws := by
  unfold rowsL
  rw [List.getD_eq_getElem?_getD, List.getElem?_map, List.getElem?_range h]
  rfl
theorem outsOf_getD (xs ws : List Int) {k : Nat} (h : k < ws.length) : (outsOf xs ws).getD k 0 = nth xs (ws.getD k 0) := by
  unfold outsOf
  rw [List.getD_eq_getElem?_getD, List.getElem?_map, List.getD_eq_getElem?_getD, List.getElem?_eq_getElem h]
  rfl
theorem step_side {n : Net} {L ni nf : Nat} {bt st : List (List Int)} (hb : Lanes L ni bt) (hs : Lanes L nf st) (hi : (ni : Int) = n.inp) (hf : nf = n.firsts.length) (hok : okNet n = true) :
    Side L (valsW n L (words st nf) (words bt ni)) (fun l => valsL n (st.getD l []) (bt.getD l [])) := by
  have h0 := side0 hb hs
  refine Side.run (gs := n.gates) h0 ?_
  have e : ((0 :: (words bt ni ++ words st nf)).length : Int) = w0 n := by
    unfold w0
    simp only [List.length_cons, List.length_append, words_len]
    omega
  rw [e]
  exact (okNet_parts hok).2.1
theorem step_words {n : Net} {L ni nf : Nat} {bt st : List (List Int)} (hb : Lanes L ni bt) (hs : Lanes L nf st) (hi : (ni : Int) = n.inp) (hf : nf = n.firsts.length) (hok : okNet n = true) {ws : List Int} (hw : ∀ x ∈ ws, inR (w0 n + n.gates.length) x = true) :
    outsOf (valsW n L (words st nf) (words bt ni)) ws = words (rowsL n L st bt ws) ws.length ∧ Lanes L ws.length (rowsL n L st bt ws) := by
  have S := step_side hb hs hi hf hok
  have vl : ((valsW n L (words st nf) (words bt ni)).length : Int) = w0 n + n.gates.length := by
    unfold valsW w0
    rw [runG_len]
    simp only [List.length_cons, List.length_append, words_len]
    omega
  have rl : (rowsL n L st bt ws).length = L := by simp [rowsL]
  refine ⟨List.ext_getElem? fun k => ?_, rl, fun l hl => ?_, fun l hl w => ?_⟩
  · by_cases hk : k < ws.length
    · have a : (outsOf (valsW n L (words st nf) (words bt ni)) ws).getD k 0 = (words (rowsL n L st bt ws) ws.length).getD k 0 := by
        rw [outsOf_getD _ _ hk, words_at _ hk, rl]
        have hin := hw (ws.getD k 0) (by
          rw [List.getD_eq_getElem?_getD, List.getElem?_eq_getElem hk]
          exact List.getElem_mem hk)
        rw [S.nth (by rw [vl]; exact hin)]
        exact pk_congr fun l hl => by rw [rowsL_at n st bt ws hl, outsOf_getD _ _ hk]
      have l1 : k < (outsOf (valsW n L (words st nf) (words bt ni)) ws).length := by simpa [outsOf] using hk
      have l2 : k < (words (rowsL n L st bt ws) ws.length).length := by rw [words_len]; exact hk
      rw [List.getElem?_eq_getElem l1, List.getElem?_eq_getElem l2]
      rw [List.getD_eq_getElem?_getD, List.getD_eq_getElem?_getD, List.getElem?_eq_getElem l1, List.getElem?_eq_getElem l2] at a
      exact congrArg some a
    · rw [List.getElem?_eq_none (by simp [outsOf]; omega), List.getElem?_eq_none (by rw [words_len]; omega)]
  · rw [rowsL_at n st bt ws hl]
    simp [outsOf]
  · rw [rowsL_at n st bt ws hl]
    by_cases hk : w < ws.length
    · rw [outsOf_getD _ _ hk]
      exact S.bit l hl _
    · rw [List.getD_eq_getElem?_getD, List.getElem?_eq_none (by simp [outsOf]; omega)]
      exact .inl rfl
theorem words_good {L m : Nat} {rows : List (List Int)} (h : Lanes L m rows) : goodNs L m (words rows m) = true := by
  unfold goodNs
  rw [words_len, decide_eq_true rfl, Bool.true_and, List.all_eq_true]
  intro x hx
  obtain ⟨k, hk⟩ := List.mem_iff_getElem?.mp hx
  have hkm : k < m := by
    have := (List.getElem?_eq_some_iff.mp hk).1
    rw [words_len] at this
    exact this
  have e : x = pk (fun l => (rows.getD l []).getD k 0) L := by
    have := words_at rows hkm
    rw [List.getD_eq_getElem?_getD, hk, h.len] at this
    exact this
  obtain ⟨r0, r1⟩ := pk_range (f := fun l => (rows.getD l []).getD k 0) (n := L) fun l hl => h.bit l hl k
  rw [← e] at r0 r1
  unfold goodN
  rw [decide_eq_true r0, show x / 2 ^ ((L : Nat) : Int).toNat = 0 from Int.ediv_eq_zero_of_lt r0 r1]
  rfl
theorem pk_const (c : Int) : ∀ L, pk (fun _ => c) L = (2 ^ L - 1) * c
  | 0 => by simp [pk]
  | n + 1 => by
    show pk _ n + c * 2 ^ n = (2 ^ (n + 1) - 1) * c
    rw [pk_const c n, Int.pow_succ]
    generalize (2 : Int) ^ n = t
    have e : t * 2 * c = t * c + t * c := by
      rw [Int.mul_comm t 2, Int.mul_assoc]
      omega
    rw [Int.sub_mul, Int.sub_mul, Int.one_mul, e, Int.mul_comm c t]
    omega
theorem firsts_words {n : Net} {L : Nat} : firstsW n L = words (List.replicate L n.firsts) n.firsts.length := by
  refine List.ext_getElem? fun k => ?_
  by_cases hk : k < n.firsts.length
  · have l1 : k < (words (List.replicate L n.firsts) n.firsts.length).length := by rw [words_len]; exact hk
    have a := words_at (List.replicate L n.firsts) hk
    rw [List.getD_eq_getElem?_getD, List.getElem?_eq_getElem l1, List.length_replicate] at a
    rw [List.getElem?_eq_getElem l1]
    have b : (words (List.replicate L n.firsts) n.firsts.length)[k] = pk (fun l => ((List.replicate L n.firsts).getD l []).getD k 0) L := a
    rw [b]
    unfold firstsW
    rw [List.getElem?_map, List.getElem?_eq_getElem hk]
    have c : pk (fun l => ((List.replicate L n.firsts).getD l []).getD k 0) L = pk (fun _ => n.firsts[k]) L := pk_congr fun l hl => by
      rw [List.getD_eq_getElem?_getD (l := List.replicate L n.firsts), List.getElem?_replicate, if_pos hl]
      show n.firsts.getD k 0 = _
      rw [List.getD_eq_getElem?_getD, List.getElem?_eq_getElem hk]
      rfl
    rw [c, pk_const]
    rfl
  · rw [List.getElem?_eq_none (by simp [firstsW]; omega), List.getElem?_eq_none (by rw [words_len]; omega)]
end Q03



set_option pp.maxSteps 1500
namespace Q03
open PySem L2 G M03
open C8 (Cal Met Mak pe_c pe_mk pe_mt pe_mt0 pe_gc pss_cut tCut)
theorem del1_same {H H' : Hp} {a : Addr} (s : Same H H') : Same (del1 H a) (del1 H' a) := fun b o e => by
  by_cases z : b = a
  · rw [z, del1_at] at e
    cases e
  · rw [del1_ne z] at e ⊢
    exact s b o e
theorem dp_del1 {K : PySem.W.Frag} {H : Hp} {a l : Addr} {xs : List Int} (n : l ≠ a) (h : H l = some (.lst (xs.map V.int))) : Dp K (del1 H a) (.ref l) (listD xs) := dp_listD (by rw [del1_ne n]; exact h)
/-! ### three lists that change, all else is data -/
def del3 (H : Hp) (a b c : Addr) : Hp := fun x => if x = a ∨ x = b ∨ x = c then none else H x
theorem del3_ne {H : Hp} {a b c x : Addr} (h1 : x ≠ a) (h2 : x ≠ b) (h3 : x ≠ c) : del3 H a b c x = H x := if_neg (fun z => by rcases z with z | z | z <;> contradiction)
structure Hole (dk pi pd : Addr) (G H : Hp) (xi xd : List V) : Prop where
  keep : Same G H
  gk : G dk = none
  gi : G pi = none
  gd : G pd = none
  deck : Deck H dk
  hi : H pi = some (.lst xi)
  hd : H pd = some (.lst xd)
theorem Hole.step {dk pi pd : Addr} {G H H' : Hp} {xi xd xi' xd' : List V} (h : Hole dk pi pd G H xi xd) (k : ∀ b o, b ≠ dk → b ≠ pi → b ≠ pd → H b = some o → H' b = some o) (d : Deck H' dk) (hi : H' pi = some (.lst xi')) (hd : H' pd = some (.lst xd')) :
    Hole dk pi pd (del3 H' dk pi pd) H' xi' xd' ∧ Same G (del3 H' dk pi pd) := by
  refine ⟨⟨fun b o e => ?_, if_pos (.inl rfl), if_pos (.inr (.inl rfl)), if_pos (.inr (.inr rfl)), d, hi, hd⟩, fun b o e => ?_⟩
  · unfold del3 at e
    split at e
    · cases e
    · exact e
  · have n1 : b ≠ dk := fun z => by rw [z, h.gk] at e; cases e
    have n2 : b ≠ pi := fun z => by rw [z, h.gi] at e; cases e
    have n3 : b ≠ pd := fun z => by rw [z, h.gd] at e; cases e
    rw [del3_ne n1 n2 n3]
    exact k b o n1 n2 n3 (h.keep _ _ e)
/-! ### data of numbers in lists and tuples, made plain -/
mutual
def numD : Nat → PyData → Bool
  | _, .int _ => true
  | n + 1, .list ds => decide (ds.length ≤ 10000) && numDs n ds
  | n + 1, .tuple ds => decide (ds.length ≤ 10000) && numDs n ds
  | _, _ => false
def numDs : Nat → List PyData → Bool
  | _, [] => true
  | n, d :: r => numD n d && numDs n r
end
mutual
theorem num_flat : ∀ {n : Nat} {d : PyData}, numD n d = true → flat (n + 1) (plain d) = true ∧ tall d n
  | n, .int _, _ => ⟨rfl, by cases n <;> trivial⟩
  | n + 1, .list ds, h => by
    simp only [numD, Bool.and_eq_true, decide_eq_true_eq] at h
    obtain ⟨a, c⟩ := nums_flat h.2
    exact ⟨by show (flat (n + 1) (.bool true) && flats (n + 1) (plains ds)) = true; rw [a]; rfl, h.1, c⟩
  | n + 1, .tuple ds, h => by
    simp only [numD, Bool.and_eq_true, decide_eq_true_eq] at h
    obtain ⟨a, c⟩ := nums_flat h.2
    exact ⟨by show (flat (n + 1) (.bool false) && flats (n + 1) (plains ds)) = true; rw [a]; rfl, h.1, c⟩
  | 0, .list _, h => by simp [numD] at h
  | 0, .tuple _, h => by simp [numD] at h
  | _, .none, h => by simp [numD] at h
  | _, .bool _, h => by simp [numD] at h
  | _, .str _, h => by simp [numD] at h
  | _, .dict _, h => by simp [numD] at h
theorem nums_flat : ∀ {n : Nat} {ds : List PyData}, numDs n ds = true → flats (n + 1) (plains ds) = true ∧ talls ds n
  | n, [], _ => ⟨rfl, by cases n <;> trivial⟩
  | n, d :: r, h => by
    simp only [numDs, Bool.and_eq_true] at h
    obtain ⟨a, c⟩ := num_flat h.1
    obtain ⟨a', c'⟩ := nums_flat h.2
    exact ⟨by show (flat (n + 1) (plain d) && flats (n + 1) (plains r)) = true; rw [a, a']; rfl, c, c'⟩
end
theorem numDs_all {n : Nat} {ds : List PyData} (h : ∀ d ∈ ds, numD n d = true) : numDs n ds = true := by
  induction ds with
  | nil => rfl
  | cons d r ih =>
    unfold numDs
    rw [h d List.mem_cons_self, ih fun x hx => h x (List.mem_cons_of_mem _ hx)]
    rfl
theorem num_listD {l : List Int} (n : Nat) (h : l.length ≤ 10000) : numD (n + 1) (listD l) = true := by
  unfold listD numD
  rw [numDs_all (fun d hd => by
    obtain ⟨i, _, rfl⟩ := List.mem_map.mp hd
    cases n <;> rfl), decide_eq_true (by rw [intsD, List.length_map]; exact h)]
  rfl
theorem num_shaped {n : Nat} {d : PyData} (h : numD n d = true) (hn : n ≤ 60) : SeqAt.shaped (plain d) = true := shaped_flat (num_flat h).1 (by omega)
theorem num_eqv {n : Nat} {d : PyData} (h : numD n d = true) (hn : n ≤ 60) : PyData.eqv (plain d) (plain d) = true := SeqAt.eqv_refl _ (SeqAt.canLay_of_shaped (num_shaped h hn))
theorem goodR_snoc {n : Net} {L : Int} {r : List Int} : ∀ {rs : List (List Int)} {fl : List Int}, goodR n L fl rs → goodNs L n.inp r = true → goodNs L n.firsts.length (flsW n L fl rs) = true → r.length ≤ 1000 → (flsW n L fl rs).length ≤ 1000 → goodR n L fl (rs ++ [r])
  | [], _, _, a, b, c, d => ⟨a, b, c, d, trivial⟩
  | x :: rs, _, h, a, b, c, d => ⟨h.1, h.2.1, h.2.2.1, h.2.2.2.1, goodR_snoc (rs := rs) h.2.2.2.2 a b c d⟩
theorem runW_row {n : Net} {L : Int} : ∀ {rs : List (List Int)} {fl : List Int}, ∀ r ∈ runW n L fl rs, r.length = n.outs.length
  | [], _, r, h => by cases h
  | x :: rs, fl, r, h => by
    rcases List.mem_cons.mp h with rfl | h
    · simp [outsOf]
    · exact runW_row (rs := rs) r h
theorem num_rows {rows : List (List Int)} (n : Nat) (h : rows.length ≤ 10000) (hr : ∀ r ∈ rows, r.length ≤ 10000) : numD (n + 2) (.list (rows.map listD)) = true := by
  unfold numD
  rw [numDs_all (fun d hd => by
    obtain ⟨r, hm, rfl⟩ := List.mem_map.mp hd
    exact num_listD n (hr r hm)), decide_eq_true (by rw [List.length_map]; exact h)]
  rfl
theorem del2_step {H H' : Hp} {a c : Addr} (k : ∀ b o, b ≠ a → b ≠ c → H b = some o → H' b = some o) : Same (del1 (del1 H a) c) (del1 (del1 H' a) c) := fun b o e => by
  by_cases z : b = c
  · rw [z, del1_at] at e
    cases e
  · by_cases y : b = a
    · rw [del1_ne z, y, del1_at] at e
      cases e
    · rw [del1_ne z, del1_ne y] at e ⊢
      exact k b o y z e
theorem del1_sub {H : Hp} {a : Addr} : Same (del1 H a) H := fun b o e => by
  by_cases z : b = a
  · rw [z, del1_at] at e
    cases e
  · rwa [del1_ne z] at e
theorem del3_sub {H : Hp} {a c d : Addr} : Same (del3 H a c d) H := fun b o e => by
  unfold del3 at e
  split at e
  · cases e
  · exact e
theorem del3_same {H H' : Hp} {a c d : Addr} (k : ∀ b o, b ≠ a → b ≠ c → b ≠ d → H b = some o → H' b = some o) : Same (del3 H a c d) (del3 H' a c d) := fun b o e => by
  unfold del3 at e ⊢
  split at e
  · cases e
  · rename_i z
    rw [if_neg z]
    exact k b o (fun q => z (.inl q)) (fun q => z (.inr (.inl q))) (fun q => z (.inr (.inr q))) e
theorem Paired.split {K : PySem.W.Frag} {R : Hp} : ∀ {xs : List V} {rs : List (List Int × List Int)}, DpAll K R xs (rs.map fun r => .tuple [listD r.1, listD r.2]) →
    ∃ us : List (V × V), Paired (fun v (x : V × V) => ∃ t, v = V.ref t ∧ SqT K R t [x.1, x.2]) xs us ∧ DpAll K R (us.map Prod.fst) (rs.map fun r => listD r.1) ∧ DpAll K R (us.map Prod.snd) (rs.map fun r => listD r.2)
  | _, [], .nil => ⟨[], .nil, .nil, .nil⟩
  | _, r :: rs, .cons h t => by
    obtain ⟨us, p, a, b⟩ := Paired.split (rs := rs) t
    obtain ⟨z, zs, rfl, hz, hzs⟩ := dp_tup h
    cases hzs with
    | cons h1 h2 =>
      cases h2 with
      | cons h2 h3 =>
        cases h3
        exact ⟨(_, _) :: us, .cons ⟨z, rfl, hz⟩ p, .cons h1 a, .cons h2 b⟩
def bitsOf (r : Int) (m : Nat) : List Int := (List.range m).map fun i => r / 2 ^ i % 2
theorem bitsOf_len (r : Int) (m : Nat) : (bitsOf r m).length = m := by simp [bitsOf]
theorem bitsOf_bits (r : Int) (m : Nat) : Bits (bitsOf r m) := Bits.of_all fun x hx => by
  obtain ⟨i, _, rfl⟩ := List.mem_map.mp hx
  have : r / 2 ^ i % 2 = 0 ∨ r / 2 ^ i % 2 = 1 := by omega
  exact this
theorem bitsOf_snoc (r : Int) (m : Nat) : bitsOf r (m + 1) = bitsOf r m ++ [r / 2 ^ m % 2] := by
  unfold bitsOf
  rw [List.range_succ, List.map_append]
  rfl
theorem num_pair {a b : List Int} (n : Nat) (ha : a.length ≤ 10000) (hb : b.length ≤ 10000) : numD (n + 2) (.tuple [listD a, listD b]) = true := by
  unfold numD numDs numDs numDs
  rw [num_listD n ha, num_listD n hb]
  rfl
theorem paired_imp {α β : Type} {F F' : α → β → Prop} (h : ∀ a b, F a b → F' a b) : ∀ {l₁ : List α} {l₂ : List β}, Paired F l₁ l₂ → Paired F' l₁ l₂
  | _, _, .nil => .nil
  | _, _, .cons k t => .cons (h _ _ k) (paired_imp h t)
theorem paired_eq {α : Type} : ∀ {l₁ l₂ : List α}, Paired (fun u y => u = y) l₁ l₂ → l₁ = l₂
  | _, _, .nil => rfl
  | _, _, .cons k t => by rw [k, paired_eq t]
theorem bits_mem {xs : List Int} (h : Bits xs) : ∀ x ∈ xs, Bit x := fun x hx => by
  obtain ⟨i, hi⟩ := List.mem_iff_getElem?.mp hx
  have := h i
  rwa [List.getD_eq_getElem?_getD, hi] at this
theorem del31_step {H H' : Hp} {a c d D : Addr} (k : ∀ b o, b ≠ D → b ≠ a → b ≠ c → b ≠ d → H b = some o → H' b = some o) : Same (del1 (del3 H a c d) D) (del1 (del3 H' a c d) D) := fun b o e => by
  by_cases z : b = D
  · rw [z, del1_at] at e
    cases e
  · rw [del1_ne z] at e ⊢
    unfold del3 at e ⊢
    split at e
    · cases e
    · rename_i y
      rw [if_neg y]
      exact k b o z (fun q => y (.inl q)) (fun q => y (.inr (.inl q))) (fun q => y (.inr (.inr q))) e
theorem del31_sub {H : Hp} {a c d D : Addr} : Same (del1 (del3 H a c d) D) H := del1_sub.trans del3_sub
def rowP (n : Net) (st bt : List (List Int)) (l : Nat) : List Int × List Int := (outsOf (valsL n (st.getD l []) (bt.getD l [])) n.outs, outsOf (valsL n (st.getD l []) (bt.getD l [])) n.nexts)
def rowPD (n : Net) (st bt : List (List Int)) (l : Nat) : PyData := .tuple [listD (rowP n st bt l).1, listD (rowP n st bt l).2]
theorem flat_rep : ∀ m : Nat, (List.replicate m [V.int 0]).flatten = (List.replicate m (0 : Int)).map V.int
  | 0 => rfl
  | m + 1 => by
    rw [List.replicate_succ, List.flatten_cons, flat_rep m]
    rfl
theorem good_zeros {L m : Nat} : goodNs L m (List.replicate m 0) = true := by
  unfold goodNs
  rw [List.length_replicate, decide_eq_true rfl, Bool.true_and, List.all_eq_true]
  intro x hx
  rw [(List.mem_replicate.mp hx).2]
  unfold goodN
  simp
theorem lanes_firsts {n : Net} (hok : okNet n = true) (L : Nat) : Lanes L n.firsts.length (List.replicate L n.firsts) := by
  have e : ∀ l, l < L → (List.replicate L n.firsts).getD l [] = n.firsts := fun l hl => by
    rw [List.getD_eq_getElem?_getD, List.getElem?_replicate, if_pos hl]
    rfl
  refine ⟨List.length_replicate, fun l hl => by rw [e l hl], fun l hl => ?_⟩
  rw [e l hl]
  refine Bits.of_all fun x hx => ?_
  obtain ⟨a, b⟩ := (okNet_parts hok).2.2.2.1 x hx
  have : x = 0 ∨ x = 1 := by omega
  exact this
section
variable {P : Program} {w : World} {K : PySem.W.Frag} {mg : Str → Option Value} {base : Heap}
def spLaw (K : PySem.W.Frag) : Sp := fun vs H Q _ => ∃ (a : Addr) (ns : List Int), vs = [.ref a] ∧ SqL K H a (ns.map V.int) ∧ ns.length ≤ 63 ∧ ∀ H', Q (.bl true) H'
structure Cals (P : Program) (w : World) (K : PySem.W.Frag) (mg : Str → Option Value) (base : Heap) (C : Addr) : Prop where
  deck : Cal P w K mg base 1 "_law_deck" (spDeck K) []
  take : Cal P w K mg base 1 "_law_take" spTake []
  plain : ∀ n, Cal P w K mg base n "_law_plain" (spPlain K n) []
  net : Cal P w K mg base 2 "_law_net" (spNet K) []
  check : CalX P w K mg base 3 "check_net" (spCheck K C)
  first : CalX P w K mg base 4 "first_flops" (spFirst K C)
  lstep : Cal P w K mg base 1 "_law_net_step" (spLStep K) []
  words : Cal P w K mg base 1 "_law_lanes" (spWords K) []
  stepNet : CalX P w K mg base 6 "step_net" (spStepNet K C)
  run : CalX P w K mg base 6 "run_net" (spRun K C)
  ref : Cal P w K mg base 7 "_law_refusal" (spRef K C) []
  unlit : Cal P w K mg base 7 "_law_unlit" (spUnlit K) []
  bent : Cal P w K mg base 2 "_law_bent" (spBent K) []
theorem ok_law {C f : Addr} {fd : FuncData} (F : Fun K "law" "law" s_law f fd) (T : Txt K mg) (c : Cals P w K mg base C) : FnOk P w K mg base CX0 10 f fd ["script"] (spLaw K) := by
  refine F.ok sc_law (fun vs H Q E h => ?_) (fun cdv A outer s H vs Q E hr h => ?_)
  · obtain ⟨a, ns, rfl, _⟩ := h
    rfl
  · obtain ⟨a, ns, rfl, ha, hn, k⟩ := h
    have hu65 := hu65_of hr
    have c__law_deck := c.deck
    have c__law_take := c.take
    have c__law_plain := c.plain 8
    have c__law_net := c.net
    have c_check_net := c.check
    have c_first_flops := c.first
    have c__law_net_step := c.lstep
    have c__law_lanes := c.words
    have c_step_net := c.stepNet
    have c_run_net := c.run
    have c__law_refusal := c.ref
    have c__law_unlit := c.unlit
    have c__law_bent := c.bent
    refine ⟨_, (pss_cons (ps_set (i := 1) sc_law.nd rfl (Or.inl rfl) (pe_c c__law_deck hr (by omega) rfl (pa_cons (pv 0) (pa_cons pe_int (pa_cons pe_int pa_nil)))))
      (pss_cons (ps_set (i := 2) sc_law.nd rfl (Or.inr rfl) (pe_c c__law_net hr (by omega) rfl (pa_cons (pv 1) (pa_cons pe_int pa_nil))))
      (pss_cons (ps_if (pt_cmpR op_notN (pe_cx c_check_net hr (by omega) rfl takes0 (pa_cons (pv 2) pa_nil)) pe_non (nomark _)) (pss_one (ps_ret pe_bl)) pss_nil)
      (pss_cons (ps_set (i := 3) sc_law.nd rfl (Or.inr rfl) (pe_op op_add pe_int (pe_c c__law_take hr (by omega) rfl (pa_cons (pv 1) (pa_cons (pe_ix ix_list (pe_lst (pa_cons pe_int (pa_cons pe_int pa_nil))) (pe_c c__law_take hr (by omega) rfl (pa_cons (pv 1) (pa_cons pe_int pa_nil))) (fun _ _ => rfl)) pa_nil)))))
      (pss_cons (ps_set (i := 4) sc_law.nd rfl (Or.inl rfl) (pe_cx c_first_flops hr (by omega) rfl takes0 (pa_cons (pv 2) (pa_cons (pv 3) pa_nil))))
      (pss_cons (ps_if (pt_cmpR (op_neD hr.units) (pe_c c__law_plain hr (by omega) rfl (pa_cons (pv 4) pa_nil)) (pe_c c__law_plain hr (by omega) rfl (pa_cons (pe_lc (own := [("first", 18)]) rfl sc_law.nd (pi_tup (pe_ix ix_tup (pv 2) pe_int (fun _ _ => rfl))) (blkOk_by (own := [("first", 18)]) (N := ["script", "deck", "net", "lanes", "flops", "states", "inputs", "due", "clock", "bits", "lane", "number", "rows", "row", "outs", "after", "told", "one", "first", "at"]) (sc := defScope s_law) (by decide +kernel)) (fun _ _ _ _ _ => (pg_name (i := 18) sc_law.nd rfl (Or.inl rfl))) (fun _ _ _ _ _ => pts_nil) (fun _ _ _ _ _ => (pe_op op_mul (pe_op op_sub (pe_op op_shl pe_int (pv 3)) pe_int) (pv 18)))) pa_nil)) (nomark _)) (pss_one (ps_ret pe_bl)) pss_nil)
      (pss_cons (ps_set (i := 5) sc_law.nd rfl (Or.inr rfl) (pe_lc (own := [("lane", 10)]) rfl sc_law.nd (pi_range1 (by rfl) T.b_range (pa_cons (pv 3) pa_nil)) (blkOk_by (own := [("lane", 10)]) (N := ["script", "deck", "net", "lanes", "flops", "states", "inputs", "due", "clock", "bits", "lane", "number", "rows", "row", "outs", "after", "told", "one", "first", "at"]) (sc := defScope s_law) (by decide +kernel)) (fun _ _ _ _ _ => (pg_name (i := 10) sc_law.nd rfl (Or.inl rfl))) (fun _ _ _ _ _ => pts_nil) (fun _ _ _ _ _ => (pe_callTy (call_list_ofK (K := K) rfl) (by rfl) T.b_list boot_list' (pa_cons (pe_ix (ix_tupK (K := K) rfl) (pv 2) pe_int (fun _ _ => rfl)) pa_nil)))))
      (pss_cons (ps_set (i := 6) sc_law.nd rfl (Or.inl rfl) (pe_lst pa_nil))
      (pss_cons (ps_set (i := 7) sc_law.nd rfl (Or.inl rfl) (pe_lst pa_nil))
      (pss_cons (ps_for PassesOwn.never rfl (pi_range1 (by rfl) T.b_range (pa_cons (pe_op op_add pe_int (pe_c c__law_take hr (by omega) rfl (pa_cons (pv 1) (pa_cons pe_int pa_nil)))) pa_nil)) (pg_name (i := 8) sc_law.nd rfl (Or.inl rfl)) (pss_cons (ps_set (i := 9) sc_law.nd rfl (Or.inr rfl) (pe_lst pa_nil))
      (pss_cons (ps_for PassesOwn.never rfl (pi_range1 (by rfl) T.b_range (pa_cons (pv 3) pa_nil)) (pg_name (i := 10) sc_law.nd rfl (Or.inl rfl)) (pss_cons (ps_set (i := 11) sc_law.nd rfl (Or.inr rfl) (pe_c c__law_take hr (by omega) rfl (pa_cons (pv 1) (pa_cons (pe_op op_shl pe_int (pe_ix ix_tup (pv 2) pe_int (fun _ _ => rfl))) pa_nil))))
      (pss_one (ps_expr (pe_bm PySem.F.plainAttrs_list PySem.F.slot_list_append PySem.F.type_list_append mt_append (pv 9) (pa_cons (pe_lc (own := [("at", 19)]) rfl sc_law.nd (pi_range1 (by rfl) T.b_range (pa_cons (pe_ix ix_tup (pv 2) pe_int (fun _ _ => rfl)) pa_nil)) (blkOk_by (own := [("at", 19)]) (N := ["script", "deck", "net", "lanes", "flops", "states", "inputs", "due", "clock", "bits", "lane", "number", "rows", "row", "outs", "after", "told", "one", "first", "at"]) (sc := defScope s_law) (by decide +kernel)) (fun _ _ _ _ _ => (pg_name (i := 19) sc_law.nd rfl (Or.inl rfl))) (fun _ _ _ _ _ => pts_nil) (fun _ _ _ _ _ => (pe_op op_mod (pe_callTy call_int1 (by rfl) T.b_int boot_int' (pa_cons (pe_op op_shr (pv 11) (pv 19)) pa_nil)) pe_int))) pa_nil))))))
      (pss_cons (ps_setLc (i := 12) (own := [("lane", 10)]) rfl sc_law.nd rfl rfl (sw_true rfl rfl rfl (by decide +kernel)) (pi_range1 (by rfl) T.b_range (pa_cons (pv 3) pa_nil)) (blkOk_by (own := [("lane", 10)]) (N := ["script", "deck", "net", "lanes", "flops", "states", "inputs", "due", "clock", "bits", "lane", "number", "rows", "row", "outs", "after", "told", "one", "first", "at"]) (sc := defScope s_law) (by decide +kernel)) (fun _ _ _ _ _ => (pg_name (i := 10) sc_law.nd rfl (Or.inl rfl))) (fun _ _ _ _ _ => pts_nil) (fun _ _ _ _ _ => (pe_c c__law_net_step hr (by omega) rfl (pa_cons (pv 2) (pa_cons (pe_ix (ix_listK (K := K) rfl) (pv 5) (pv 10) (fun _ _ => rfl)) (pa_cons (pe_ix (ix_listK (K := K) rfl) (pv 9) (pv 10) (fun _ _ => rfl)) pa_nil))))))
      (pss_cons (ps_set (i := 13) sc_law.nd rfl (Or.inl rfl) (pe_c c__law_lanes hr (by omega) rfl (pa_cons (pv 9) pa_nil)))
      (pss_cons (ps_set (i := 14) sc_law.nd rfl (Or.inl rfl) (pe_c c__law_lanes hr (by omega) rfl (pa_cons (pe_lc (own := [("one", 17)]) rfl sc_law.nd (pi_list (pv 12)) (blkOk_by (own := [("one", 17)]) (N := ["script", "deck", "net", "lanes", "flops", "states", "inputs", "due", "clock", "bits", "lane", "number", "rows", "row", "outs", "after", "told", "one", "first", "at"]) (sc := defScope s_law) (by decide +kernel)) (fun _ _ _ _ _ => (pg_name (i := 17) sc_law.nd rfl (Or.inl rfl))) (fun _ _ _ _ _ => pts_nil) (fun _ _ _ _ _ => (pe_ix (ix_tupK (K := K) rfl) (pv 17) pe_int (fun _ _ => rfl)))) pa_nil)))
      (pss_cons (ps_set (i := 15) sc_law.nd rfl (Or.inl rfl) (pe_c c__law_lanes hr (by omega) rfl (pa_cons (pe_lc (own := [("one", 17)]) rfl sc_law.nd (pi_list (pv 12)) (blkOk_by (own := [("one", 17)]) (N := ["script", "deck", "net", "lanes", "flops", "states", "inputs", "due", "clock", "bits", "lane", "number", "rows", "row", "outs", "after", "told", "one", "first", "at"]) (sc := defScope s_law) (by decide +kernel)) (fun _ _ _ _ _ => (pg_name (i := 17) sc_law.nd rfl (Or.inl rfl))) (fun _ _ _ _ _ => pts_nil) (fun _ _ _ _ _ => (pe_ix (ix_tupK (K := K) rfl) (pv 17) pe_int (fun _ _ => rfl)))) pa_nil)))
      (pss_cons (ps_if (pt_cmpR (op_neD hr.units) (pe_c c__law_plain hr (by omega) rfl (pa_cons (pe_cx c_step_net hr (by omega) rfl takes0 (pa_cons (pv 2) (pa_cons (pv 3) (pa_cons (pe_callTy call_tuple_of (by rfl) T.b_tuple boot_tuple' (pa_cons (pv 4) pa_nil)) (pa_cons (pe_callTy call_tuple_of (by rfl) T.b_tuple boot_tuple' (pa_cons (pv 13) pa_nil)) pa_nil))))) pa_nil)) (pe_c c__law_plain hr (by omega) rfl (pa_cons (pe_tup (pa_cons (pv 14) (pa_cons (pv 15) pa_nil))) pa_nil)) (nomark _)) (pss_one (ps_ret pe_bl)) pss_nil)
      (pss_cons (ps_expr (pe_bm PySem.F.plainAttrs_list PySem.F.slot_list_append PySem.F.type_list_append mt_append (pv 6) (pa_cons (pv 13) pa_nil)))
      (pss_cons (ps_expr (pe_bm PySem.F.plainAttrs_list PySem.F.slot_list_append PySem.F.type_list_append mt_append (pv 7) (pa_cons (pv 14) pa_nil)))
      (pss_cons (ps_set (i := 5) sc_law.nd rfl (Or.inr rfl) (pe_lc (own := [("one", 17)]) rfl sc_law.nd (pi_list (pv 12)) (blkOk_by (own := [("one", 17)]) (N := ["script", "deck", "net", "lanes", "flops", "states", "inputs", "due", "clock", "bits", "lane", "number", "rows", "row", "outs", "after", "told", "one", "first", "at"]) (sc := defScope s_law) (by decide +kernel)) (fun _ _ _ _ _ => (pg_name (i := 17) sc_law.nd rfl (Or.inl rfl))) (fun _ _ _ _ _ => pts_nil) (fun _ _ _ _ _ => (pe_ix (ix_tupK (K := K) rfl) (pv 17) pe_int (fun _ _ => rfl)))))
      (pss_one (ps_set (i := 4) sc_law.nd rfl (Or.inl rfl) (pv 15))))))))))))))
      (pss_cons (ps_if (pt_cmpR (op_neD hr.units) (pe_c c__law_plain hr (by omega) rfl (pa_cons (pe_cx c_run_net hr (by omega) rfl takes0 (pa_cons (pv 2) (pa_cons (pv 3) (pa_cons (pv 6) pa_nil)))) pa_nil)) (pe_c c__law_plain hr (by omega) rfl (pa_cons (pv 7) pa_nil)) (nomark _)) (pss_one (ps_ret pe_bl)) pss_nil)
      (pss_cons (ps_set (i := 16) sc_law.nd rfl (Or.inl rfl) (pe_lst (pa_cons (pe_c c__law_refusal hr (by omega) rfl (pa_cons (pe_c c__law_bent hr (by omega) rfl (pa_cons (pv 1) (pa_cons (pv 2) pa_nil))) (pa_cons pe_int (pa_cons (pe_lst pa_nil) (pa_cons (pe_lst (pa_cons pe_int pa_nil)) pa_nil))))) (pa_cons (pe_c c__law_refusal hr (by omega) rfl (pa_cons (pv 2) (pa_cons pe_int (pa_cons (pe_lst pa_nil) (pa_cons (pe_op op_rep (pe_lst (pa_cons pe_int pa_nil)) pe_int) pa_nil))))) (pa_cons (pe_c c__law_refusal hr (by omega) rfl (pa_cons (pv 2) (pa_cons (pv 3) (pa_cons (pe_op op_rep (pe_lst (pa_cons pe_int pa_nil)) pe_int) (pa_cons (pe_op op_rep (pe_lst (pa_cons pe_int pa_nil)) pe_int) pa_nil))))) pa_nil)))))
      (pss_cons (ps_expr (pe_bm PySem.F.plainAttrs_list PySem.F.slot_list_append PySem.F.type_list_append mt_append (pv 16) (pa_cons (pe_c c__law_refusal hr (by omega) rfl (pa_cons (pv 2) (pa_cons pe_int (pa_cons (pe_op op_rep (pe_lst (pa_cons pe_int pa_nil)) pe_int) (pa_cons (pe_op op_rep (pe_lst (pa_cons pe_int pa_nil)) (pe_ix ix_tup (pv 2) pe_int (fun _ _ => rfl))) pa_nil))))) pa_nil)))
      (pss_cons (ps_if (pt_cmpR op_ne (pe_c c__law_unlit hr (by omega) rfl (pa_cons (pv 2) pa_nil)) pe_str (nomark _)) (pss_one (ps_ret pe_bl)) pss_nil)
      (pss_cut (ps_if (pt_cmpR op_gt (pe_ix ix_tup (pv 2) pe_int (fun _ _ => rfl)) pe_int (nomark _)) (pss_one (ps_expr (pe_bm PySem.F.plainAttrs_list PySem.F.slot_list_append PySem.F.type_list_append mt_append (pv 16) (pa_cons (pe_c c__law_refusal hr (by omega) rfl (pa_cons (pv 2) (pa_cons (pv 3) (pa_cons (pv 4) (pa_cons (pe_op op_cat (pe_lst (pa_cons (pe_ix ix_list (pe_lst (pa_cons (pe_op op_shl pe_int (pv 3)) (pa_cons (pe_un un_neg pe_int) pa_nil))) (pe_c c__law_take hr (by omega) rfl (pa_cons (pv 1) (pa_cons pe_int pa_nil))) (fun _ _ => rfl)) pa_nil)) (pe_op op_rep (pe_lst (pa_cons pe_int pa_nil)) (pe_op op_sub (pe_ix ix_tup (pv 2) pe_int (fun _ _ => rfl)) pe_int))) pa_nil))))) pa_nil)))) pss_nil)
      (pss_one (ps_ret (pe_cmpR (op_eqD hr.units) (pv 16) (pe_op op_cat (pe_lst (pa_cons pe_str (pa_cons pe_str (pa_cons pe_str (pa_cons pe_str pa_nil))))) (pe_op op_rep (pe_lst (pa_cons pe_str pa_nil)) (pe_callTy call_int1 (by rfl) T.b_int boot_int' (pa_cons (pe_cmpR op_gt (pe_ix ix_tup (pv 2) pe_int (fun _ _ => rfl)) pe_int (nomark _)) pa_nil)))) (nomark _))))))))))))))))))), ?_⟩
    refine ⟨_, rfl, a, ns, 90, 14, rfl, ha, by omega, by decide, by decide, by decide, fun dk H1 nd s1 k1 => ?_⟩
    refine ⟨_, rfl, dk, 20, rfl, by decide, k1, fun v n H2 b2 k2 dn hsm hok hi4 hf3 hg100 ho5 => ?_⟩
    refine ⟨_, rfl, v, rfl, .inl ⟨n, dn, hsm, fun _ H3 s3 => ⟨rfl, _, rfl, iteF ?_⟩, fun e => absurd hok (by rw [e]; decide)⟩⟩
    -- lanes
    refine ⟨_, rfl, (show 2 ≤ sizeLine by decide), fun q nq => ?_⟩
    have u1 := same_new (o := HO.lst [V.int 3, V.int 70]) nq
    have k3 := k2.same (s3.trans u1)
    refine ⟨_, rfl, dk, 2, rfl, by decide, k3, fun r H4 r0 r1 b4 k4 => ?_⟩
    obtain ⟨mL, hmL, mL0, mL1⟩ : ∃ mL : Int, atI [V.int 3, V.int 70] r = some (.int mL) ∧ 0 < mL ∧ mL ≤ 70 := by
      have : r = 0 ∨ r = 1 := by omega
      rcases this with rfl | rfl
      · exact ⟨3, rfl, by decide, by decide⟩
      · exact ⟨70, rfl, by decide, by decide⟩
    have hq4 := b4 q _ (Deck.ne (k2.same s3) nq) upd_same
    refine ⟨q, _, r, _, rfl, rfl, SqL.of hq4, hmL, dk, mL, rfl, mL0, k4, fun l0 H5 l00 l01 b5 k5 => ?_⟩
    obtain ⟨l1, rfl⟩ := Int.eq_ofNat_of_zero_le l00
    refine ⟨_, _, rfl, rfl, ?_⟩
    have hLe : (1 : Int) + (l1 : Int) = ((l1 + 1 : Nat) : Int) := by omega
    change gName 3 (.int (1 + (l1 : Int))) _ _ _
    rw [hLe]
    have hL70 : l1 + 1 ≤ 70 := by omega
    have hL1 : 1 ≤ l1 + 1 := by omega
    generalize l1 + 1 = L at hL70 hL1
    have K5 : KeepT H2 H5 := (((KeepT.of_same s3).trans (KeepT.of_same u1)).trans (KeepT.of_but k3 b4)).trans (KeepT.of_but k4 b5)
    have dn5 : Dp K H5 v (netD n) := dp_keep K5 (noL_net n) dn
    clear hq4
    -- flops
    refine ⟨_, rfl, _, rfl, v, n, (L : Int), rfl, dn5, hsm, hok, by omega, fun q => absurd q (by omega), fun _ pf H6 s6 npf hpf => ?_⟩
    have hfw : (firstsW n L).length ≤ 10000 := by rw [firstsW, List.length_map]; omega
    have nF : numD 7 (listD (firstsW n L)) = true := num_listD 6 hfw
    refine ⟨_, rfl, .ref pf, _, rfl, dp_listD hpf, (num_flat nF).2, fun x1 H7 s7 dx1 => ?_⟩
    have s67 := s6.trans s7
    have dn7 := dp_same s67 dn5
    obtain ⟨na, naf, nan, nag, nao, xg, rfl, hx, hF, hN, hG, hGs, hO⟩ := net_dp dn7
    refine ⟨_, rfl, na, _, 1, _, rfl, rfl, hx, atI_nat (j := 1) rfl, naf, rfl, ⟨_, hF⟩, fun D hD => ?_⟩
    refine lc_dataT (K := K) (a := naf) (xs := n.firsts.map V.int) (ds := intsD n.firsts) (fun _ => true) (fun d => match d with | .int i => .int (mask L * i) | d => d) hF (dps_ints _) hD (by rw [intsD, List.length_map]; omega) ?_ ?_
    · intro v d G2 acc R dm hv sG2 hG2 ha2 _ hyes
      obtain ⟨i, hi, rfl⟩ := List.mem_map.mp dm
      cases dp_int hv
      obtain ⟨i0, i1⟩ := (okNet_parts hok).2.2.2.1 i hi
      refine ⟨rfl, _, rfl, _, _, rfl, rfl, ⟨by omega, by omega, by decide⟩, _, _, rfl, rfl, _, rfl, _, _, rfl, rfl, .inr ⟨by omega, by omega⟩, acc, upd_same, ha2, ?_⟩
      rw [upd_app, Int.one_mul]
      exact hyes rfl G2 _ (Same.refl _) hG2 (.int _)
    intro G2 ys2 sG2 hG2 hys2
    have e : ((intsD n.firsts).filter (fun _ => true)).map (fun d => match d with | .int i => .int (mask L * i) | d => d) = (firstsW n L).map PyData.int := by
      rw [List.filter_eq_self.mpr fun _ _ => rfl]
      unfold intsD firstsW
      rw [List.map_map, List.map_map]
      rfl
    rw [e] at hys2
    cases dps_ints_of hys2
    have s8 : Same H7 (upd G2 D (.lst ((firstsW n L).map V.int))) := sG2.trans (same_new hG2)
    refine ⟨.ref D, _, rfl, dp_listD upd_same, (num_flat nF).2, fun x2 H8 s9 dx2 => ?_⟩
    have s89 := s8.trans s9
    refine ⟨_, _, dp_same s89 dx1, dx2, num_shaped nF (by decide), num_shaped nF (by decide), _, rfl, ?_⟩
    refine ifF (by rw [num_eqv nF (by decide)]; rfl) ?_
    have s58 := s67.trans s89
    have k8 := k5.same s58
    have hpf8 : H8 pf = some (.lst ((firstsW n L).map V.int)) := (s7.trans s89) _ _ hpf
    have dn8 := dp_same s58 dn5
    have hF8 := Same.tup s89 hF
    have hx8 := Same.tup s89 hx
    clear dx1 dx2 hys2
    -- states
    refine ⟨_, rfl, (L : Int), rfl, by omega, by omega, fun D2 hD2 => ?_⟩
    refine lc_range (lo := 0) (n := ((L : Nat) : Int).toNat) (fun j H => ∃ (G : Hp) (ys : List V), Same H8 G ∧ G D2 = none ∧ H = upd G D2 (.lst ys) ∧ DpAll K (del1 G dk) ys (List.replicate j (listD n.firsts))) ⟨H8, [], Same.refl _, hD2, rfl, .nil⟩ ?_ ?_
    · rintro j H hj ⟨G, ys, sG, hG2, rfl, hys⟩
      have sGD : Same H8 (upd G D2 (.lst ys)) := sG.trans (same_new hG2)
      refine ⟨rfl, _, rfl, na, _, 1, _, rfl, rfl, Same.tup sGD hx8, atI_nat (j := 1) rfl, naf, _, rfl, .inr (Same.tup sGD hF8), fun l nl => ?_⟩
      obtain ⟨nlD, nlG⟩ := upd_none nl
      refine ⟨ys, by rw [upd_ne (Ne.symm nlD)]; exact upd_same, size_lt (by rw [dps_len hys, List.length_replicate]; omega), upd G l (.lst (n.firsts.map V.int)), ys ++ [.ref l], sG.trans (same_new nlG), by rw [upd_ne (Ne.symm nlD)]; exact hG2, by rw [upd_comm (Ne.symm nlD), upd_upd], ?_⟩
      rw [List.replicate_succ']
      exact dps_snoc (dps_same (del1_same (same_new nlG)) hys) (dp_del1 (Deck.ne (k8.same sG) nlG) upd_same)
    rintro H ⟨G0, yst, sG0, hG0, rfl, hyst⟩
    have s0S : Same H8 (upd G0 D2 (.lst yst)) := sG0.trans (same_new hG0)
    have dst : Dp K (del1 (upd G0 D2 (.lst yst)) dk) (.ref D2) (.list ((List.replicate L n.firsts).map listD)) := .lst (SqL.of (by rw [del1_ne (Deck.ne (k8.same sG0) hG0)]; exact upd_same)) (by rw [List.map_replicate]; exact dps_same (del1_same (same_new hG0)) hyst)
    have npfdk : pf ≠ dk := Deck.ne k5 npf
    have dn9 := dp_same s0S dn8
    have hpf9 := s0S _ _ hpf8
    have k9 := k8.same s0S
    generalize upd G0 D2 (.lst yst) = H9 at dst dn9 hpf9 k9
    -- inputs, due
    refine ⟨Nat.zero_le _, fun pin npin => ⟨Nat.zero_le _, fun pdue npdue => ?_⟩⟩
    obtain ⟨npd, npd9⟩ := upd_none npdue
    have hole0 : Hole dk pin pdue (del3 H9 dk pin pdue) (upd (upd H9 pin (.lst [])) pdue (.lst [])) [] [] := by
      refine ⟨fun b o e => ?_, if_pos (.inl rfl), if_pos (.inr (.inl rfl)), if_pos (.inr (.inr rfl)), (k9.same (same_new npin)).same (same_new npdue), ?_, upd_same⟩
      · unfold del3 at e
        split at e
        · cases e
        · exact same_new npdue _ _ (same_new npin _ _ e)
      · rw [upd_ne (Ne.symm npd)]
        exact upd_same
    refine ⟨_, rfl, dk, 4, rfl, by decide, hole0.deck, fun nc H10 c0 c1 b10 k10 => ?_⟩
    have npi : pin ≠ dk := Deck.ne k9 npin
    have npd0 : pdue ≠ dk := Deck.ne k9 npd9
    obtain ⟨hole, S0⟩ := hole0.step (H' := H10) (fun b o n1 _ _ e => b10 b o n1 e) k10 (b10 _ _ npi hole0.hi) (b10 _ _ npd0 hole0.hd)
    refine ⟨_, _, rfl, rfl, (1 + nc), rfl, by omega, by omega, ?_⟩
    have Kd : KeepT H9 (del3 H10 dk pin pdue) := fun b u e nl => by
      have n1 : b ≠ dk := fun z => by
        obtain ⟨ds, _, hh⟩ := k9
        rw [z, hh] at e
        exact nl _ (Option.some.inj e).symm
      have n2 : b ≠ pin := ne_of_none e npin
      have n3 : b ≠ pdue := ne_of_none e npd9
      exact S0 _ _ (by rw [del3_ne n1 n2 n3]; exact e)
    have S9 : Same (del1 H9 dk) (del3 H10 dk pin pdue) := fun b u e => by
      have n1 : b ≠ dk := fun z => by
        rw [z, del1_at] at e
        cases e
      rw [del1_ne n1] at e
      exact S0 _ _ (by rw [del3_ne n1 (ne_of_none e npin) (ne_of_none e npd9)]; exact e)
    refine for_range (lo := 0) (n := (1 + nc).toNat) (fun i σ H => ∃ (G : Hp) (xi xd : List V) (fa sa : Addr) (st rs : List (List Int)) (o8 o9 o10 o11 o12 o13 o14 o15 : Option V),
      σ = [some (.ref a), some (.ref dk), some (.ref na), some (.int L), some (.ref fa), some (.ref sa), some (.ref pin), some (.ref pdue), o8, o9, o10, o11, o12, o13, o14, o15, none, none, none, none] ∧ Hole dk pin pdue G H xi xd ∧ rs.length = i ∧ Lanes L n.firsts.length st ∧
      words st n.firsts.length = flsW n L (firstsW n L) rs ∧ goodR n L (firstsW n L) rs ∧ Dp K G (.ref na) (netD n) ∧ G fa = some (.lst ((words st n.firsts.length).map V.int)) ∧ Dp K G (.ref sa) (.list (st.map listD)) ∧
      DpAll K G xi (rs.map listD) ∧ DpAll K G xd ((runW n L (firstsW n L) rs).map listD))
      ⟨_, [], [], pf, D2, List.replicate L n.firsts, [], none, none, none, none, none, none, none, none, rfl, hole, rfl, lanes_firsts hok L, firsts_words.symm, trivial, dp_keep Kd (noL_net n) dn9, by rw [← firsts_words]; exact S9 _ _ (by rw [del1_ne npfdk]; exact hpf9), dp_same S9 dst, .nil, .nil⟩ ?_ ?_
    · rintro i σ H hi ⟨G, xi, xd, fa, sa, st, rs, o8, o9, o10, o11, o12, o13, o14, o15, rfl, hole, hrs, hst, hfl, hgr, dnG, hfa, dsa, dxi, dxd⟩
      refine ⟨Nat.zero_le _, fun pb npb => ?_⟩
      have v0 := same_new (o := HO.lst []) npb
      obtain ⟨ni, hni⟩ := Int.eq_ofNat_of_zero_le (okNet_parts hok).1
      refine ⟨_, rfl, (L : Int), rfl, by omega, by omega, ?_⟩
      refine for_range (lo := 0) (n := ((L : Nat) : Int).toNat) (fun j σ H' => ∃ (xs : List V) (bt : List (List Int)) (p10 p11 : Option V),
        σ = [some (.ref a), some (.ref dk), some (.ref na), some (.int L), some (.ref fa), some (.ref sa), some (.ref pin), some (.ref pdue), some (.int (0 + i)), some (.ref pb), p10, p11, o12, o13, o14, o15, none, none, none, none] ∧ bt.length = j ∧ (∀ r ∈ bt, r.length = ni ∧ Bits r) ∧
        But dk H H' ∧ Deck H' dk ∧ H' pb = some (.lst xs) ∧ DpAll K (del1 (del1 H' dk) pb) xs (bt.map listD))
        ⟨[], [], o10, o11, rfl, rfl, (fun _ h => by cases h), But.of v0, hole.deck.same v0, upd_same, .nil⟩ ?_ ?_
      · rintro j σ H' hj ⟨xs, bt, p10, p11, rfl, hbl, hbt, bH, kH, hpb, dbt⟩
        have npk : pb ≠ dk := Deck.ne hole.deck npb
        have KH : KeepT H H' := KeepT.of_but hole.deck bH
        have dn' := dp_keep KH (noL_net n) (dp_same hole.keep dnG)
        obtain ⟨fa', _, _, _, _, _, fe, fx, _⟩ := net_dp dn'
        cases fe
        refine ⟨_, rfl, _, rfl, na, _, 0, _, rfl, rfl, fx, atI_nat (j := 0) rfl, _, _, rfl, rfl, ⟨by omega, by omega, by decide⟩, ?_⟩
        have pos : (0 : Int) < 1 * 2 ^ n.inp.toNat := by rw [Int.one_mul]; exact Int.pow_pos (by decide)
        refine ⟨dk, _, rfl, pos, kH, fun r H2 r0 r1 b2 k2 => ?_⟩
        have hpb2 := b2 _ _ npk hpb
        obtain ⟨_, _, _, _, _, _, fe, fx2, _⟩ := net_dp (dp_keep (KeepT.of_but kH b2) (noL_net n) dn')
        cases fe
        refine ⟨_, rfl, .inl ⟨rfl, _, SqL.of hpb2⟩, _, rfl, ?_⟩
        refine ⟨na, _, 0, _, rfl, rfl, fx2, atI_nat (j := 0) rfl, n.inp, rfl, by omega, by omega, fun D hD => ?_⟩
        refine lc_range (lo := 0) (n := n.inp.toNat) (fun j H => H = upd H2 D (.lst ((bitsOf r j).map V.int))) rfl ?_ ?_
        · rintro j2 H3 hj2 rfl
          refine ⟨rfl, _, rfl, _, rfl, _, _, rfl, rfl, by omega, .inl ⟨_, rfl, _, _, rfl, rfl, (by decide : (0 : Int) < 2), _, upd_same, size_lt (by rw [List.length_map, bitsOf_len]; omega), ?_⟩⟩
          rw [upd_app, bitsOf_snoc, List.map_append]
          have e : ((0 : Int) + (j2 : Int)).toNat = j2 := by omega
          rw [e]
          rfl
        rintro H3 rfl
        have s3 := same_new (o := HO.lst ((bitsOf r n.inp.toNat).map V.int)) hD
        have nDb : D ≠ pb := fun z => by rw [← z, hD] at hpb2; cases hpb2
        have nDk : D ≠ dk := Deck.ne k2 hD
        refine ⟨_, _, _, rfl, rfl, s3 _ _ hpb2, size_lt (by rw [dps_len dbt, List.length_map, hbl]; omega), ?_⟩
        refine ⟨xs ++ [.ref D], bt ++ [bitsOf r ni], _, _, rfl, by rw [List.length_append, hbl]; rfl, fun q hq => ?_, but_mut ((bH.trans b2).trans (But.of s3)) npb, ?_, upd_same, ?_⟩
        · rcases List.mem_append.mp hq with hq | hq
          · exact hbt q hq
          · rw [List.mem_singleton.mp hq]
            exact ⟨bitsOf_len _ _, bitsOf_bits _ _⟩
        · obtain ⟨ds, d1, d2⟩ := k2.same s3
          exact ⟨ds, d1, by rw [upd_ne (Ne.symm npk)]; exact d2⟩
        · rw [List.map_append]
          refine dps_snoc (dps_same (del2_step fun b o nb nb2 e => ?_) dbt) (dp_listD ?_)
          · rw [upd_ne nb2]
            exact s3 _ _ (b2 _ _ nb e)
          · rw [del1_ne nDb, del1_ne nDk, upd_ne nDb, upd_same, hni]
            rfl
      · rintro σ H' ⟨xs, bt, p10, p11, rfl, hbl, hbt, bH, kH, hpb, dbt⟩
        have hbl2 : bt.length = L := by rw [hbl]; exact Int.toNat_natCast L
        have npk : pb ≠ dk := Deck.ne hole.deck npb
        have hmem : ∀ l, l < L → bt.getD l [] ∈ bt := fun l hl => by
          rw [List.getD_eq_getElem?_getD, List.getElem?_eq_getElem (by omega : l < bt.length)]
          exact List.getElem_mem _
        have lb : Lanes L ni bt := ⟨hbl2, fun l hl => (hbt _ (hmem l hl)).1, fun l hl => (hbt _ (hmem l hl)).2⟩
        obtain ⟨hole1, S1⟩ := hole.step (fun b o nb _ _ e => bH _ _ nb e) kH (bH _ _ npi hole.hi) (bH _ _ npd0 hole.hd)
        have s1 : Same (del3 H' dk pin pdue) H' := del3_sub
        have dB : Dp K H' (.ref pb) (.list (bt.map listD)) := .lst (SqL.of hpb) (dps_same (del1_sub.trans del1_sub) dbt)
        have dnH := dp_same (S1.trans s1) dnG
        have dsH := dp_same (S1.trans s1) dsa
        -- rows
        refine ⟨_, rfl, (L : Int), rfl, by omega, by omega, fun D hD => ?_⟩
        have nDk : D ≠ dk := Deck.ne kH hD
        have nDi : D ≠ pin := Ne.symm (ne_of_none hole1.hi hD)
        have nDd : D ≠ pdue := Ne.symm (ne_of_none hole1.hd hD)
        refine lc_range (lo := 0) (n := ((L : Nat) : Int).toNat) (fun j H => ∃ ys : List V, Same H' H ∧ H D = some (.lst ys) ∧ DpAll K (del1 (del3 H dk pin pdue) D) ys ((List.range j).map (rowPD n st bt))) ⟨[], same_new hD, upd_same, .nil⟩ ?_ ?_
        · rintro j H3 hj ⟨ys, s3, h3, hys⟩
          have hjL : j < L := by omega
          obtain ⟨sa', xss, he, hxs, hxss⟩ := dp_lst (dp_same s3 dsH)
          cases he
          obtain ⟨pb', xsb, he, hxb, hxsb⟩ := dp_lst (dp_same s3 dB)
          cases he
          obtain ⟨c1, e1, hc1⟩ := row_at (l := j) hxss (by rw [hst.len]; exact hjL)
          obtain ⟨c2, e2, hc2⟩ := row_at (l := j) hxsb (by rw [hbl2]; exact hjL)
          have at1 : atI xss (0 + (j : Int)) = some (.ref c1) := by rw [Int.zero_add]; exact atI_nat e1
          have at2 : atI xsb (0 + (j : Int)) = some (.ref c2) := by rw [Int.zero_add]; exact atI_nat e2
          refine ⟨rfl, _, rfl, _, rfl, _, rfl, sa, _, _, _, rfl, rfl, hxs, at1, _, rfl, _, rfl, pb, _, _, _, rfl, rfl, hxb, at2, ?_⟩
          refine ⟨.ref na, .ref c1, .ref c2, n, st.getD j [], bt.getD j [], rfl, dp_same s3 dnH, hsm, hok, ⟨c1, rfl, .inl hc1⟩, ⟨c2, rfl, .inl hc2⟩, hst.each j hjL, by rw [lb.each j hjL, hni], by rw [lb.each j hjL]; omega, bits_mem (hst.bit j hjL), bits_mem (lb.bit j hjL), fun t l1 l2 H4 s4 n1 n2 ht h1 h2 => ?_⟩
          have h4 := s4 _ _ h3
          refine ⟨ys, h4, size_lt (by rw [dps_len hys, List.length_map, List.length_range]; omega), ys ++ [.ref t], same_mut (s3.trans s4) hD, upd_same, ?_⟩
          rw [List.range_succ, List.map_append]
          have q : ∀ b o, b ≠ D → H4 b = some o → upd H4 D (.lst (ys ++ [.ref t])) b = some o := fun b o nb e => by rw [upd_ne nb]; exact e
          have hi4 := s4 _ _ (s3 _ _ hole1.hi)
          have hd4 := s4 _ _ (s3 _ _ hole1.hd)
          obtain ⟨dks, _, hk4⟩ := (kH.same s3).same s4
          have hd3 := s3 _ _ hole1.hd
          have hi3 := s3 _ _ hole1.hi
          obtain ⟨dk3, _, hk3⟩ := kH.same s3
          have at_ : ∀ b o, b ≠ D → b ≠ dk → b ≠ pin → b ≠ pdue → H4 b = some o → del1 (del3 (upd H4 D (.lst (ys ++ [.ref t]))) dk pin pdue) D b = some o := fun b o a1 a2 a3 a4 e => by
            rw [del1_ne a1, del3_ne a2 a3 a4]
            exact q b o a1 e
          refine dps_snoc (dps_same (del31_step fun b o nb _ _ _ e => q b o nb (s4 _ _ e)) hys) (.tup (SqT.of (at_ _ _ ?_ ?_ ?_ ?_ ht)) (.cons (dp_listD (at_ _ _ ?_ ?_ ?_ ?_ h1)) (.cons (dp_listD (at_ _ _ ?_ ?_ ?_ ?_ h2)) .nil)))
          · intro z; rw [z, h4] at ht; cases ht
          · intro z; rw [z, hk4] at ht; cases ht
          · intro z; rw [z, hi4] at ht; cases ht
          · intro z; rw [z, hd4] at ht; cases ht
          · exact Ne.symm (ne_of_none h3 n1)
          · exact Ne.symm (ne_of_none hk3 n1)
          · exact Ne.symm (ne_of_none hi3 n1)
          · exact Ne.symm (ne_of_none hd3 n1)
          · exact Ne.symm (ne_of_none h3 n2)
          · exact Ne.symm (ne_of_none hk3 n2)
          · exact Ne.symm (ne_of_none hi3 n2)
          · exact Ne.symm (ne_of_none hd3 n2)
        rintro H5 ⟨ys, s5, h5, hys⟩
        have hys' : DpAll K (del1 (del3 H5 dk pin pdue) D) ys (((List.range L).map (rowP n st bt)).map fun r => .tuple [listD r.1, listD r.2]) := by
          rw [List.map_map]
          have e : ((L : Nat) : Int).toNat = L := Int.toNat_natCast L
          rw [e] at hys
          exact hys
        obtain ⟨us, hus, du0, du1⟩ := Paired.split hys'
        have ul : us.length ≤ 100 := by
          have := dps_len du0
          simp only [List.length_map, List.length_range] at this
          omega
        have e0 : (((List.range L).map (rowP n st bt)).map fun r => listD r.1) = (rowsL n L st bt n.outs).map listD := by
          rw [rowsL, List.map_map, List.map_map]
          rfl
        have e1 : (((List.range L).map (rowP n st bt)).map fun r => listD r.2) = (rowsL n L st bt n.nexts).map listD := by
          rw [rowsL, List.map_map, List.map_map]
          rfl
        rw [e0] at du0
        rw [e1] at du1
        have hus5 := paired_imp (fun v (x : V × V) (h : ∃ t, v = V.ref t ∧ SqT K _ t [x.1, x.2]) => (let ⟨t, e, z⟩ := h; ⟨t, e, Same.tup del31_sub z⟩ : ∃ t, v = V.ref t ∧ SqT K H5 t [x.1, x.2])) hus
        have W0 := step_words lb hst hni.symm rfl hok (ws := n.outs) (fun x hx => (okNet_parts hok).2.2.2.2 x (List.mem_append_right _ hx))
        have W1 := step_words lb hst hni.symm rfl hok (ws := n.nexts) (fun x hx => (okNet_parts hok).2.2.2.2 x (List.mem_append_left _ hx))
        have hnl := (okNet_parts hok).2.2.1
        -- row
        refine ⟨_, rfl, .ref pb, bt, ni, rfl, dp_same s5 dB, by omega, by omega, fun l hl => lb.each l (by omega), by omega, fun l hl => lb.bit l (by omega), fun pr H6 s6 npr hpr => ?_⟩
        -- outs
        have hD6 := s6 _ _ h5
        refine ⟨_, rfl, D, rfl, ⟨_, SqL.of hD6⟩, fun D3 hD3 => ?_⟩
        refine lc_rel (K := K) (a := D) (xs := ys) (as := us) (fun H v (x : V × V) => ∃ t, v = V.ref t ∧ SqT K H t [x.1, x.2]) (fun _ u y => u = y) (fun s h => let ⟨t, e, z⟩ := h; ⟨t, e, Same.tup s z⟩) (fun _ h => h) (fun _ => true) Prod.fst (SqL.of hD6) (paired_imp (fun v x h => let ⟨t, e, z⟩ := h; ⟨t, e, Same.tup s6 z⟩) hus5) hD3 (by omega) ?_ ?_
        · intro v x G2 acc R dm hv sG hG2 ha _ hyes
          obtain ⟨t, rfl, ht⟩ := hv
          refine ⟨rfl, _, rfl, t, _, 0, _, rfl, rfl, Same.tup (same_new hG2) ht, atI_nat (j := 0) rfl, acc, upd_same, ha, ?_⟩
          rw [upd_app]
          exact hyes rfl G2 _ (Same.refl _) hG2 rfl
        intro G2 ys2 sG2 hG2 hys2
        rw [List.filter_eq_self.mpr fun _ _ => rfl] at hys2
        cases paired_eq hys2
        have s7 : Same H6 (upd G2 D3 (.lst (us.map Prod.fst))) := sG2.trans (same_new hG2)
        have h7 : upd G2 D3 (.lst (us.map Prod.fst)) D3 = some (.lst (us.map Prod.fst)) := upd_same
        generalize upd G2 D3 (.lst (us.map Prod.fst)) = H7 at s7 h7
        have s57 := s6.trans s7
        refine ⟨.ref D3, rowsL n L st bt n.outs, n.outs.length, rfl, .lst (SqL.of h7) (dps_same (del31_sub.trans s57) du0), by rw [W0.2.len]; omega, by rw [W0.2.len]; omega, fun l hl => W0.2.each l (by rw [W0.2.len] at hl; exact hl), by omega, fun l hl => W0.2.bit l (by rw [W0.2.len] at hl; exact hl), fun po H8 s8 npo hpo => ?_⟩
        have s58 := s57.trans s8
        have hD8 := s58 _ _ h5
        refine ⟨_, rfl, D, rfl, ⟨_, SqL.of hD8⟩, fun D4 hD4 => ?_⟩
        refine lc_rel (K := K) (a := D) (xs := ys) (as := us) (fun H v (x : V × V) => ∃ t, v = V.ref t ∧ SqT K H t [x.1, x.2]) (fun _ u y => u = y) (fun s h => let ⟨t, e, z⟩ := h; ⟨t, e, Same.tup s z⟩) (fun _ h => h) (fun _ => true) Prod.snd (SqL.of hD8) (paired_imp (fun v x h => let ⟨t, e, z⟩ := h; ⟨t, e, Same.tup s58 z⟩) hus5) hD4 (by omega) ?_ ?_
        · intro v x G2 acc R dm hv sG hG2 ha _ hyes
          obtain ⟨t, rfl, ht⟩ := hv
          refine ⟨rfl, _, rfl, t, _, 1, _, rfl, rfl, Same.tup (same_new hG2) ht, atI_nat (j := 1) rfl, acc, upd_same, ha, ?_⟩
          rw [upd_app]
          exact hyes rfl G2 _ (Same.refl _) hG2 rfl
        intro G2 ys2 sG2 hG2 hys2
        rw [List.filter_eq_self.mpr fun _ _ => rfl] at hys2
        cases paired_eq hys2
        have s9 : Same H8 (upd G2 D4 (.lst (us.map Prod.snd))) := sG2.trans (same_new hG2)
        have h9 : upd G2 D4 (.lst (us.map Prod.snd)) D4 = some (.lst (us.map Prod.snd)) := upd_same
        generalize upd G2 D4 (.lst (us.map Prod.snd)) = H9x at s9 h9
        have s59 := s58.trans s9
        refine ⟨.ref D4, rowsL n L st bt n.nexts, n.nexts.length, rfl, .lst (SqL.of h9) (dps_same (del31_sub.trans s59) du1), by rw [W1.2.len]; omega, by rw [W1.2.len]; omega, fun l hl => W1.2.each l (by rw [W1.2.len] at hl; exact hl), by omega, fun l hl => W1.2.bit l (by rw [W1.2.len] at hl; exact hl), fun pa Ha sa2 npa hpa => ?_⟩
        have s5a := s59.trans sa2
        have sHa := s5.trans s5a
        have dna := dp_same sHa dnH
        have hfaa := sHa _ _ ((S1.trans s1) _ _ hfa)
        have hpra := ((s7.trans s8).trans (s9.trans sa2)) _ _ hpr
        have hpoa := (s9.trans sa2) _ _ hpo
        have gI : goodNs L n.inp (words bt ni) = true := by rw [hni]; exact words_good lb
        have gF : goodNs L n.firsts.length (words st n.firsts.length) = true := words_good hst
        have wl1 : (words bt ni).length ≤ 1000 := by rw [words_len]; omega
        have wl2 : (words st n.firsts.length).length ≤ 1000 := by rw [words_len]; omega
        refine ⟨_, rfl, _, rfl, _, rfl, fa, _, rfl, .inl ⟨SqL.of hfaa, fun tf ntf => ?_⟩⟩
        have u1 := same_new (o := HO.tup ((words st n.firsts.length).map V.int)) ntf
        refine ⟨_, rfl, pr, _, rfl, .inl ⟨SqL.of (u1 _ _ hpra), fun tr ntr => ?_⟩⟩
        have u2 := same_new (o := HO.tup ((words bt ni).map V.int)) ntr
        have u12 := u1.trans u2
        refine ⟨.ref na, .ref tf, .ref tr, (L : Int), rfl, .inl ⟨n, words st n.firsts.length, words bt ni, ⟨dp_same u12 dna, hsm, hok, by omega, ⟨tf, rfl, .inr (SqT.of (u2 _ _ upd_same))⟩, ⟨tr, rfl, .inr (SqT.of upd_same)⟩, wl2, wl1⟩, fun q => absurd q (by omega), fun _ e => absurd e (by rw [gI]; decide), fun _ _ e => absurd e (by rw [gF]; decide), fun _ _ _ t l1 l2 Hb sb _ _ ht h1 h2 => ?_⟩⟩
        rw [W0.1] at h1
        rw [W1.1] at h2
        have nP : numD 7 (.tuple [listD (words (rowsL n L st bt n.outs) n.outs.length), listD (words (rowsL n L st bt n.nexts) n.nexts.length)]) = true := num_pair 5 (by rw [words_len]; omega) (by rw [words_len]; omega)
        refine ⟨.ref t, _, rfl, .tup (SqT.of ht) (.cons (dp_listD h1) (.cons (dp_listD h2) .nil)), (num_flat nP).2, fun x1 Hc sc dx1 => ?_⟩
        have sac := (u12.trans sb).trans sc
        refine ⟨_, rfl, _, rfl, (show 2 ≤ sizeLine by decide), fun tp ntp => ?_⟩
        have u3 := same_new (o := HO.tup [V.ref po, V.ref pa]) ntp
        have sad := sac.trans u3
        refine ⟨.ref tp, _, rfl, .tup (SqT.of upd_same) (.cons (dp_listD (sad _ _ hpoa)) (.cons (dp_listD (sad _ _ hpa)) .nil)), (num_flat nP).2, fun x2 Hd sd dx2 => ?_⟩
        refine ⟨_, _, dp_same (u3.trans sd) dx1, dx2, num_shaped nP (by decide), num_shaped nP (by decide), _, rfl, ?_⟩
        refine ifF (by rw [num_eqv nP (by decide)]; rfl) ?_
        have sHd := sHa.trans (sad.trans sd)
        have hpin := sHd _ _ hole1.hi
        have hpdue := sHd _ _ hole1.hd
        have hprd := (sad.trans sd) _ _ hpra
        have hpod := (sad.trans sd) _ _ hpoa
        have hpad := (sad.trans sd) _ _ hpa
        have hDd := (s5a.trans (sad.trans sd)) _ _ h5
        have npr1 : H' pr = none := none_of_same s5 npr
        have npo1 : H' po = none := none_of_same (s5.trans s57) npo
        have npa1 : H' pa = none := none_of_same (s5.trans s59) npa
        obtain ⟨dks, hdk1, hdk2⟩ := kH.same sHd
        have xl : xi.length ≤ 4 := by rw [dps_len dxi, List.length_map]; omega
        have yl : xd.length ≤ 4 := by rw [dps_len dxd, List.length_map, runW_len]; omega
        -- inputs.append, due.append
        refine ⟨_, rfl, .inl ⟨rfl, _, SqL.of hpin⟩, _, rfl, _, _, _, rfl, rfl, hpin, size_lt (by omega), ?_⟩
        have hpdue2 : upd Hd pin (.lst (xi ++ [.ref pr])) pdue = some (.lst xd) := by rw [upd_ne npd]; exact hpdue
        refine ⟨_, rfl, .inl ⟨rfl, _, SqL.of hpdue2⟩, _, rfl, _, _, _, rfl, rfl, hpdue2, size_lt (by omega), ?_⟩
        -- states, flops
        generalize hHe : upd (upd Hd pin (.lst (xi ++ [.ref pr]))) pdue (.lst (xd ++ [.ref po])) = He
        have he_ : ∀ b o, b ≠ pin → b ≠ pdue → Hd b = some o → He b = some o := fun b o q1 q2 e => by rw [← hHe, upd_ne q2, upd_ne q1]; exact e
        have hDe := he_ _ _ nDi nDd hDd
        have R3 : Same (del1 (del3 H5 dk pin pdue) D) (del3 He dk pin pdue) := (show Same (del1 (del3 H5 dk pin pdue) D) (del3 H5 dk pin pdue) from del1_sub).trans (del3_same fun b o _ q1 q2 e => he_ b o q1 q2 ((s5a.trans (sad.trans sd)) _ _ e))
        refine ⟨_, rfl, D, rfl, ⟨_, SqL.of hDe⟩, fun D5 hD5 => ?_⟩
        refine lc_rel (K := K) (a := D) (xs := ys) (as := us) (fun H v (x : V × V) => ∃ t, v = V.ref t ∧ SqT K H t [x.1, x.2]) (fun _ u y => u = y) (fun s h => let ⟨t, e, z⟩ := h; ⟨t, e, Same.tup s z⟩) (fun _ h => h) (fun _ => true) Prod.snd (SqL.of hDe) (paired_imp (fun v x h => let ⟨t, e, z⟩ := h; ⟨t, e, Same.tup (R3.trans del3_sub) z⟩) hus) hD5 (by omega) ?_ ?_
        · intro v x G2 acc R dm hv sG hG2 ha _ hyes
          obtain ⟨t, rfl, ht⟩ := hv
          refine ⟨rfl, _, rfl, t, _, 1, _, rfl, rfl, Same.tup (same_new hG2) ht, atI_nat (j := 1) rfl, acc, upd_same, ha, ?_⟩
          rw [upd_app]
          exact hyes rfl G2 _ (Same.refl _) hG2 rfl
        intro G2 ys2 sG2 hG2 hys2
        rw [List.filter_eq_self.mpr fun _ _ => rfl] at hys2
        cases paired_eq hys2
        have sf : Same He (upd G2 D5 (.lst (us.map Prod.snd))) := sG2.trans (same_new hG2)
        have hD5f : upd G2 D5 (.lst (us.map Prod.snd)) D5 = some (.lst (us.map Prod.snd)) := upd_same
        generalize upd G2 D5 (.lst (us.map Prod.snd)) = Hf at sf hD5f
        have hdke : He dk = some (.lst (dks.map V.int)) := he_ _ _ (Ne.symm npi) (Ne.symm npd0) hdk2
        have hpie : He pin = some (.lst (xi ++ [.ref pr])) := by rw [← hHe, upd_ne (Ne.symm npd), upd_same]
        have hpde : He pdue = some (.lst (xd ++ [.ref po])) := by rw [← hHe, upd_same]
        obtain ⟨holeF, SF⟩ := hole.step (H' := Hf) (fun b o q0 q1 q2 e => sf _ _ (he_ _ _ q1 q2 (sHd _ _ (bH _ _ q0 e)))) ⟨dks, hdk1, sf _ _ hdke⟩ (sf _ _ hpie) (sf _ _ hpde)
        have newF : ∀ {p : Addr} {xs : List Int}, H' p = none → Hd p = some (.lst (xs.map V.int)) → del3 Hf dk pin pdue p = some (.lst (xs.map V.int)) := fun {p xs} q e => by
          have q1 : p ≠ pin := Ne.symm (ne_of_none hole1.hi q)
          have q2 : p ≠ pdue := Ne.symm (ne_of_none hole1.hd q)
          rw [del3_ne (Deck.ne kH q) q1 q2]
          exact sf _ _ (he_ _ _ q1 q2 e)
        have eW : outsOf (valsW n L (flsW n L (firstsW n L) rs) (words bt ni)) n.nexts = words (rowsL n L st bt n.nexts) n.firsts.length := by rw [← hfl, W1.1, hnl]
        have eO : outsOf (valsW n L (flsW n L (firstsW n L) rs) (words bt ni)) n.outs = words (rowsL n L st bt n.outs) n.outs.length := by rw [← hfl, W0.1]
        refine ⟨_, rfl, del3 Hf dk pin pdue, xi ++ [.ref pr], xd ++ [.ref po], pa, D5, rowsL n L st bt n.nexts, rs ++ [words bt ni], _, _, _, _, _, _, _, _, rfl, holeF, by rw [List.length_append, hrs]; rfl, hnl ▸ W1.2, by rw [flsW_snoc, eW], goodR_snoc hgr gI (hfl ▸ gF) wl1 (hfl ▸ wl2), dp_same SF dnG, ?_, ?_, ?_, ?_⟩
        · rw [hnl] at hpad
          exact newF npa1 hpad
        · refine .lst (SqL.of (?_ : del3 Hf dk pin pdue D5 = some (.lst (us.map Prod.snd)))) (dps_same (R3.trans (del3_same fun b o _ _ _ e => sf _ _ e)) du1)
          rw [del3_ne (Ne.symm (ne_of_none hdke hD5)) (Ne.symm (ne_of_none hpie hD5)) (Ne.symm (ne_of_none hpde hD5))]
          exact hD5f
        · rw [List.map_append]
          exact dps_snoc (dps_same SF dxi) (dp_listD (newF npr1 hprd))
        · rw [runW_snoc, List.map_append, eO]
          exact dps_snoc (dps_same SF dxd) (dp_listD (newF npo1 hpod))
    · rintro σ H ⟨G, xi, xd, fa, sa, st, rs, o8, o9, o10, o11, o12, o13, o14, o15, rfl, hole, hrs, hst, hfl, hgr, dnG, hfa, dsa, dxi, dxd⟩
      have hrl : rs.length ≤ 4 := by omega
      have drs : Dp K H (.ref pin) (.list (rs.map listD)) := .lst (SqL.of hole.hi) (dps_same hole.keep dxi)
      refine ⟨_, rfl, _, rfl, _, rfl, .ref na, .ref pin, n, L, rs, rfl, dp_same hole.keep dnG, hsm, hok, by omega, drs, by omega, fun q => absurd q (by omega), fun _ => hgr, fun _ u1 Ha sa1 du1 => ?_⟩
      have nR : numD 7 (.list ((runW n L (firstsW n L) rs).map listD)) = true := num_rows 5 (by rw [runW_len]; omega) (fun r hm => by rw [runW_row r hm]; omega)
      refine ⟨_, _, rfl, du1, (num_flat nR).2, fun x1 Hb sb dx1 => ?_⟩
      have hpd : Ha pdue = some (.lst xd) := sa1 _ _ hole.hd
      have dxa := dps_same (hole.keep.trans sa1) dxd
      refine ⟨_, rfl, .ref pdue, _, rfl, .lst (SqL.of (sb _ _ hpd)) (dps_same sb dxa), (num_flat nR).2, fun x2 Hc sc dx2 => ?_⟩
      refine ⟨_, _, dp_same sc dx1, dx2, num_shaped nR (by decide), num_shaped nR (by decide), _, rfl, ?_⟩
      refine ifF (by rw [num_eqv nR (by decide)]; rfl) ?_
      have sac := (sa1.trans sb).trans sc
      have dkc := hole.deck.same sac
      have dnc := dp_same (hole.keep.trans sac) dnG
      have hs5 : Small5 n := ⟨by omega, by rw [(okNet_parts hok).2.2.1]; omega, by omega, by omega, hsm.2.2.2.2⟩
      refine ⟨_, rfl, _, rfl, dk, .ref na, n, rfl, dkc, dnc, hs5, hok, fun u d Hd bd kd dud hbad => ?_⟩
      have dnd := dp_keep (KeepT.of_but dkc bd) (noL_net n) dnc
      have nfk : fa ≠ dk := fun z => by rw [z, hole.gk] at hfa; cases hfa
      have hfad := bd _ _ nfk ((hole.keep.trans sac) _ _ hfa)
      refine ⟨Nat.zero_le _, fun q1 nq1 => ⟨(show 1 ≤ sizeLine by decide), fun q2 nq2 => ?_⟩⟩
      have v1 := same_new (o := HO.lst []) nq1
      have v2 := same_new (o := HO.lst [V.int 9]) nq2
      refine ⟨u, .ref q1, .ref q2, 0, "form", rfl, fun Q' E' r => ?_, fun He se => ?_⟩
      · refine ⟨u, .ref q1, .ref q2, 0, rfl, ?_⟩
        rcases hbad with ⟨m, rfl, m1, m2⟩ | ⟨ds, rfl, m1⟩
        · exact .inr (.inl ⟨m, dp_same (v1.trans v2) dud, m1, m2, r⟩)
        · exact .inr (.inr ⟨ds, dp_same (v1.trans v2) dud, m1, r⟩)
      have nine : (List.replicate (9 : Int).toNat [V.int 0]).flatten = (List.replicate 9 (0 : Int)).map V.int := rfl
      have w1 := (v1.trans v2).trans se
      have dne := dp_same w1 dnd
      have kde := kd.same w1
      -- _law_refusal(net, 0, [], [0] * 9)
      refine ⟨_, rfl, Nat.zero_le _, fun q3 nq3 => ⟨(show 1 ≤ sizeLine by decide), fun q4 nq4 => ⟨q4, 9, _, rfl, rfl, upd_same, by decide, by decide, (show 1 * 9 ≤ sizeLine by decide), fun q5 nq5 => ?_⟩⟩⟩
      have v3 := same_new (o := HO.lst []) nq3
      have v4 := same_new (o := HO.lst [V.int 0]) nq4
      rw [nine] at *
      have v5 := same_new (o := HO.lst ((List.replicate 9 (0 : Int)).map V.int)) nq5
      have v345 := (v3.trans v4).trans v5
      refine ⟨.ref na, .ref q3, .ref q5, 0, "lanes", rfl, fun Q' E' r => ?_, fun Hf sf => ?_⟩
      · exact ⟨_, _, _, _, rfl, .inl ⟨n, [], List.replicate 9 0, ⟨dp_same v345 dne, hsm, hok, by decide, ⟨q3, rfl, .inl (SqL.of ((v4.trans v5) _ _ upd_same))⟩, ⟨q5, rfl, .inl (SqL.of upd_same)⟩, by decide, by decide⟩, fun _ => r, fun q => absurd q (by decide), fun q => absurd q (by decide), fun q => absurd q (by decide)⟩⟩
      have w2 := v345.trans sf
      have dnf := dp_same w2 dne
      have kdf := kde.same w2
      -- _law_refusal(net, lanes, [0] * 9, [0] * 9)
      refine ⟨_, rfl, _, rfl, (show 1 ≤ sizeLine by decide), fun q6 nq6 => ⟨q6, 9, _, rfl, rfl, upd_same, by decide, by decide, (show 1 * 9 ≤ sizeLine by decide), fun q7 nq7 => ⟨(show 1 ≤ sizeLine by decide), fun q8 nq8 => ⟨q8, 9, _, rfl, rfl, upd_same, by decide, by decide, (show 1 * 9 ≤ sizeLine by decide), fun q9 nq9 => ?_⟩⟩⟩⟩
      rw [nine] at *
      have x6 := same_new (o := HO.lst [V.int 0]) nq6
      have x7 := same_new (o := HO.lst ((List.replicate 9 (0 : Int)).map V.int)) nq7
      have x8 := same_new (o := HO.lst [V.int 0]) nq8
      have x9 := same_new (o := HO.lst ((List.replicate 9 (0 : Int)).map V.int)) nq9
      have x69 := ((x6.trans x7).trans x8).trans x9
      have bad9 : goodNs L n.inp (List.replicate 9 0) = false := by
        unfold goodNs
        rw [List.length_replicate, decide_eq_false (by omega), Bool.false_and]
      refine ⟨.ref na, .ref q7, .ref q9, (L : Int), "inputs", rfl, fun Q' E' r => ?_, fun Hg sg => ?_⟩
      · exact ⟨_, _, _, _, rfl, .inl ⟨n, List.replicate 9 0, List.replicate 9 0, ⟨dp_same x69 dnf, hsm, hok, by omega, ⟨q7, rfl, .inl (SqL.of ((x8.trans x9) _ _ upd_same))⟩, ⟨q9, rfl, .inl (SqL.of upd_same)⟩, by decide, by decide⟩, fun q => absurd q (by omega), fun _ _ => r, fun _ e => absurd e (by rw [bad9]; decide), fun _ e => absurd e (by rw [bad9]; decide)⟩⟩
      have w3 := x69.trans sg
      have dng := dp_same w3 dnf
      have kdg := kdf.same w3
      have hfag := w3 _ _ (w2 _ _ (w1 _ _ hfad))
      refine ⟨(show 3 ≤ sizeLine by decide), fun pt npt => ?_⟩
      have nfp : fa ≠ pt := ne_of_none hfag npt
      have t1 := same_new (o := HO.lst [V.str "form", V.str "lanes", V.str "inputs"]) npt
      have hpt : upd Hg pt (.lst [V.str "form", V.str "lanes", V.str "inputs"]) pt = some (.lst [V.str "form", V.str "lanes", V.str "inputs"]) := upd_same
      have dnh := dp_same t1 dng
      have hfah := t1 _ _ hfag
      have kdh := kdg.same t1
      generalize upd Hg pt (.lst [V.str "form", V.str "lanes", V.str "inputs"]) = Hh at t1 hpt dnh kdh hfah
      obtain ⟨ni, hni⟩ := Int.eq_ofNat_of_zero_le (okNet_parts hok).1
      have hni4 : ni ≤ 4 := by omega
      obtain ⟨ea, eaf, ean, eag, eao, exg, ee, ex, _⟩ := net_dp dnh
      cases ee
      -- told.append(_law_refusal(net, 1, [0] * 9, [0] * net[0]))
      refine ⟨_, rfl, .inl ⟨rfl, _, SqL.of hpt⟩, _, rfl, (show 1 ≤ sizeLine by decide), fun g1 ng1 => ⟨g1, 9, _, rfl, rfl, upd_same, by decide, by decide, (show 1 * 9 ≤ sizeLine by decide), fun g2 ng2 => ⟨(show 1 ≤ sizeLine by decide), fun g3 ng3 => ?_⟩⟩⟩
      have y1 := same_new (o := HO.lst [V.int 0]) ng1
      have y2 := same_new (o := HO.lst (List.replicate (9 : Int).toNat [V.int 0]).flatten) ng2
      have y3 := same_new (o := HO.lst [V.int 0]) ng3
      have y123 := (y1.trans y2).trans y3
      refine ⟨_, rfl, na, _, 0, _, rfl, rfl, Same.tup y123 ex, atI_nat (j := 0) rfl, g3, n.inp, _, rfl, rfl, upd_same, by omega, by omega, (show 1 * n.inp.toNat ≤ sizeLine from Nat.le_trans (show 1 * n.inp.toNat ≤ 100000 by omega) (by decide)), fun g4 ng4 => ?_⟩
      have y4 := same_new (o := HO.lst (List.replicate n.inp.toNat [V.int 0]).flatten) ng4
      have y14 := y123.trans y4
      have hg2 : upd (upd (upd (upd Hh g1 (.lst [V.int 0])) g2 (.lst (List.replicate (9 : Int).toNat [V.int 0]).flatten)) g3 (.lst [V.int 0])) g4 (.lst (List.replicate n.inp.toNat [V.int 0]).flatten) g2 = some (.lst ((List.replicate 9 (0 : Int)).map V.int)) := (y3.trans y4) _ _ (by rw [← flat_rep]; exact upd_same)
      have hg4 : upd (upd (upd (upd Hh g1 (.lst [V.int 0])) g2 (.lst (List.replicate (9 : Int).toNat [V.int 0]).flatten)) g3 (.lst [V.int 0])) g4 (.lst (List.replicate n.inp.toNat [V.int 0]).flatten) g4 = some (.lst ((List.replicate ni (0 : Int)).map V.int)) := by
        rw [upd_same, flat_rep, hni]
        rfl
      have bad9f : goodNs 1 n.firsts.length (List.replicate 9 0) = false := by
        unfold goodNs
        rw [List.length_replicate, decide_eq_false (by omega), Bool.false_and]
      have good0 : goodNs 1 n.inp (List.replicate ni 0) = true := by
        rw [hni]
        exact good_zeros
      refine ⟨.ref na, .ref g2, .ref g4, 1, "flops", rfl, fun Q' E' r => ?_, fun Hi si => ?_⟩
      · exact ⟨_, _, _, _, rfl, .inl ⟨n, List.replicate 9 0, List.replicate ni 0, ⟨dp_same y14 dnh, hsm, hok, by decide, ⟨g2, rfl, .inl (SqL.of hg2)⟩, ⟨g4, rfl, .inl (SqL.of hg4)⟩, by decide, by rw [List.length_replicate]; omega⟩, fun q => absurd q (by decide), fun _ e => absurd good0 (by rw [e]; decide), fun _ _ _ => r, fun _ _ e => absurd e (by rw [bad9f]; decide)⟩⟩
      have y14i := y14.trans si
      have hpt2 := y14i _ _ hpt
      have dni := dp_same y14i dnh
      have kdi := kdh.same y14i
      have npk : pt ≠ dk := Deck.ne kdg npt
      refine ⟨_, _, _, rfl, rfl, hpt2, (show 3 < sizeLine by decide), ?_⟩
      have KJ : KeepT Hi (upd Hi pt (.lst ([V.str "form", V.str "lanes", V.str "inputs"] ++ [V.str "flops"]))) := KeepT.upd (KeepT.of_same (Same.refl _)) hpt2
      have dnj := dp_keep KJ (noL_net n) dni
      have kdj : Deck (upd Hi pt (.lst ([V.str "form", V.str "lanes", V.str "inputs"] ++ [V.str "flops"]))) dk := by
        obtain ⟨ds, d1, d2⟩ := kdi
        exact ⟨ds, d1, by rw [upd_ne (Ne.symm npk)]; exact d2⟩
      have hptj : upd Hi pt (.lst ([V.str "form", V.str "lanes", V.str "inputs"] ++ [V.str "flops"])) pt = some (.lst ([V.str "form", V.str "lanes", V.str "inputs"] ++ [V.str "flops"])) := upd_same
      have hfaj : upd Hi pt (.lst ([V.str "form", V.str "lanes", V.str "inputs"] ++ [V.str "flops"])) fa = some (.lst ((words st n.firsts.length).map V.int)) := by rw [upd_ne nfp]; exact y14i _ _ hfah
      generalize upd Hi pt (.lst ([V.str "form", V.str "lanes", V.str "inputs"] ++ [V.str "flops"])) = Hj at dnj kdj hptj hfaj
      -- if _law_unlit(net) != 'lanes'
      refine ⟨_, rfl, .ref na, n, rfl, dnj, hsm, hok, fun Hk sk => ⟨rfl, _, rfl, ?_⟩⟩
      refine iteF ?_
      have dnk := dp_same sk dnj
      have kdk := kdj.same sk
      have hptk := sk _ _ hptj
      have hfak := sk _ _ hfaj
      clear hg2 hg4
      obtain ⟨_, _, _, _, _, _, fe, fxk, _⟩ := net_dp dnk
      cases fe
      -- if net[0] > 0
      refine ⟨fun σ' H' => σ' = [some (.ref a), some (.ref dk), some (.ref na), some (.int L), some (.ref fa), some (.ref sa), some (.ref pin), some (.ref pdue), o8, o9, o10, o11, o12, o13, o14, o15, some (.ref pt), none, none, none] ∧ Dp K H' (.ref na) (netD n) ∧
        H' pt = some (.lst ([V.str "form", V.str "lanes", V.str "inputs", V.str "flops"] ++ (if 0 < n.inp then [V.str "inputs"] else []))), ?_, ?_⟩
      · refine ⟨_, rfl, na, _, 0, _, rfl, rfl, fxk, atI_nat (j := 0) rfl, _, _, rfl, rfl, _, rfl, ?_⟩
        refine ite2 (fun hb => ?_) (fun hb => ?_)
        · have hp : 0 < n.inp := of_decide_eq_true hb
          refine ⟨_, rfl, .inl ⟨rfl, _, SqL.of hptk⟩, _, rfl, _, rfl, _, rfl, _, rfl, _, _, rfl, rfl, ⟨by omega, by omega, by decide⟩, _, rfl, (show 2 ≤ sizeLine by decide), fun q1 m1 => ?_⟩
          have z1 := same_new (o := HO.lst [V.int (1 * 2 ^ (L : Int).toNat), V.int (-1)]) m1
          have s1k := z1
          have k1' := kdk.same z1
          refine ⟨_, rfl, dk, 2, rfl, by decide, k1', fun r Hl r0 r1 bl kl => ?_⟩
          have hq1 : Hl q1 = some (.lst [V.int (1 * 2 ^ (L : Int).toNat), V.int (-1)]) := bl _ _ (Deck.ne kdk m1) upd_same
          have hptl := bl _ _ npk (z1 _ _ hptk)
          have hfal := bl _ _ nfk (z1 _ _ hfak)
          have dnl := dp_keep (KeepT.of_but k1' bl) (noL_net n) (dp_same z1 dnk)
          obtain ⟨w, hw, gw⟩ : ∃ w : Int, atI [V.int (1 * 2 ^ (L : Int).toNat), V.int (-1)] r = some (.int w) ∧ goodN L w = false := by
            have : r = 0 ∨ r = 1 := by omega
            rcases this with rfl | rfl
            · refine ⟨_, rfl, ?_⟩
              unfold goodN
              rw [Int.one_mul, Int.ediv_self (Int.ne_of_gt (Int.pow_pos (by decide)))]
              simp
            · exact ⟨-1, rfl, by unfold goodN; simp⟩
          refine ⟨q1, _, r, _, rfl, rfl, SqL.of hq1, hw, (show 1 ≤ sizeLine by decide), fun q2 m2 => ?_⟩
          have z2 := same_new (o := HO.lst [V.int w]) m2
          refine ⟨(show 1 ≤ sizeLine by decide), fun q3 m3 => ?_⟩
          have z3 := same_new (o := HO.lst [V.int 0]) m3
          have z23 := z2.trans z3
          obtain ⟨_, _, _, _, _, _, fe, fxl, _⟩ := net_dp (dp_same z23 dnl)
          cases fe
          refine ⟨_, rfl, na, _, 0, _, rfl, rfl, fxl, atI_nat (j := 0) rfl, _, _, rfl, rfl, q3, n.inp - 1, _, rfl, rfl, upd_same, by omega, by omega, (show 1 * (n.inp - 1).toNat ≤ sizeLine from Nat.le_trans (show 1 * (n.inp - 1).toNat ≤ 100000 by omega) (by decide)), fun q4 m4 => ?_⟩
          have z4 := same_new (o := HO.lst (List.replicate (n.inp - 1).toNat [V.int 0]).flatten) m4
          have z34 := z3.trans z4
          refine ⟨q2, q4, [V.int w], _, rfl, rfl, z34 _ _ upd_same, upd_same, ?_, fun q5 m5 => ?_⟩
          · rw [flat_rep]
            exact Nat.le_trans (show ([V.int w]).length + ((List.replicate (n.inp - 1).toNat (0 : Int)).map V.int).length ≤ 100000 by rw [List.length_map, List.length_replicate]; show 1 + _ ≤ _; omega) (by decide)
          have z5 := same_new (o := HO.lst ([V.int w] ++ (List.replicate (n.inp - 1).toNat [V.int 0]).flatten)) m5
          have z25 := (z2.trans z34).trans z5
          have hq5 : ∀ Hx : Hp, upd Hx q5 (.lst ([V.int w] ++ (List.replicate (n.inp - 1).toNat [V.int 0]).flatten)) q5 = some (.lst ((w :: List.replicate (n.inp - 1).toNat (0 : Int)).map V.int)) := fun Hx => by
            rw [upd_same, flat_rep]
            rfl
          have badw : goodNs L n.inp (w :: List.replicate (n.inp - 1).toNat 0) = false := by
            unfold goodNs
            rw [List.all_cons, gw, Bool.false_and, Bool.and_false]
          refine ⟨.ref na, .ref fa, .ref q5, (L : Int), "inputs", rfl, fun Q' E' r => ?_, fun Hm sm => ?_⟩
          · refine ⟨_, _, _, _, rfl, .inl ⟨n, words st n.firsts.length, w :: List.replicate (n.inp - 1).toNat 0, ⟨dp_same z25 dnl, hsm, hok, by omega, ⟨fa, rfl, .inl (SqL.of (z25 _ _ hfal))⟩, ⟨q5, rfl, .inl (SqL.of (hq5 _))⟩, by rw [words_len]; omega, by rw [List.length_cons, List.length_replicate]; omega⟩, fun q => absurd q (by omega), fun _ _ => r, fun _ e => absurd e (by rw [badw]; decide), fun _ e => absurd e (by rw [badw]; decide)⟩⟩
          have hptm := (z25.trans sm) _ _ hptl
          refine ⟨_, _, _, rfl, rfl, hptm, (show 4 < sizeLine by decide), rfl, dp_keep (KeepT.upd (KeepT.of_same (Same.refl _)) hptm) (noL_net n) (dp_same (z25.trans sm) dnl), ?_⟩
          rw [upd_same, if_pos hp]
          rfl
        · have hp : ¬ 0 < n.inp := fun z => hb (decide_eq_true z)
          refine ⟨rfl, dnk, ?_⟩
          rw [hptk, if_neg hp]
          rfl
      · rintro σ' H' ⟨rfl, dnz, hptz⟩
        refine ⟨_, rfl, (show 4 ≤ sizeLine by decide), fun e1 m1 => ⟨(show 1 ≤ sizeLine by decide), fun e2 m2 => ?_⟩⟩
        have z1 := same_new (o := HO.lst [V.str "form", V.str "lanes", V.str "inputs", V.str "flops"]) m1
        have z2 := same_new (o := HO.lst [V.str "inputs"]) m2
        have z12 := z1.trans z2
        obtain ⟨_, _, _, _, _, _, fe, fxl, _⟩ := net_dp (dp_same z12 dnz)
        cases fe
        refine ⟨_, rfl, na, _, 0, _, rfl, rfl, fxl, atI_nat (j := 0) rfl, _, _, rfl, rfl, .inr ⟨_, rfl, ?_⟩⟩
        by_cases hp : 0 < n.inp
        · rw [if_pos hp] at hptz
          rw [decide_eq_true hp]
          refine ⟨e2, 1, _, rfl, rfl, upd_same, by decide, by decide, (show 1 * 1 ≤ sizeLine by decide), fun e3 m3 => ?_⟩
          have z3 := same_new (o := HO.lst (List.replicate (Int.toNat 1) [V.str "inputs"]).flatten) m3
          refine ⟨e1, e3, _, _, rfl, rfl, (z2.trans z3) _ _ upd_same, upd_same, (show 4 + 1 ≤ sizeLine by decide), fun e4 m4 => ?_⟩
          have z4 := same_new (o := HO.lst ([V.str "form", V.str "lanes", V.str "inputs", V.str "flops"] ++ (List.replicate (Int.toNat 1) [V.str "inputs"]).flatten)) m4
          have dd : ∀ Hx : Hp, DpAll K Hx [V.str "form", V.str "lanes", V.str "inputs", V.str "flops", V.str "inputs"] [.str "form", .str "lanes", .str "inputs", .str "flops", .str "inputs"] := fun Hx => .cons (.str _) (.cons (.str _) (.cons (.str _) (.cons (.str _) (.cons (.str _) .nil))))
          refine ⟨.list [.str "form", .str "lanes", .str "inputs", .str "flops", .str "inputs"], .list [.str "form", .str "lanes", .str "inputs", .str "flops", .str "inputs"], .lst (SqL.of ((z12.trans (z3.trans z4)) _ _ hptz)) (dd _), .lst (SqL.of upd_same) (dd _), by decide +kernel, by decide +kernel, ?_⟩
          rw [SeqAt.eqv_refl _ (SeqAt.canLay_of_shaped (by decide +kernel))]
          exact k _
        · rw [if_neg hp, List.append_nil] at hptz
          rw [decide_eq_false hp]
          refine ⟨e2, 0, _, rfl, rfl, upd_same, by decide, by decide, (show 1 * 0 ≤ sizeLine by decide), fun e3 m3 => ?_⟩
          have z3 := same_new (o := HO.lst (List.replicate (Int.toNat 0) [V.str "inputs"]).flatten) m3
          refine ⟨e1, e3, _, _, rfl, rfl, (z2.trans z3) _ _ upd_same, upd_same, (show 4 + 0 ≤ sizeLine by decide), fun e4 m4 => ?_⟩
          have z4 := same_new (o := HO.lst ([V.str "form", V.str "lanes", V.str "inputs", V.str "flops"] ++ (List.replicate (Int.toNat 0) [V.str "inputs"]).flatten)) m4
          have dd : ∀ Hx : Hp, DpAll K Hx [V.str "form", V.str "lanes", V.str "inputs", V.str "flops"] [.str "form", .str "lanes", .str "inputs", .str "flops"] := fun Hx => .cons (.str _) (.cons (.str _) (.cons (.str _) (.cons (.str _) .nil)))
          refine ⟨.list [.str "form", .str "lanes", .str "inputs", .str "flops"], .list [.str "form", .str "lanes", .str "inputs", .str "flops"], .lst (SqL.of ((z12.trans (z3.trans z4)) _ _ hptz)) (dd _), .lst (SqL.of upd_same) (dd _), by decide +kernel, by decide +kernel, ?_⟩
          rw [SeqAt.eqv_refl _ (SeqAt.canLay_of_shaped (by decide +kernel))]
          exact k _
end
end Q03



namespace Q03
open PySem L2 G M03 NdefX
open C8 (Cal Met Mak pe_c pe_mk pe_mt pe_mt0 pe_gc pss_cut tCut)
/-! ### what the top has written, the head -/
theorem all_mk {l : PySem.W.OpenLaw} {w : World} {K : PySem.W.Frag} {h : Heap} {mg : Str → Option Value} {fa f__law_deck f__law_take f__law_plain f_is_count f_is_gate f_check_net f_check_lanes f_values_of f_step_values f_step_net f_first_flops f_run_net f__law_net f__law_net_step f__law_lanes f__law_refusal f__law_unlit f__law_bent f_law C_InvalidNet f_InvalidNet cc_InvalidNet cda_InvalidNet : Addr} (X : K.In h) (G : h.Ns mainGlobals mg) (hfa : mg "law" = some (.ref fa))
    {od__law_deck an__law_deck : Option Addr} {sl__law_deck : Array (Option Value)} {oc__law_deck kV__law_deck dc__law_deck pm__law_deck cd__law_deck ct__law_deck : Value}
    {od__law_take an__law_take : Option Addr} {sl__law_take : Array (Option Value)} {oc__law_take kV__law_take dc__law_take pm__law_take cd__law_take ct__law_take : Value}
    {od__law_plain an__law_plain : Option Addr} {sl__law_plain : Array (Option Value)} {oc__law_plain kV__law_plain dc__law_plain pm__law_plain cd__law_plain ct__law_plain : Value}
    {od_is_count an_is_count : Option Addr} {sl_is_count : Array (Option Value)} {oc_is_count kV_is_count dc_is_count pm_is_count cd_is_count ct_is_count : Value}
    {od_is_gate an_is_gate : Option Addr} {sl_is_gate : Array (Option Value)} {oc_is_gate kV_is_gate dc_is_gate pm_is_gate cd_is_gate ct_is_gate : Value}
    {od_check_net an_check_net : Option Addr} {sl_check_net : Array (Option Value)} {oc_check_net kV_check_net dc_check_net pm_check_net cd_check_net ct_check_net : Value}
    {od_check_lanes an_check_lanes : Option Addr} {sl_check_lanes : Array (Option Value)} {oc_check_lanes kV_check_lanes dc_check_lanes pm_check_lanes cd_check_lanes ct_check_lanes : Value}
    {od_values_of an_values_of : Option Addr} {sl_values_of : Array (Option Value)} {oc_values_of kV_values_of dc_values_of pm_values_of cd_values_of ct_values_of : Value}
    {od_step_values an_step_values : Option Addr} {sl_step_values : Array (Option Value)} {oc_step_values kV_step_values dc_step_values pm_step_values cd_step_values ct_step_values : Value}
    {od_step_net an_step_net : Option Addr} {sl_step_net : Array (Option Value)} {oc_step_net kV_step_net dc_step_net pm_step_net cd_step_net ct_step_net : Value}
    {od_first_flops an_first_flops : Option Addr} {sl_first_flops : Array (Option Value)} {oc_first_flops kV_first_flops dc_first_flops pm_first_flops cd_first_flops ct_first_flops : Value}
    {od_run_net an_run_net : Option Addr} {sl_run_net : Array (Option Value)} {oc_run_net kV_run_net dc_run_net pm_run_net cd_run_net ct_run_net : Value}
    {od__law_net an__law_net : Option Addr} {sl__law_net : Array (Option Value)} {oc__law_net kV__law_net dc__law_net pm__law_net cd__law_net ct__law_net : Value}
    {od__law_net_step an__law_net_step : Option Addr} {sl__law_net_step : Array (Option Value)} {oc__law_net_step kV__law_net_step dc__law_net_step pm__law_net_step cd__law_net_step ct__law_net_step : Value}
    {od__law_lanes an__law_lanes : Option Addr} {sl__law_lanes : Array (Option Value)} {oc__law_lanes kV__law_lanes dc__law_lanes pm__law_lanes cd__law_lanes ct__law_lanes : Value}
    {od__law_refusal an__law_refusal : Option Addr} {sl__law_refusal : Array (Option Value)} {oc__law_refusal kV__law_refusal dc__law_refusal pm__law_refusal cd__law_refusal ct__law_refusal : Value}
    {od__law_unlit an__law_unlit : Option Addr} {sl__law_unlit : Array (Option Value)} {oc__law_unlit kV__law_unlit dc__law_unlit pm__law_unlit cd__law_unlit ct__law_unlit : Value}
    {od__law_bent an__law_bent : Option Addr} {sl__law_bent : Array (Option Value)} {oc__law_bent kV__law_bent dc__law_bent pm__law_bent cd__law_bent ct__law_bent : Value}
    {od_law an_law : Option Addr} {sl_law : Array (Option Value)} {oc_law kV_law dc_law pm_law cd_law ct_law : Value}
    {nm_InvalidNet qu_InvalidNet : Str} {N_InvalidNet : Addr} {bs_InvalidNet bm_InvalidNet : List Value} {sn_InvalidNet : List Str} {sub_InvalidNet : List Value} {ab_InvalidNet : Bool} {col_InvalidNet : Option Bool} {dd_InvalidNet : Option Addr} {m0_InvalidNet m1_InvalidNet m2_InvalidNet m3_InvalidNet m5_InvalidNet : Option Value} {oc_InvalidNet kV_InvalidNet dc_InvalidNet pm_InvalidNet ct_InvalidNet cl_InvalidNet ccl_InvalidNet : Value} {od_InvalidNet an_InvalidNet cld_InvalidNet cdd_InvalidNet : Option Addr} {sl_InvalidNet csl_InvalidNet ccs_InvalidNet : Array (Option Value)} {fv_InvalidNet : Array Value} {fi_InvalidNet : Str} {tf_InvalidNet : Tok}
    (a__law_deck : PySem.W.nsIn K mainGlobals "_law_deck" = some (some (.ref f__law_deck)))
    (l__law_deck : K.lookup f__law_deck = some ⟨oc__law_deck, od__law_deck, .func (PySem.W.fnOf "_law_deck" "_law_deck" (defArgs s__law_deck) (defBody s__law_deck) (defScope s__law_deck) .none kV__law_deck dc__law_deck pm__law_deck an__law_deck cd__law_deck ct__law_deck), sl__law_deck⟩) (c__law_deck : PySem.W.codeIn K cd__law_deck "_law_deck" = true) (k__law_deck : PySem.W.keepIn K (.ref f__law_deck) = true)
    (a__law_take : PySem.W.nsIn K mainGlobals "_law_take" = some (some (.ref f__law_take)))
    (l__law_take : K.lookup f__law_take = some ⟨oc__law_take, od__law_take, .func (PySem.W.fnOf "_law_take" "_law_take" (defArgs s__law_take) (defBody s__law_take) (defScope s__law_take) .none kV__law_take dc__law_take pm__law_take an__law_take cd__law_take ct__law_take), sl__law_take⟩) (c__law_take : PySem.W.codeIn K cd__law_take "_law_take" = true) (k__law_take : PySem.W.keepIn K (.ref f__law_take) = true)
    (a__law_plain : PySem.W.nsIn K mainGlobals "_law_plain" = some (some (.ref f__law_plain)))
    (l__law_plain : K.lookup f__law_plain = some ⟨oc__law_plain, od__law_plain, .func (PySem.W.fnOf "_law_plain" "_law_plain" (defArgs s__law_plain) (defBody s__law_plain) (defScope s__law_plain) .none kV__law_plain dc__law_plain pm__law_plain an__law_plain cd__law_plain ct__law_plain), sl__law_plain⟩) (c__law_plain : PySem.W.codeIn K cd__law_plain "_law_plain" = true) (k__law_plain : PySem.W.keepIn K (.ref f__law_plain) = true)
    (a_is_count : PySem.W.nsIn K mainGlobals "is_count" = some (some (.ref f_is_count)))
    (l_is_count : K.lookup f_is_count = some ⟨oc_is_count, od_is_count, .func (PySem.W.fnOf "is_count" "is_count" (defArgs s_is_count) (defBody s_is_count) (defScope s_is_count) .none kV_is_count dc_is_count pm_is_count an_is_count cd_is_count ct_is_count), sl_is_count⟩) (c_is_count : PySem.W.codeIn K cd_is_count "is_count" = true) (k_is_count : PySem.W.keepIn K (.ref f_is_count) = true)
    (a_is_gate : PySem.W.nsIn K mainGlobals "is_gate" = some (some (.ref f_is_gate)))
    (l_is_gate : K.lookup f_is_gate = some ⟨oc_is_gate, od_is_gate, .func (PySem.W.fnOf "is_gate" "is_gate" (defArgs s_is_gate) (defBody s_is_gate) (defScope s_is_gate) .none kV_is_gate dc_is_gate pm_is_gate an_is_gate cd_is_gate ct_is_gate), sl_is_gate⟩) (c_is_gate : PySem.W.codeIn K cd_is_gate "is_gate" = true) (k_is_gate : PySem.W.keepIn K (.ref f_is_gate) = true)
    (a_check_net : PySem.W.nsIn K mainGlobals "check_net" = some (some (.ref f_check_net)))
    (l_check_net : K.lookup f_check_net = some ⟨oc_check_net, od_check_net, .func (PySem.W.fnOf "check_net" "check_net" (defArgs s_check_net) (defBody s_check_net) (defScope s_check_net) .none kV_check_net dc_check_net pm_check_net an_check_net cd_check_net ct_check_net), sl_check_net⟩) (c_check_net : PySem.W.codeIn K cd_check_net "check_net" = true) (k_check_net : PySem.W.keepIn K (.ref f_check_net) = true)
    (a_check_lanes : PySem.W.nsIn K mainGlobals "check_lanes" = some (some (.ref f_check_lanes)))
    (l_check_lanes : K.lookup f_check_lanes = some ⟨oc_check_lanes, od_check_lanes, .func (PySem.W.fnOf "check_lanes" "check_lanes" (defArgs s_check_lanes) (defBody s_check_lanes) (defScope s_check_lanes) .none kV_check_lanes dc_check_lanes pm_check_lanes an_check_lanes cd_check_lanes ct_check_lanes), sl_check_lanes⟩) (c_check_lanes : PySem.W.codeIn K cd_check_lanes "check_lanes" = true) (k_check_lanes : PySem.W.keepIn K (.ref f_check_lanes) = true)
    (a_values_of : PySem.W.nsIn K mainGlobals "values_of" = some (some (.ref f_values_of)))
    (l_values_of : K.lookup f_values_of = some ⟨oc_values_of, od_values_of, .func (PySem.W.fnOf "values_of" "values_of" (defArgs s_values_of) (defBody s_values_of) (defScope s_values_of) .none kV_values_of dc_values_of pm_values_of an_values_of cd_values_of ct_values_of), sl_values_of⟩) (c_values_of : PySem.W.codeIn K cd_values_of "values_of" = true) (k_values_of : PySem.W.keepIn K (.ref f_values_of) = true)
    (a_step_values : PySem.W.nsIn K mainGlobals "step_values" = some (some (.ref f_step_values)))
    (l_step_values : K.lookup f_step_values = some ⟨oc_step_values, od_step_values, .func (PySem.W.fnOf "step_values" "step_values" (defArgs s_step_values) (defBody s_step_values) (defScope s_step_values) .none kV_step_values dc_step_values pm_step_values an_step_values cd_step_values ct_step_values), sl_step_values⟩) (c_step_values : PySem.W.codeIn K cd_step_values "step_values" = true) (k_step_values : PySem.W.keepIn K (.ref f_step_values) = true)
    (a_step_net : PySem.W.nsIn K mainGlobals "step_net" = some (some (.ref f_step_net)))
    (l_step_net : K.lookup f_step_net = some ⟨oc_step_net, od_step_net, .func (PySem.W.fnOf "step_net" "step_net" (defArgs s_step_net) (defBody s_step_net) (defScope s_step_net) .none kV_step_net dc_step_net pm_step_net an_step_net cd_step_net ct_step_net), sl_step_net⟩) (c_step_net : PySem.W.codeIn K cd_step_net "step_net" = true) (k_step_net : PySem.W.keepIn K (.ref f_step_net) = true)
    (a_first_flops : PySem.W.nsIn K mainGlobals "first_flops" = some (some (.ref f_first_flops)))
    (l_first_flops : K.lookup f_first_flops = some ⟨oc_first_flops, od_first_flops, .func (PySem.W.fnOf "first_flops" "first_flops" (defArgs s_first_flops) (defBody s_first_flops) (defScope s_first_flops) .none kV_first_flops dc_first_flops pm_first_flops an_first_flops cd_first_flops ct_first_flops), sl_first_flops⟩) (c_first_flops : PySem.W.codeIn K cd_first_flops "first_flops" = true) (k_first_flops : PySem.W.keepIn K (.ref f_first_flops) = true)
    (a_run_net : PySem.W.nsIn K mainGlobals "run_net" = some (some (.ref f_run_net)))
    (l_run_net : K.lookup f_run_net = some ⟨oc_run_net, od_run_net, .func (PySem.W.fnOf "run_net" "run_net" (defArgs s_run_net) (defBody s_run_net) (defScope s_run_net) .none kV_run_net dc_run_net pm_run_net an_run_net cd_run_net ct_run_net), sl_run_net⟩) (c_run_net : PySem.W.codeIn K cd_run_net "run_net" = true) (k_run_net : PySem.W.keepIn K (.ref f_run_net) = true)
    (a__law_net : PySem.W.nsIn K mainGlobals "_law_net" = some (some (.ref f__law_net)))
    (l__law_net : K.lookup f__law_net = some ⟨oc__law_net, od__law_net, .func (PySem.W.fnOf "_law_net" "_law_net" (defArgs s__law_net) (defBody s__law_net) (defScope s__law_net) .none kV__law_net dc__law_net pm__law_net an__law_net cd__law_net ct__law_net), sl__law_net⟩) (c__law_net : PySem.W.codeIn K cd__law_net "_law_net" = true) (k__law_net : PySem.W.keepIn K (.ref f__law_net) = true)
    (a__law_net_step : PySem.W.nsIn K mainGlobals "_law_net_step" = some (some (.ref f__law_net_step)))
    (l__law_net_step : K.lookup f__law_net_step = some ⟨oc__law_net_step, od__law_net_step, .func (PySem.W.fnOf "_law_net_step" "_law_net_step" (defArgs s__law_net_step) (defBody s__law_net_step) (defScope s__law_net_step) .none kV__law_net_step dc__law_net_step pm__law_net_step an__law_net_step cd__law_net_step ct__law_net_step), sl__law_net_step⟩) (c__law_net_step : PySem.W.codeIn K cd__law_net_step "_law_net_step" = true) (k__law_net_step : PySem.W.keepIn K (.ref f__law_net_step) = true)
    (a__law_lanes : PySem.W.nsIn K mainGlobals "_law_lanes" = some (some (.ref f__law_lanes)))
    (l__law_lanes : K.lookup f__law_lanes = some ⟨oc__law_lanes, od__law_lanes, .func (PySem.W.fnOf "_law_lanes" "_law_lanes" (defArgs s__law_lanes) (defBody s__law_lanes) (defScope s__law_lanes) .none kV__law_lanes dc__law_lanes pm__law_lanes an__law_lanes cd__law_lanes ct__law_lanes), sl__law_lanes⟩) (c__law_lanes : PySem.W.codeIn K cd__law_lanes "_law_lanes" = true) (k__law_lanes : PySem.W.keepIn K (.ref f__law_lanes) = true)
    (a__law_refusal : PySem.W.nsIn K mainGlobals "_law_refusal" = some (some (.ref f__law_refusal)))
    (l__law_refusal : K.lookup f__law_refusal = some ⟨oc__law_refusal, od__law_refusal, .func (PySem.W.fnOf "_law_refusal" "_law_refusal" (defArgs s__law_refusal) (defBody s__law_refusal) (defScope s__law_refusal) .none kV__law_refusal dc__law_refusal pm__law_refusal an__law_refusal cd__law_refusal ct__law_refusal), sl__law_refusal⟩) (c__law_refusal : PySem.W.codeIn K cd__law_refusal "_law_refusal" = true) (k__law_refusal : PySem.W.keepIn K (.ref f__law_refusal) = true)
    (a__law_unlit : PySem.W.nsIn K mainGlobals "_law_unlit" = some (some (.ref f__law_unlit)))
    (l__law_unlit : K.lookup f__law_unlit = some ⟨oc__law_unlit, od__law_unlit, .func (PySem.W.fnOf "_law_unlit" "_law_unlit" (defArgs s__law_unlit) (defBody s__law_unlit) (defScope s__law_unlit) .none kV__law_unlit dc__law_unlit pm__law_unlit an__law_unlit cd__law_unlit ct__law_unlit), sl__law_unlit⟩) (c__law_unlit : PySem.W.codeIn K cd__law_unlit "_law_unlit" = true) (k__law_unlit : PySem.W.keepIn K (.ref f__law_unlit) = true)
    (a__law_bent : PySem.W.nsIn K mainGlobals "_law_bent" = some (some (.ref f__law_bent)))
    (l__law_bent : K.lookup f__law_bent = some ⟨oc__law_bent, od__law_bent, .func (PySem.W.fnOf "_law_bent" "_law_bent" (defArgs s__law_bent) (defBody s__law_bent) (defScope s__law_bent) .none kV__law_bent dc__law_bent pm__law_bent an__law_bent cd__law_bent ct__law_bent), sl__law_bent⟩) (c__law_bent : PySem.W.codeIn K cd__law_bent "_law_bent" = true) (k__law_bent : PySem.W.keepIn K (.ref f__law_bent) = true)
    (a_law : PySem.W.nsIn K mainGlobals "law" = some (some (.ref f_law)))
    (l_law : K.lookup f_law = some ⟨oc_law, od_law, .func (PySem.W.fnOf "law" "law" (defArgs s_law) (defBody s_law) (defScope s_law) .none kV_law dc_law pm_law an_law cd_law ct_law), sl_law⟩) (c_law : PySem.W.codeIn K cd_law "law" = true) (k_law : PySem.W.keepIn K (.ref f_law) = true)
    (z_abs : PySem.W.nsIn K mainGlobals "abs" = some none)
    (z_bool : PySem.W.nsIn K mainGlobals "bool" = some none)
    (z_int : PySem.W.nsIn K mainGlobals "int" = some none)
    (z_isinstance : PySem.W.nsIn K mainGlobals "isinstance" = some none)
    (z_len : PySem.W.nsIn K mainGlobals "len" = some none)
    (z_list : PySem.W.nsIn K mainGlobals "list" = some none)
    (z_max : PySem.W.nsIn K mainGlobals "max" = some none)
    (z_range : PySem.W.nsIn K mainGlobals "range" = some none)
    (z_str : PySem.W.nsIn K mainGlobals "str" = some none)
    (z_sum : PySem.W.nsIn K mainGlobals "sum" = some none)
    (z_tuple : PySem.W.nsIn K mainGlobals "tuple" = some none)
    (w_SIZES : constK K "SIZES" = some (.tuple [.tuple [.str "and", .int 3], .tuple [.str "or", .int 3], .tuple [.str "xor", .int 3], .tuple [.str "not", .int 2], .tuple [.str "mux", .int 4]]))
    (a_InvalidNet : PySem.W.nsIn K mainGlobals "InvalidNet" = some (some (.ref C_InvalidNet)))
    (x_InvalidNet : K.lookup C_InvalidNet = some (excClassObj nm_InvalidNet qu_InvalidNet C_InvalidNet N_InvalidNet bs_InvalidNet bm_InvalidNet true sn_InvalidNet sub_InvalidNet ab_InvalidNet col_InvalidNet dd_InvalidNet m0_InvalidNet m1_InvalidNet m2_InvalidNet m3_InvalidNet m5_InvalidNet "ValueError.__new__"))
    (v_InvalidNet : PySem.HandSPX.refsVE bm_InvalidNet = true)
    (sa_InvalidNet : PySem.W.findIn K (.ref C_InvalidNet) "__setattr__" = some (some (.builtin "object.__setattr__")))
    (ga_InvalidNet : PySem.W.findIn K (.ref C_InvalidNet) "__getattribute__" = some (some (.builtin "BaseException.__getattribute__")))
    (gg_InvalidNet : PySem.W.findIn K (.ref C_InvalidNet) "__getattr__" = some none)
    (n_InvalidNet : PySem.W.findIn K (.ref C_InvalidNet) "what" = some none)
    (i_InvalidNet : PySem.W.findIn K (.ref C_InvalidNet) "__init__" = some (some (.ref f_InvalidNet)))
    (t_InvalidNet : PySem.W.typeIn K (.ref f_InvalidNet) = some (.type "function"))
    (l_InvalidNet : K.lookup f_InvalidNet = some ⟨oc_InvalidNet, od_InvalidNet, .func (PySem.W.fnX "__init__" "InvalidNet.__init__" (defArgs s_InvalidNet___init__) (defBody s_InvalidNet___init__) (defScope s_InvalidNet___init__) [("__class__", cc_InvalidNet)] .none kV_InvalidNet dc_InvalidNet pm_InvalidNet an_InvalidNet (.ref cda_InvalidNet) ct_InvalidNet), sl_InvalidNet⟩)
    (c_InvalidNet : PySem.W.codeIn K (.ref cda_InvalidNet) "InvalidNet.__init__" = true)
    (kc_InvalidNet : PySem.W.keepIn K (.ref C_InvalidNet) = true)
    (e_InvalidNet : PySem.W.subIn K (.ref C_InvalidNet) (.type "BaseException") = some true)
    (tt_InvalidNet : PySem.W.typeIn K (.ref C_InvalidNet) = some (.type "type"))
    (hd_InvalidNet : PySem.W.hasDictIn K C_InvalidNet = true)
    (ic_InvalidNet : PySem.W.isClsIn K C_InvalidNet = true)
    (ss_InvalidNet : PySem.W.subIn K (.ref C_InvalidNet) (.ref C_InvalidNet) = some true)
    (mr_InvalidNet : PySem.W.mroIn K C_InvalidNet (.ref C_InvalidNet) = some true)
    (su_InvalidNet : PySem.W.ks_superIn K C_InvalidNet C_InvalidNet "__init__" = some (some (.builtin "ValueError.__init__")))
    (sb_InvalidNet : PySem.W.subIn K (.ref C_InvalidNet) (.type "ValueError") = some true)
    (th_InvalidNet : PySem.W.nsIn K cStatics "thirdparty.any" = some none)
    (ce_InvalidNet : K.lookup cc_InvalidNet = some ⟨cl_InvalidNet, cld_InvalidNet, .cell (some (.ref C_InvalidNet)), csl_InvalidNet⟩)
    (co_InvalidNet : K.lookup cda_InvalidNet = some ⟨ccl_InvalidNet, cdd_InvalidNet, .fields fv_InvalidNet, ccs_InvalidNet⟩)
    (cv_InvalidNet : fv_InvalidNet[2]? = some (.str fi_InvalidNet tf_InvalidNet))
    (cf_InvalidNet : ((l.prog.main.file : Str) == fi_InvalidNet) = true)
    (tp_InvalidNet : (l.prog.main.scope.names.lookup ("super" : Str)).isSome = false)
    (zs_InvalidNet : PySem.W.nsIn K mainGlobals "super" = some none) :
    ∃ fd : FuncData, (∀ (s : Shared) (v : Value), BindsTo s fd ⟨[v], []⟩ [("script", v)]) ∧ ∀ base : Heap, K.In base → base.Ns mainGlobals mg → FnOk l.prog w K mg base CX0 10 fa fd ["script"] (spLaw K) := by
  have e := hfa.symm.trans (PySem.W.mg_of X G a_law)
  cases e
  have T : Txt K mg := ⟨PySem.W.mg_none_of X G z_abs, PySem.W.mg_none_of X G z_bool, PySem.W.mg_none_of X G z_int, PySem.W.mg_none_of X G z_isinstance, PySem.W.mg_none_of X G z_len, PySem.W.mg_none_of X G z_list, PySem.W.mg_none_of X G z_max, PySem.W.mg_none_of X G z_range, PySem.W.mg_none_of X G z_str, PySem.W.mg_none_of X G z_sum, PySem.W.mg_none_of X G z_tuple, const_of X G w_SIZES⟩
  have F__law_deck := fun_mk (st := s__law_deck) l__law_deck c__law_deck k__law_deck
  have B__law_deck := F__law_deck.binds (ps := ["script", "cells", "each"]) fun _ _ _ _ _ _ us hl => match us, hl with | [_, _, _], _ => rfl
  have m__law_deck := PySem.W.mg_of X G a__law_deck
  have F__law_take := fun_mk (st := s__law_take) l__law_take c__law_take k__law_take
  have B__law_take := F__law_take.binds (ps := ["deck", "many"]) fun _ _ _ _ _ _ us hl => match us, hl with | [_, _], _ => rfl
  have m__law_take := PySem.W.mg_of X G a__law_take
  have F__law_plain := fun_mk (st := s__law_plain) l__law_plain c__law_plain k__law_plain
  have B__law_plain := F__law_plain.binds (ps := ["value"]) fun _ _ _ _ _ _ us hl => match us, hl with | [_], _ => rfl
  have m__law_plain := PySem.W.mg_of X G a__law_plain
  have F_is_count := fun_mk (st := s_is_count) l_is_count c_is_count k_is_count
  have B_is_count := F_is_count.binds (ps := ["value"]) fun _ _ _ _ _ _ us hl => match us, hl with | [_], _ => rfl
  have m_is_count := PySem.W.mg_of X G a_is_count
  have F_is_gate := fun_mk (st := s_is_gate) l_is_gate c_is_gate k_is_gate
  have B_is_gate := F_is_gate.binds (ps := ["gate", "wires"]) fun _ _ _ _ _ _ us hl => match us, hl with | [_, _], _ => rfl
  have m_is_gate := PySem.W.mg_of X G a_is_gate
  have F_check_net := fun_mk (st := s_check_net) l_check_net c_check_net k_check_net
  have B_check_net := F_check_net.binds (ps := ["net"]) fun _ _ _ _ _ _ us hl => match us, hl with | [_], _ => rfl
  have m_check_net := PySem.W.mg_of X G a_check_net
  have F_check_lanes := fun_mk (st := s_check_lanes) l_check_lanes c_check_lanes k_check_lanes
  have B_check_lanes := F_check_lanes.binds (ps := ["lanes", "numbers", "many", "what"]) fun _ _ _ _ _ _ us hl => match us, hl with | [_, _, _, _], _ => rfl
  have m_check_lanes := PySem.W.mg_of X G a_check_lanes
  have F_values_of := fun_mk (st := s_values_of) l_values_of c_values_of k_values_of
  have B_values_of := F_values_of.binds (ps := ["net", "lanes", "flops", "inputs"]) fun _ _ _ _ _ _ us hl => match us, hl with | [_, _, _, _], _ => rfl
  have m_values_of := PySem.W.mg_of X G a_values_of
  have F_step_values := fun_mk (st := s_step_values) l_step_values c_step_values k_step_values
  have B_step_values := F_step_values.binds (ps := ["net", "lanes", "flops", "inputs"]) fun _ _ _ _ _ _ us hl => match us, hl with | [_, _, _, _], _ => rfl
  have m_step_values := PySem.W.mg_of X G a_step_values
  have F_step_net := fun_mk (st := s_step_net) l_step_net c_step_net k_step_net
  have B_step_net := F_step_net.binds (ps := ["net", "lanes", "flops", "inputs"]) fun _ _ _ _ _ _ us hl => match us, hl with | [_, _, _, _], _ => rfl
  have m_step_net := PySem.W.mg_of X G a_step_net
  have F_first_flops := fun_mk (st := s_first_flops) l_first_flops c_first_flops k_first_flops
  have B_first_flops := F_first_flops.binds (ps := ["level", "lanes"]) fun _ _ _ _ _ _ us hl => match us, hl with | [_, _], _ => rfl
  have m_first_flops := PySem.W.mg_of X G a_first_flops
  have F_run_net := fun_mk (st := s_run_net) l_run_net c_run_net k_run_net
  have B_run_net := F_run_net.binds (ps := ["net", "lanes", "inputs"]) fun _ _ _ _ _ _ us hl => match us, hl with | [_, _, _], _ => rfl
  have m_run_net := PySem.W.mg_of X G a_run_net
  have F__law_net := fun_mk (st := s__law_net) l__law_net c__law_net k__law_net
  have B__law_net := F__law_net.binds (ps := ["deck", "many"]) fun _ _ _ _ _ _ us hl => match us, hl with | [_, _], _ => rfl
  have m__law_net := PySem.W.mg_of X G a__law_net
  have F__law_net_step := fun_mk (st := s__law_net_step) l__law_net_step c__law_net_step k__law_net_step
  have B__law_net_step := F__law_net_step.binds (ps := ["net", "flops", "inputs"]) fun _ _ _ _ _ _ us hl => match us, hl with | [_, _, _], _ => rfl
  have m__law_net_step := PySem.W.mg_of X G a__law_net_step
  have F__law_lanes := fun_mk (st := s__law_lanes) l__law_lanes c__law_lanes k__law_lanes
  have B__law_lanes := F__law_lanes.binds (ps := ["rows"]) fun _ _ _ _ _ _ us hl => match us, hl with | [_], _ => rfl
  have m__law_lanes := PySem.W.mg_of X G a__law_lanes
  have F__law_refusal := fun_mk (st := s__law_refusal) l__law_refusal c__law_refusal k__law_refusal
  have B__law_refusal := F__law_refusal.binds (ps := ["net", "lanes", "flops", "inputs"]) fun _ _ _ _ _ _ us hl => match us, hl with | [_, _, _, _], _ => rfl
  have m__law_refusal := PySem.W.mg_of X G a__law_refusal
  have F__law_unlit := fun_mk (st := s__law_unlit) l__law_unlit c__law_unlit k__law_unlit
  have B__law_unlit := F__law_unlit.binds (ps := ["net"]) fun _ _ _ _ _ _ us hl => match us, hl with | [_], _ => rfl
  have m__law_unlit := PySem.W.mg_of X G a__law_unlit
  have F__law_bent := fun_mk (st := s__law_bent) l__law_bent c__law_bent k__law_bent
  have B__law_bent := F__law_bent.binds (ps := ["deck", "net"]) fun _ _ _ _ _ _ us hl => match us, hl with | [_, _], _ => rfl
  have m__law_bent := PySem.W.mg_of X G a__law_bent
  have F_law := fun_mk (st := s_law) l_law c_law k_law
  have B_law := F_law.binds (ps := ["script"]) fun _ _ _ _ _ _ us hl => match us, hl with | [_], _ => rfl
  have m_law := PySem.W.mg_of X G a_law
  have m_InvalidNet := PySem.W.mg_of X G a_InvalidNet
  have X_InvalidNet : SupTxt l.prog K mg C_InvalidNet cc_InvalidNet cda_InvalidNet := { ox := ⟨⟨nm_InvalidNet, qu_InvalidNet, N_InvalidNet, bs_InvalidNet, bm_InvalidNet, sn_InvalidNet, sub_InvalidNet, ab_InvalidNet, col_InvalidNet, dd_InvalidNet, m0_InvalidNet, m1_InvalidNet, m2_InvalidNet, m3_InvalidNet, m5_InvalidNet, x_InvalidNet, v_InvalidNet⟩, sa_InvalidNet, e_InvalidNet, tt_InvalidNet, kc_InvalidNet⟩, mro := mr_InvalidNet, sup := su_InvalidNet, sub := sb_InvalidNet, third := th_InvalidNet, cell := ⟨_, _, _, ce_InvalidNet⟩, code := ⟨_, _, _, _, _, _, co_InvalidNet, cv_InvalidNet, cf_InvalidNet⟩, top := tp_InvalidNet, mgs := PySem.W.mg_none_of X G zs_InvalidNet }
  have R_InvalidNet : ErrT K mg "InvalidNet" C_InvalidNet "what" := ⟨m_InvalidNet, PySem.W.exm_ref e_InvalidNet hd_InvalidNet tt_InvalidNet ss_InvalidNet, ⟨ga_InvalidNet, gg_InvalidNet, e_InvalidNet, hd_InvalidNet⟩, n_InvalidNet⟩
  refine ⟨PySem.W.fnOf "law" "law" (defArgs s_law) (defBody s_law) (defScope s_law) .none kV_law dc_law pm_law an_law cd_law ct_law, fun s v => .of_eq rfl, fun base _ _ => ?_⟩
  have c_InvalidNet : Erm l.prog w K mg base 1 "InvalidNet" C_InvalidNet "what" := ⟨_, _, _, X_InvalidNet.ox, i_InvalidNet, t_InvalidNet, ok_err X_InvalidNet n_InvalidNet l_InvalidNet rfl c_InvalidNet (nscope_by (by decide +kernel)) rfl rfl rfl rfl rfl (fun _ => ⟨_, rfl⟩), Binds.all (fun us hl => match us, hl with | [_, _], _ => rfl), m_InvalidNet⟩
  have c_cnt : Cal l.prog w K mg base 1 "is_count" spCnt [] := ⟨_, _, _, _, ok_cnt F_is_count T, m_is_count, F_is_count.kp, B_is_count, .nil⟩
  have c_gate : Cal l.prog w K mg base 2 "is_gate" (spGate K) [] := ⟨_, _, _, _, ok_gate F_is_gate T c_cnt, m_is_gate, F_is_gate.kp, B_is_gate, .nil⟩
  have c_take : Cal l.prog w K mg base 1 "_law_take" spTake [] := ⟨_, _, _, _, ok_take F__law_take T, m__law_take, F__law_take.kp, B__law_take, .nil⟩
  have c_check : CalX l.prog w K mg base 3 "check_net" (spCheck K C_InvalidNet) := ⟨_, _, _, ok_check F_check_net T c_InvalidNet c_cnt c_gate, m_check_net, F_check_net.kp, B_check_net⟩
  have c_lanes : CalX l.prog w K mg base 3 "check_lanes" (spLanes K C_InvalidNet) := ⟨_, _, _, ok_lanes F_check_lanes T c_InvalidNet c_cnt, m_check_lanes, F_check_lanes.kp, B_check_lanes⟩
  have c_vals : CalX l.prog w K mg base 4 "values_of" (spVals K C_InvalidNet) := ⟨_, _, _, ok_vals F_values_of T c_lanes, m_values_of, F_values_of.kp, B_values_of⟩
  have c_step : CalX l.prog w K mg base 5 "step_values" (spStep K C_InvalidNet) := ⟨_, _, _, ok_step F_step_values T c_vals, m_step_values, F_step_values.kp, B_step_values⟩
  have c_stepNet : CalX l.prog w K mg base 6 "step_net" (spStepNet K C_InvalidNet) := ⟨_, _, _, ok_stepNet F_step_net T c_check c_step, m_step_net, F_step_net.kp, B_step_net⟩
  have c_first : CalX l.prog w K mg base 4 "first_flops" (spFirst K C_InvalidNet) := ⟨_, _, _, ok_first F_first_flops T c_InvalidNet c_cnt c_lanes, m_first_flops, F_first_flops.kp, B_first_flops⟩
  have c_run : CalX l.prog w K mg base 6 "run_net" (spRun K C_InvalidNet) := ⟨_, _, _, ok_run F_run_net T c_check c_first c_step, m_run_net, F_run_net.kp, B_run_net⟩
  exact ok_law F_law T {
    deck := ⟨_, _, _, _, ok_deck F__law_deck T, m__law_deck, F__law_deck.kp, B__law_deck, .nil⟩
    take := c_take
    plain := fun n => ⟨_, _, _, _, ok_plain F__law_plain T m__law_plain B__law_plain n, m__law_plain, F__law_plain.kp, B__law_plain, .nil⟩
    net := ⟨_, _, _, _, ok_net F__law_net T c_take, m__law_net, F__law_net.kp, B__law_net, .nil⟩
    check := c_check
    first := c_first
    lstep := ⟨_, _, _, _, ok_lstep F__law_net_step T, m__law_net_step, F__law_net_step.kp, B__law_net_step, .nil⟩
    words := ⟨_, _, _, _, ok_words F__law_lanes T, m__law_lanes, F__law_lanes.kp, B__law_lanes, .nil⟩
    stepNet := c_stepNet
    run := c_run
    ref := ⟨_, _, _, _, ok_ref F__law_refusal T R_InvalidNet c_stepNet, m__law_refusal, F__law_refusal.kp, B__law_refusal, .nil⟩
    unlit := ⟨_, _, _, _, ok_unlit F__law_unlit T R_InvalidNet c_run, m__law_unlit, F__law_unlit.kp, B__law_unlit, .nil⟩
    bent := ⟨_, _, _, _, ok_bent F__law_bent T c_take, m__law_bent, F__law_bent.kp, B__law_bent, .nil⟩ }
theorem walk {l : PySem.W.OpenLaw} {q : Program} {loose : List Str} {XP : (Str → Option Value) → Heap → Prop} {YP : World → Heap → Prop} {d : DefRec} {K : Params → PySem.W.Frag} (hn : l.most = some 63) (hdf : d.params.defaults = [])
    (hY : ∀ (w : World) (h : Heap), YP w h → (K w.params).In h)
    (F : ∀ (w : World) (mg : Str → Option Value) (fa : Addr) (h : Heap), (K w.params).In h → h.Ns mainGlobals mg → mg d.name = some (.ref fa) →
      ∃ fd : FuncData, (∀ (s : Shared) (u : Value), BindsTo s fd ⟨[u], []⟩ [("script", u)]) ∧ ∀ base : Heap, (K w.params).In base → base.Ns mainGlobals mg → FnOk l.prog w (K w.params) mg base CX0 10 fa fd ["script"] (spLaw (K w.params))) :
    PySem.W.WalkO q loose XP YP l.row.toRowW d [] (fun f vs => PySem.call f vs) :=
  L2.walk_of (n := 63) (k := 10) (x := "script") (CX := fun _ => CX0) (sp := fun w => spLaw (K w.params)) hn (by decide) hdf ⟨rfl, by decide, by decide⟩ hY F (fun _ _ a ns hl _ hS => ⟨a, ns, rfl, hS, hl, fun _ => rfl⟩) fun _ _ _ _ _ z => z
end Q03

open PySem PySem.W PyProof.Rows in
set_option maxRecDepth 100000 in
set_option maxHeartbeats 0 in
theorem PySem.Challenge.cw_gatework_k03_nets_in_lanes_holds : PySem.Challenge.rw_gatework_k03_nets_in_lanes.Holds := by
  w_on; o_law; k_head; (case hw => w_witness2)
  k_fill
  refine Q03.walk (l := PySem.Challenge.rw_gatework_k03_nets_in_lanes) rfl rfl (fun w h Y => PySem.W.kIn_of Y) ?F
  case F =>
    intro w mg fa h KX G hmg
    refine' Q03.all_mk KX G hmg ?a__law_deck ?l__law_deck ?c__law_deck ?k__law_deck ?a__law_take ?l__law_take ?c__law_take ?k__law_take ?a__law_plain ?l__law_plain ?c__law_plain ?k__law_plain ?a_is_count ?l_is_count ?c_is_count ?k_is_count ?a_is_gate ?l_is_gate ?c_is_gate ?k_is_gate ?a_check_net ?l_check_net ?c_check_net ?k_check_net ?a_check_lanes ?l_check_lanes ?c_check_lanes ?k_check_lanes ?a_values_of ?l_values_of ?c_values_of ?k_values_of ?a_step_values ?l_step_values ?c_step_values ?k_step_values ?a_step_net ?l_step_net ?c_step_net ?k_step_net ?a_first_flops ?l_first_flops ?c_first_flops ?k_first_flops ?a_run_net ?l_run_net ?c_run_net ?k_run_net ?a__law_net ?l__law_net ?c__law_net ?k__law_net ?a__law_net_step ?l__law_net_step ?c__law_net_step ?k__law_net_step ?a__law_lanes ?l__law_lanes ?c__law_lanes ?k__law_lanes ?a__law_refusal ?l__law_refusal ?c__law_refusal ?k__law_refusal ?a__law_unlit ?l__law_unlit ?c__law_unlit ?k__law_unlit ?a__law_bent ?l__law_bent ?c__law_bent ?k__law_bent ?a_law ?l_law ?c_law ?k_law ?z_abs ?z_bool ?z_int ?z_isinstance ?z_len ?z_list ?z_max ?z_range ?z_str ?z_sum ?z_tuple ?w_SIZES ?a_InvalidNet ?x_InvalidNet ?v_InvalidNet ?sa_InvalidNet ?ga_InvalidNet ?gg_InvalidNet ?n_InvalidNet ?i_InvalidNet ?t_InvalidNet ?l_InvalidNet ?c_InvalidNet ?kc_InvalidNet ?e_InvalidNet ?tt_InvalidNet ?hd_InvalidNet ?ic_InvalidNet ?ss_InvalidNet ?mr_InvalidNet ?su_InvalidNet ?sb_InvalidNet ?th_InvalidNet ?ce_InvalidNet ?co_InvalidNet ?cv_InvalidNet ?cf_InvalidNet ?tp_InvalidNet ?zs_InvalidNet
    (case a_InvalidNet => k_is)
    (case a__law_deck => k_is)
    (case l__law_deck => k_is)
    (case c__law_deck => k_is)
    (case k__law_deck => k_is)
    (case a__law_take => k_is)
    (case l__law_take => k_is)
    (case c__law_take => k_is)
    (case k__law_take => k_is)
    (case a__law_plain => k_is)
    (case l__law_plain => k_is)
    (case c__law_plain => k_is)
    (case k__law_plain => k_is)
    (case a_is_count => k_is)
    (case l_is_count => k_is)
    (case c_is_count => k_is)
    (case k_is_count => k_is)
    (case a_is_gate => k_is)
    (case l_is_gate => k_is)
    (case c_is_gate => k_is)
    (case k_is_gate => k_is)
    (case a_check_net => k_is)
    (case l_check_net => k_is)
    (case c_check_net => k_is)
    (case k_check_net => k_is)
    (case a_check_lanes => k_is)
    (case l_check_lanes => k_is)
    (case c_check_lanes => k_is)
    (case k_check_lanes => k_is)
    (case a_values_of => k_is)
    (case l_values_of => k_is)
    (case c_values_of => k_is)
    (case k_values_of => k_is)
    (case a_step_values => k_is)
    (case l_step_values => k_is)
    (case c_step_values => k_is)
    (case k_step_values => k_is)
    (case a_step_net => k_is)
    (case l_step_net => k_is)
    (case c_step_net => k_is)
    (case k_step_net => k_is)
    (case a_first_flops => k_is)
    (case l_first_flops => k_is)
    (case c_first_flops => k_is)
    (case k_first_flops => k_is)
    (case a_run_net => k_is)
    (case l_run_net => k_is)
    (case c_run_net => k_is)
    (case k_run_net => k_is)
    (case a__law_net => k_is)
    (case l__law_net => k_is)
    (case c__law_net => k_is)
    (case k__law_net => k_is)
    (case a__law_net_step => k_is)
    (case l__law_net_step => k_is)
    (case c__law_net_step => k_is)
    (case k__law_net_step => k_is)
    (case a__law_lanes => k_is)
    (case l__law_lanes => k_is)
    (case c__law_lanes => k_is)
    (case k__law_lanes => k_is)
    (case a__law_refusal => k_is)
    (case l__law_refusal => k_is)
    (case c__law_refusal => k_is)
    (case k__law_refusal => k_is)
    (case a__law_unlit => k_is)
    (case l__law_unlit => k_is)
    (case c__law_unlit => k_is)
    (case k__law_unlit => k_is)
    (case a__law_bent => k_is)
    (case l__law_bent => k_is)
    (case c__law_bent => k_is)
    (case k__law_bent => k_is)
    (case a_law => k_is)
    (case l_law => k_is)
    (case c_law => k_is)
    (case k_law => k_is)
    (case z_abs => k_is)
    (case z_bool => k_is)
    (case z_int => k_is)
    (case z_isinstance => k_is)
    (case z_len => k_is)
    (case z_list => k_is)
    (case z_max => k_is)
    (case z_range => k_is)
    (case z_str => k_is)
    (case z_sum => k_is)
    (case z_tuple => k_is)
    (case w_SIZES => kernel_rfl)
    (case x_InvalidNet => k_is)
    (case v_InvalidNet => rfl)
    (case sa_InvalidNet => k_is)
    (case ga_InvalidNet => k_is)
    (case gg_InvalidNet => k_is)
    (case n_InvalidNet => k_is)
    (case i_InvalidNet => k_is)
    (case t_InvalidNet => k_is)
    (case l_InvalidNet => k_is)
    (case c_InvalidNet => k_is)
    (case kc_InvalidNet => k_is)
    (case e_InvalidNet => k_is)
    (case tt_InvalidNet => k_is)
    (case hd_InvalidNet => k_is)
    (case ic_InvalidNet => k_is)
    (case ss_InvalidNet => k_is)
    (case mr_InvalidNet => k_is)
    (case su_InvalidNet => ks_is)
    (case sb_InvalidNet => k_is)
    (case th_InvalidNet => k_is)
    (case ce_InvalidNet => k_is)
    (case co_InvalidNet => k_is)
    (case cv_InvalidNet => rfl)
    (case cf_InvalidNet => decide +kernel)
    (case tp_InvalidNet => decide +kernel)
    (case zs_InvalidNet => k_is)

