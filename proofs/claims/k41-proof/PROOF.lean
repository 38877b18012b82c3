import PyProof.Rows.All
import Wide.All
import OpenK.AllK
import Wide.FinOn
import HandS.ForMost
import HandS.Codes
import HandS.IsInst
import HandS.Deep
import HandS.Style
import HandS.Wide
import HandS.TupAny
import HandS.Nested
import HandS.ExcInit
import HandS.ExcField
import HandS.TryOnly
import HandS.WordsExc
import KE.KExcSuper
import HandS.ExcIs
import HandS.Flow
import HandS.Conv
import HandS.Strs
import HandS.SetFor
import HandS.NoneIn
import PySem.Challenge.RW_gatework_k41_whole_clauses
set_option Elab.async false
set_option linter.all false
set_option maxRecDepth 100000
set_option maxHeartbeats 8000000
/-! ## general lemmas about the abstract heap and data (my own) -/
namespace G
open PySem L2

theorem same_new {H : Hp} {p : Addr} {o : HO} (h : H p = none) : Same H (upd H p o) := fun b u e => by
  rw [upd_ne (ne_of_none e h)]
  exact e
theorem same_mut {H H' : Hp} {p : Addr} {o : HO} (e : Same H H') (h : H p = none) : Same H (upd H' p o) := fun a u ha => by
  rw [upd_ne (ne_of_none ha h)]
  exact e a u ha
/-- all but what stands at a is as it was -/
def But (a : Addr) (H H' : Hp) : Prop := ∀ b o, b ≠ a → H b = some o → H' b = some o
theorem But.refl (a : Addr) (H : Hp) : But a H H := fun _ _ _ h => h
theorem But.trans {a : Addr} {H H1 H2 : Hp} (x : But a H H1) (y : But a H1 H2) : But a H H2 := fun b o n h => y b o n (x b o n h)
theorem But.of {a : Addr} {H H' : Hp} (x : Same H H') : But a H H' := fun b o _ h => x b o h
theorem but_upd {H : Hp} {p : Addr} {o : HO} : But p H (upd H p o) := fun b u n e => by
  rw [upd_ne n]
  exact e
theorem upd_self {H : Hp} {a : Addr} {o : HO} (h : H a = some o) : upd H a o = H := by
  funext b
  unfold upd
  split
  · rename_i e
    rw [e, h]
  · rfl
theorem Same.tup {K : PySem.W.Frag} {H H' : Hp} {a : Addr} {xs : List V} (e : Same H H') (h : SqT K H a xs) : SqT K H' a xs := by
  rcases h with (h | ⟨o, h⟩) | h
  · exact .inl (.inl (e _ _ h))
  · exact .inl (.inr ⟨o, e _ _ h⟩)
  · exact .inr h
theorem SqT.of' {K : PySem.W.Frag} {H : Hp} {a : Addr} {xs : List V} (h : H a = some (.tup xs)) : SqT K H a xs := .inl (.inl h)
theorem SqL.of' {K : PySem.W.Frag} {H : Hp} {a : Addr} {xs : List V} (h : H a = some (.lst xs)) : SqL K H a xs := .inl (.inl h)

mutual
theorem dp_same {K : PySem.W.Frag} {H H' : Hp} (e : Same H H') : ∀ {v : V} {d : PyData}, Dp K H v d → Dp K H' v d
  | _, _, .non => .non
  | _, _, .bl b => .bl b
  | _, _, .int i => .int i
  | _, _, .str x => .str x
  | _, _, .lst h a => .lst (Same.seq e h) (dps_same e a)
  | _, _, .tup h a => .tup (Same.tup e h) (dps_same e a)
theorem dps_same {K : PySem.W.Frag} {H H' : Hp} (e : Same H H') : ∀ {v : List V} {d : List PyData}, DpAll K H v d → DpAll K H' v d
  | _, _, .nil => .nil
  | _, _, .cons h t => .cons (dp_same e h) (dps_same e t)
end
theorem dp_int {K : PySem.W.Frag} {H : Hp} {v : V} {i : Int} (h : Dp K H v (.int i)) : v = .int i := by cases h; rfl
theorem dp_str {K : PySem.W.Frag} {H : Hp} {v : V} {i : Str} (h : Dp K H v (.str i)) : v = .str i := by cases h; rfl
theorem dp_bl {K : PySem.W.Frag} {H : Hp} {v : V} {i : Bool} (h : Dp K H v (.bool i)) : v = .bl i := by cases h; rfl
theorem dp_non {K : PySem.W.Frag} {H : Hp} {v : V} (h : Dp K H v .none) : v = .non := by cases h; rfl
theorem dp_lst {K : PySem.W.Frag} {H : Hp} {v : V} {ds : List PyData} (h : Dp K H v (.list ds)) : ∃ a xs, v = .ref a ∧ SqL K H a xs ∧ DpAll K H xs ds := by
  cases h with
  | lst h a => exact ⟨_, _, rfl, h, a⟩
theorem dp_tup {K : PySem.W.Frag} {H : Hp} {v : V} {ds : List PyData} (h : Dp K H v (.tuple ds)) : ∃ a xs, v = .ref a ∧ SqT K H a xs ∧ DpAll K H xs ds := by
  cases h with
  | tup h a => exact ⟨_, _, rfl, h, a⟩
theorem dps_len {K : PySem.W.Frag} {H : Hp} : ∀ {vs : List V} {ds : List PyData}, DpAll K H vs ds → vs.length = ds.length
  | _, _, .nil => rfl
  | _, _, .cons _ t => congrArg (· + 1) (dps_len t)
theorem dps_get {K : PySem.W.Frag} {H : Hp} : ∀ {vs : List V} {ds : List PyData} {i : Nat} {d : PyData}, DpAll K H vs ds → ds[i]? = some d → ∃ v, vs[i]? = some v ∧ Dp K H v d
  | _, _, i, d, .nil, e => by simp at e
  | _, _, 0, d, .cons h t, e => by
    simp at e
    subst e
    exact ⟨_, rfl, h⟩
  | _, _, i + 1, d, .cons h t, e => by
    obtain ⟨v, h1, h2⟩ := dps_get (i := i) (d := d) t (by simpa using e)
    exact ⟨v, by simpa using h1, h2⟩
theorem dps_getv {K : PySem.W.Frag} {H : Hp} : ∀ {vs : List V} {ds : List PyData} {i : Nat} {v : V}, DpAll K H vs ds → vs[i]? = some v → ∃ d, ds[i]? = some d ∧ Dp K H v d
  | _, _, i, d, .nil, e => by simp at e
  | _, _, 0, d, .cons h t, e => by
    simp at e
    subst e
    exact ⟨_, rfl, h⟩
  | _, _, i + 1, d, .cons h t, e => by
    obtain ⟨v, h1, h2⟩ := dps_getv (i := i) (v := d) t (by simpa using e)
    exact ⟨v, by simpa using h1, h2⟩
theorem dps_app {K : PySem.W.Frag} {H : Hp} : ∀ {vs ws : List V} {ds es : List PyData}, DpAll K H vs ds → DpAll K H ws es → DpAll K H (vs ++ ws) (ds ++ es)
  | _, _, _, _, .nil, t => t
  | _, _, _, _, .cons h r, t => .cons h (dps_app r t)
theorem dps_snoc {K : PySem.W.Frag} {H : Hp} {vs : List V} {w : V} {ds : List PyData} {e : PyData} (h : DpAll K H vs ds) (t : Dp K H w e) : DpAll K H (vs ++ [w]) (ds ++ [e]) := dps_app h (.cons t .nil)
theorem dps_take {K : PySem.W.Frag} {H : Hp} : ∀ {vs : List V} {ds : List PyData} (n : Nat), DpAll K H vs ds → DpAll K H (vs.take n) (ds.take n)
  | _, _, 0, _ => by simpa using .nil
  | _, _, _ + 1, .nil => .nil
  | _, _, n + 1, .cons h t => .cons h (dps_take n t)
theorem dps_drop {K : PySem.W.Frag} {H : Hp} : ∀ {vs : List V} {ds : List PyData} (n : Nat), DpAll K H vs ds → DpAll K H (vs.drop n) (ds.drop n)
  | _, _, 0, h => h
  | _, _, _ + 1, .nil => .nil
  | _, _, n + 1, .cons h t => dps_drop n t
theorem dps_rev {K : PySem.W.Frag} {H : Hp} : ∀ {vs : List V} {ds : List PyData}, DpAll K H vs ds → DpAll K H vs.reverse ds.reverse
  | _, _, .nil => .nil
  | _, _, .cons h t => by
    rw [List.reverse_cons, List.reverse_cons]
    exact dps_snoc (dps_rev t) h
theorem dps_set {K : PySem.W.Frag} {H : Hp} {v : V} {d : PyData} (hd : Dp K H v d) : ∀ {vs : List V} {ds : List PyData} (n : Nat), DpAll K H vs ds → DpAll K H (vs.set n v) (ds.set n d)
  | _, _, _, .nil => .nil
  | _, _, 0, .cons _ t => .cons hd t
  | _, _, n + 1, .cons h t => .cons h (dps_set hd n t)
theorem dps_ints {K : PySem.W.Frag} {H : Hp} : ∀ (ns : List Int), DpAll K H (ns.map V.int) (ns.map PyData.int)
  | [] => .nil
  | n :: r => .cons (.int n) (dps_ints r)
theorem dps_ints_of {K : PySem.W.Frag} {H : Hp} : ∀ {ns : List Int} {vs : List V}, DpAll K H vs (ns.map PyData.int) → vs = ns.map V.int
  | [], _, .nil => rfl
  | n :: r, _, .cons h t => by
    cases dp_int h
    rw [dps_ints_of t]
    rfl
/-- the name of a datum's type -/
def tyD : PyData → String
  | .none => "NoneType"
  | .bool _ => "bool"
  | .int _ => "int"
  | .str _ => "str"
  | .list _ => "list"
  | .tuple _ => "tuple"
  | .dict _ => "dict"
theorem dp_ty {K : PySem.W.Frag} {H : Hp} {v : V} {d : PyData} (h : Dp K H v d) : TyX K H v (.type (tyD d)) := by
  cases h with
  | non => exact .base .non
  | bl b => exact .base (.bl b)
  | int i => exact .base (.int i)
  | str x => exact .base (.str x)
  | lst h a =>
    rcases h with (h | ⟨o, h⟩) | ⟨o, _, _, h1, h2, _⟩
    · exact .base (.lst h)
    · exact .base (.frz h)
    · exact .kList h1 h2
  | tup h a =>
    rcases h with (h | ⟨o, h⟩) | ⟨o, _, _, h1, h2, _⟩
    · exact .base (.tup h)
    · exact .fTuple h
    · exact .kTuple h1 h2
/-- isinstance(x, T) of data: the answers -/
def isT (t T : String) : Bool := decide (t = T) || (decide (t = "bool") && decide (T = "int"))
def isD (T : String) (d : PyData) : Bool := isT (tyD d) T
theorem kit_tab : ∀ t ∈ ["NoneType", "bool", "int", "str", "list", "tuple", "dict"], ∀ T ∈ ["int", "bool", "str", "list", "tuple", "dict"], kitB t T = some (isT t T) := by decide +kernel
theorem tyD_mem (d : PyData) : tyD d ∈ ["NoneType", "bool", "int", "str", "list", "tuple", "dict"] := by cases d <;> simp [tyD]
theorem kitD (K : PySem.W.Frag) (d : PyData) (T : String) (hT : T ∈ ["int", "bool", "str", "list", "tuple", "dict"]) : PySem.W.kitOne K (.type (tyD d)) (.type T) = some (isD T d) :=
  kit_ty (kit_tab _ (tyD_mem d) T hT)
theorem kitD2 (K : PySem.W.Frag) (d : PyData) (S T : String) (hS : S ∈ ["int", "bool", "str", "list", "tuple", "dict"]) (hT : T ∈ ["int", "bool", "str", "list", "tuple", "dict"]) :
    PySem.W.kitAny K (.type (tyD d)) [.type S, .type T] = some (isD S d || isD T d) := by
  refine kitAny_cons (kitD K d S hS) (fun h => ?_) (fun h => by rw [h]; rfl)
  rw [h]
  refine kitAny_cons (kitD K d T hT) (fun h => ?_) (fun h => by rw [h]; rfl)
  rw [h]
  rfl
theorem clsv2 (S T : String) : Paired ClsV [V.ty S, V.ty T] [Value.type S, Value.type T] := .cons (.ty S) (.cons (.ty T) .nil)
/-- items of a list, a tuple by a number that is not below 0 -/
theorem at_nat {xs : List V} {i : Nat} {v : V} (h : xs[i]? = some v) : atI xs (i : Int) = some v := atI_nat h
/-- only a deck is known: some ints, not many -/
def Deck (H : Hp) (a : Addr) : Prop := ∃ ds : List Int, ds.length ≤ 2000 ∧ H a = some (.lst (ds.map V.int))
theorem Deck.same {H H' : Hp} {a : Addr} (h : Deck H a) (e : Same H H') : Deck H' a := let ⟨ds, h1, h2⟩ := h; ⟨ds, h1, e _ _ h2⟩

/-! ### the frame: what a call does not see stands as it was -/
/-- without the lists of S -/
def out (H : Hp) (S : Addr → Bool) : Hp := fun b => if S b = true then none else H b
/-- the lists of S put back -/
def back (H H' : Hp) (S : Addr → Bool) : Hp := fun b => if S b = true then H b else H' b
theorem out_in {H : Hp} {S : Addr → Bool} {b : Addr} (h : S b = true) : out H S b = none := by unfold out; rw [if_pos h]
theorem out_ne {H : Hp} {S : Addr → Bool} {b : Addr} (h : ¬ S b = true) : out H S b = H b := by unfold out; rw [if_neg h]
theorem back_in {H H' : Hp} {S : Addr → Bool} {b : Addr} (h : S b = true) : back H H' S b = H b := by unfold back; rw [if_pos h]
theorem back_ne {H H' : Hp} {S : Addr → Bool} {b : Addr} (h : ¬ S b = true) : back H H' S b = H' b := by unfold back; rw [if_neg h]
/-- a promise that may be used over a part of the heap -/
@[irreducible] def fr (sp : Sp) : Sp := fun vs H Q E => ∃ S : Addr → Bool, (∀ b, S b = true → ∃ xs, H b = some (.lst xs)) ∧ sp vs (out H S) (fun v H' => (∀ b, S b = true → H' b = none) → Q v (back H H' S)) E
theorem fn_fr {P : Program} {w : World} {K : PySem.W.Frag} {mg : Str → Option Value} {base : Heap} {k : Nat} {f : Addr} {fd : FuncData} {ps : List Str} {sp : Sp} (F : FnOk P w K mg base CX0 k f fd ps sp) : FnOk P w K mg base CX0 k f fd ps (fr sp) := by
  refine ⟨fun vs H Q E hs => by unfold fr at hs; obtain ⟨S, _, h⟩ := hs; exact F.len _ _ _ _ h, fun A outer s H args us vs Q E hr e0 hb hv hs => ?_⟩
  unfold fr at hs
  obtain ⟨S, hS, h⟩ := hs
  have hne : ∀ b, H b = none → ¬ S b = true := fun b n q => by
    obtain ⟨xs, e⟩ := hS b q
    rw [n] at e
    cases e
  have hout : ∀ b, H b = none → out H S b = none := fun b n => by rw [out_ne (hne b n)]; exact n
  have hoth : ∀ b o, H b = some o → (∀ xs, o ≠ .lst xs) → ¬ S b = true := fun b o e n q => by
    obtain ⟨xs, e'⟩ := hS b q
    rw [e] at e'
    exact n xs (Option.some.inj e')
  have okout : HOk P w (out H S) s.heap := fun a o e => by
    have ns : ¬ S a = true := fun q => by rw [out_in q] at e; cases e
    rw [out_ne ns] at e
    refine (e0.hok a o e).stay (fun b u _ q => q) (fun b q => ?_) (fun b xs q => ?_)
    · rw [out_ne (hoth b _ q fun xs z => by cases z)]; exact q
    · rw [out_ne (hoth b _ q fun xs z => by cases z)]; exact q
  have e1 : Env0 P w K mg base A outer s (out H S) := ⟨e0.frames, e0.mod, fun b o q => ⟨(e0.bs b o q).1, hout b (e0.bs b o q).2⟩, e0.bsz, e0.funs, fun b q => hout b (e0.frf b q), okout, e0.bare⟩
  refine codeAny_mono (F.run A outer s (out H S) args us vs _ E hr e1 hb hv h) fun r s' q => ?_
  cases r with
  | error e => exact q
  | ok fl =>
    cases fl with
    | next => exact q
    | brk => exact q
    | cont => exact q
    | ret u =>
      obtain ⟨v, H', os, bare, un, hok, rv, q⟩ := q
      have hobj : ∀ b, S b = true → ∃ o, s.heap.get? b = some o := fun b q => by
        obtain ⟨xs, e⟩ := hS b q
        obtain ⟨_, its, n, _, e'⟩ := e0.hok b _ e
        exact ⟨_, e'⟩
      have hfree : ∀ b, S b = true → H' b = none := fun b q => by
        obtain ⟨o, e⟩ := hobj b q
        exact un.free b o e (out_in q) (by simp)
      have hkeep : ∀ b o, S b = true → s.heap.get? b = some o → s'.heap.get? b = some o := fun b o q e => by
        obtain ⟨xs, e'⟩ := hS b q
        exact un.keep b o e (out_in q) (fun z => by rw [e0.frf b z] at e'; cases e') (by simp)
      refine ⟨v, back H H' S, os, bare, ⟨fun b o e n hb hx => un.keep b o e (hout b n) hb hx, fun b o e n hb hx => un.slot b o e (hout b n) hb hx, fun b o e n hx => ?_, un.there, fun b xs e => ?_, fun b o u e => ?_, fun b ps e => ?_⟩, fun a o e => ?_, rv, q hfree⟩
      · rw [back_ne (hne b n)]
        exact un.free b o e (hout b n) hx
      · have ns := hoth b _ e fun xs z => by cases z
        rw [back_ne ns]
        exact un.tups b xs (by rw [out_ne ns]; exact e)
      · have ns := hoth b _ e fun xs z => by cases z
        rw [back_ne ns]
        exact un.frzs b o u (by rw [out_ne ns]; exact e)
      · have ns := hoth b _ e fun xs z => by cases z
        rw [back_ne ns]
        exact un.tbls b ps (by rw [out_ne ns]; exact e)
      · by_cases sa : S a = true
        · rw [back_in sa] at e
          obtain ⟨xs, e'⟩ := hS a sa
          rw [e'] at e
          cases e
          obtain ⟨hl, its, n, r, g⟩ := e0.hok a _ e'
          exact ⟨hl, its, n, r, hkeep a _ sa g⟩
        · rw [back_ne sa] at e
          refine (hok a o e).stay (fun b u _ z => z) (fun b z => ?_) (fun b xs z => ?_)
          · rw [back_ne fun sb => by rw [hfree b sb] at z; cases z]; exact z
          · rw [back_ne fun sb => by rw [hfree b sb] at z; cases z]; exact z
/-- one list put aside -/
theorem fr_one {sp : Sp} {vs : List V} {G : Hp} {D : Addr} {acc : List V} {Q : VK} {E : XK} (hD : G D = none) (h : sp vs G (fun v G' => G' D = none → Q v (upd G' D (.lst acc))) E)
    (mono : ∀ (Q1 Q2 : VK), (∀ v G', Q1 v G' → Q2 v G') → sp vs G Q1 E → sp vs G Q2 E) : fr sp vs (upd G D (.lst acc)) Q E := by
  have e : out (upd G D (.lst acc)) (fun b => decide (b = D)) = G := by
    funext b
    unfold out upd
    by_cases hb : b = D
    · rw [if_pos (decide_eq_true hb), hb, hD]
    · rw [if_neg (fun z => hb (of_decide_eq_true z)), if_neg hb]
  unfold fr
  refine ⟨fun b => decide (b = D), fun b hb => ⟨acc, by rw [of_decide_eq_true hb, upd_same]⟩, ?_⟩
  rw [e]
  refine mono _ _ (fun v G' q hn => ?_) h
  have hn' : G' D = none := hn D (decide_eq_true rfl)
  have e2 : back (upd G D (.lst acc)) G' (fun b => decide (b = D)) = upd G' D (.lst acc) := by
    funext b
    unfold back upd
    by_cases hb : b = D
    · rw [if_pos (decide_eq_true hb), if_pos hb, if_pos hb]
    · rw [if_neg (fun z => hb (of_decide_eq_true z)), if_neg hb]
  rw [e2]
  exact q hn'
/-- a comprehension over data, with one test, that changes nothing: its list has the images of those that are kept -/
theorem lc_data {K : PySem.W.Frag} {a : Addr} {xs : List V} {ds : List PyData} {gt : TG} {tt : TT} {te : TE} {vs : List Nat} {σ : St} {H1 : Hp} {D : Addr} {Qd : Hp → Prop} (p : PyData → Bool) (g : PyData → PyData)
    (hx : SqL K H1 a xs) (hd : DpAll K H1 xs ds) (hD : H1 D = none) (hl : ds.length ≤ 100000)
    (hs : ∀ (v : V) (d : PyData) (G : Hp) (acc : List V) (R : Hp → Prop), d ∈ ds → Dp K G v d → Same H1 G → G D = none → acc.length < sizeLine →
      (p d = false → ∀ G', Same G G' → G' D = none → R (upd G' D (.lst acc))) →
      (p d = true → ∀ (G' : Hp) (u : V), Same G G' → G' D = none → Dp K G' u (g d) → R (upd G' D (.lst (acc ++ [u])))) →
      gt v (wipe σ vs) (upd G D (.lst acc)) fun σ2 H2 => wipe σ2 vs = wipe σ vs ∧ tt σ2 H2 fun b H3 =>
        if b = true then te σ2 H3 fun y H4 => ∃ acc, H4 D = some (.lst acc) ∧ acc.length < sizeLine ∧ R (upd H4 D (.lst (acc ++ [y]))) else R H3)
    (hq : ∀ (G : Hp) (ys : List V), Same H1 G → G D = none → DpAll K G ys ((ds.filter p).map g) → Qd (upd G D (.lst ys))) :
    ∃ W : Nat → Nat → Hp → Prop, (∃ m, W 0 m (upd H1 D (.lst []))) ∧ ∀ i m H, W i m H →
      ((Itl K a).stop i H ∧ Qd H) ∨ ((Itl K a).go i H ∧ ∃ Nx : Hp → Prop, (∀ H', Nx H' → ∃ m', m' < m ∧ W (i + 1) m' H') ∧ ∀ x H', (Itl K a).yld i H x H' → gt x (wipe σ vs) H' fun σ2 H2 => wipe σ2 vs = wipe σ vs ∧ tt σ2 H2 fun b H3 =>
        if b = true then te σ2 H3 fun y H4 => ∃ acc, H4 D = some (.lst acc) ∧ acc.length < sizeLine ∧ Nx (upd H4 D (.lst (acc ++ [y]))) else Nx H3) := by
  have hxd := dps_len hd
  refine lc_list (K := K) (a := a) (xs := xs) (fun i H => ∃ (G : Hp) (ys : List V), Same H1 G ∧ G D = none ∧ H = upd G D (.lst ys) ∧ DpAll K G ys (((ds.take i).filter p).map g)) ⟨H1, [], Same.refl _, hD, rfl, .nil⟩ ?_ ?_ ?_
  · rintro i H _ ⟨G, ys, s, hG, rfl, _⟩
    exact (same_new hG).seq (s.seq hx)
  · rintro i x H hi ⟨G, ys, s, hG, rfl, hy⟩
    obtain ⟨d, hdi, dx⟩ := dps_getv hd hi
    have il : i < ds.length := (List.getElem?_eq_some_iff.mp hdi).1
    have dm : d ∈ ds := List.mem_of_getElem? hdi
    have yl : ys.length ≤ i := by
      rw [dps_len hy, List.length_map]
      refine Nat.le_trans (List.length_filter_le _ _) ?_
      rw [List.length_take]
      omega
    have tk : ds.take (i + 1) = ds.take i ++ [d] := by rw [List.take_add_one, hdi]; rfl
    refine hs x d G ys _ dm (dp_same s dx) s hG (Nat.lt_of_lt_of_le (show ys.length < 100001 by omega) (by decide)) (fun pf G' s' hG' => ⟨G', ys, s.trans s', hG', rfl, ?_⟩) (fun pt G' u s' hG' du => ⟨G', _, s.trans s', hG', rfl, ?_⟩)
    · rw [tk, List.filter_append, List.filter_cons, if_neg (by rw [pf]; decide), List.filter_nil, List.append_nil]
      exact dps_same s' hy
    · rw [tk, List.filter_append, List.filter_cons, if_pos pt, List.filter_nil, List.map_append]
      exact dps_snoc (dps_same s' hy) du
  · rintro H ⟨G, ys, s, hG, rfl, hy⟩
    refine hq G ys s hG ?_
    rw [List.take_of_length_le (by omega)] at hy
    exact hy
/-- .. over a tuple -/
theorem lc_dataT {K : PySem.W.Frag} {a : Addr} {xs : List V} {ds : List PyData} {gt : TG} {tt : TT} {te : TE} {vs : List Nat} {σ : St} {H1 : Hp} {D : Addr} {Qd : Hp → Prop} (p : PyData → Bool) (g : PyData → PyData)
    (hx : SqT K H1 a xs) (hd : DpAll K H1 xs ds) (hD : H1 D = none) (hl : ds.length ≤ 100000)
    (hs : ∀ (v : V) (d : PyData) (G : Hp) (acc : List V) (R : Hp → Prop), d ∈ ds → Dp K G v d → Same H1 G → G D = none → acc.length < sizeLine →
      (p d = false → ∀ G', Same G G' → G' D = none → R (upd G' D (.lst acc))) →
      (p d = true → ∀ (G' : Hp) (u : V), Same G G' → G' D = none → Dp K G' u (g d) → R (upd G' D (.lst (acc ++ [u])))) →
      gt v (wipe σ vs) (upd G D (.lst acc)) fun σ2 H2 => wipe σ2 vs = wipe σ vs ∧ tt σ2 H2 fun b H3 =>
        if b = true then te σ2 H3 fun y H4 => ∃ acc, H4 D = some (.lst acc) ∧ acc.length < sizeLine ∧ R (upd H4 D (.lst (acc ++ [y]))) else R H3)
    (hq : ∀ (G : Hp) (ys : List V), Same H1 G → G D = none → DpAll K G ys ((ds.filter p).map g) → Qd (upd G D (.lst ys))) :
    ∃ W : Nat → Nat → Hp → Prop, (∃ m, W 0 m (upd H1 D (.lst []))) ∧ ∀ i m H, W i m H →
      ((Itt K a).stop i H ∧ Qd H) ∨ ((Itt K a).go i H ∧ ∃ Nx : Hp → Prop, (∀ H', Nx H' → ∃ m', m' < m ∧ W (i + 1) m' H') ∧ ∀ x H', (Itt K a).yld i H x H' → gt x (wipe σ vs) H' fun σ2 H2 => wipe σ2 vs = wipe σ vs ∧ tt σ2 H2 fun b H3 =>
        if b = true then te σ2 H3 fun y H4 => ∃ acc, H4 D = some (.lst acc) ∧ acc.length < sizeLine ∧ Nx (upd H4 D (.lst (acc ++ [y]))) else Nx H3) := by
  have hxd := dps_len hd
  refine lc_tup (K := K) (a := a) (xs := xs) (fun i H => ∃ (G : Hp) (ys : List V), Same H1 G ∧ G D = none ∧ H = upd G D (.lst ys) ∧ DpAll K G ys (((ds.take i).filter p).map g)) ⟨H1, [], Same.refl _, hD, rfl, .nil⟩ ?_ ?_ ?_
  · rintro i H _ ⟨G, ys, s, hG, rfl, _⟩
    exact Same.tup (same_new hG) (Same.tup s hx)
  · rintro i x H hi ⟨G, ys, s, hG, rfl, hy⟩
    obtain ⟨d, hdi, dx⟩ := dps_getv hd hi
    have il : i < ds.length := (List.getElem?_eq_some_iff.mp hdi).1
    have dm : d ∈ ds := List.mem_of_getElem? hdi
    have yl : ys.length ≤ i := by
      rw [dps_len hy, List.length_map]
      refine Nat.le_trans (List.length_filter_le _ _) ?_
      rw [List.length_take]
      omega
    have tk : ds.take (i + 1) = ds.take i ++ [d] := by rw [List.take_add_one, hdi]; rfl
    refine hs x d G ys _ dm (dp_same s dx) s hG (Nat.lt_of_lt_of_le (show ys.length < 100001 by omega) (by decide)) (fun pf G' s' hG' => ⟨G', ys, s.trans s', hG', rfl, ?_⟩) (fun pt G' u s' hG' du => ⟨G', _, s.trans s', hG', rfl, ?_⟩)
    · rw [tk, List.filter_append, List.filter_cons, if_neg (by rw [pf]; decide), List.filter_nil, List.append_nil]
      exact dps_same s' hy
    · rw [tk, List.filter_append, List.filter_cons, if_pos pt, List.filter_nil, List.map_append]
      exact dps_snoc (dps_same s' hy) du
  · rintro H ⟨G, ys, s, hG, rfl, hy⟩
    refine hq G ys s hG ?_
    rw [List.take_of_length_le (by omega)] at hy
    exact hy
/-- x is True, x is not True: x any flat value but a number, a text -/
def rIsX (neg : Bool) : R2 := fun x y H Q => ∃ b : Bool, y = .bl b ∧ (x = .non ∨ (∃ a : Bool, x = .bl a) ∨ (∃ i : Int, x = .int i) ∨ ∃ z : Str, x = .str z) ∧ Q (.bl (if neg = true then !decide (x = .bl b) else decide (x = .bl b))) H
section
variable {X : Cx}
theorem op_isX : OpR X (compareOp .Is) (rIsX false) := by
  intro pins s σ H x y v u Q I rx ry h
  obtain ⟨b, rfl, hx, q⟩ := h
  cases (show u = Value.bool b from ry)
  rcases hx with rfl | ⟨a, rfl⟩ | ⟨i, rfl⟩ | ⟨z, rfl⟩
  · cases (show v = Value.none from rx)
    exact PySem.wpAny_is_other rfl (fun z => nomatch z) ⟨.bl false, H, I, rfl, by simpa using q⟩
  · cases (show v = Value.bool a from rx)
    by_cases e : a = b
    · subst e
      exact PySem.wpAny_is_self rfl ⟨.bl true, H, I, rfl, by simpa using q⟩
    · exact PySem.wpAny_is_other rfl (fun z => e (Value.bool.inj z)) ⟨.bl false, H, I, rfl, by simpa [e] using q⟩
  · obtain ⟨t, rfl⟩ := (show ∃ t, v = Value.int i t from rx)
    exact PySem.wpAny_is_other rfl (fun z => nomatch z) ⟨.bl false, H, I, rfl, by simpa using q⟩
  · obtain ⟨t, rfl⟩ := (show ∃ t, v = Value.str z t from rx)
    exact PySem.wpAny_is_other rfl (fun z => nomatch z) ⟨.bl false, H, I, rfl, by simpa using q⟩
theorem op_notX : OpR X (compareOp .IsNot) (rIsX true) := by
  intro pins s σ H x y v u Q I rx ry h
  obtain ⟨b, rfl, hx, q⟩ := h
  cases (show u = Value.bool b from ry)
  rcases hx with rfl | ⟨a, rfl⟩ | ⟨i, rfl⟩ | ⟨z, rfl⟩
  · cases (show v = Value.none from rx)
    exact PySem.wpAny_isNot_other rfl (fun z => nomatch z) ⟨.bl true, H, I, rfl, by simpa using q⟩
  · cases (show v = Value.bool a from rx)
    by_cases e : a = b
    · subst e
      exact PySem.wpAny_isNot_self rfl ⟨.bl false, H, I, rfl, by simpa using q⟩
    · exact PySem.wpAny_isNot_other rfl (fun z => e (Value.bool.inj z)) ⟨.bl true, H, I, rfl, by simpa [e] using q⟩
  · obtain ⟨t, rfl⟩ := (show ∃ t, v = Value.int i t from rx)
    exact PySem.wpAny_isNot_other rfl (fun z => nomatch z) ⟨.bl true, H, I, rfl, by simpa using q⟩
  · obtain ⟨t, rfl⟩ := (show ∃ t, v = Value.str z t from rx)
    exact PySem.wpAny_isNot_other rfl (fun z => nomatch z) ⟨.bl true, H, I, rfl, by simpa using q⟩
end
theorem upd_app {G : Hp} {D : Addr} {acc ys : List V} : upd (upd G D (.lst acc)) D (.lst ys) = upd G D (.lst ys) := upd_upd

/-! ### lists whose items stand in a relation to plain things -/
theorem paired_get {α β : Type} {F : α → β → Prop} : ∀ {l₁ : List α} {l₂ : List β} {i : Nat} {b : β}, Paired F l₁ l₂ → l₂[i]? = some b → ∃ a, l₁[i]? = some a ∧ F a b
  | _, _, i, b, .nil, e => by simp at e
  | _, _, 0, b, .cons h t, e => by
    simp at e
    subst e
    exact ⟨_, rfl, h⟩
  | _, _, i + 1, b, .cons h t, e => by
    obtain ⟨v, h1, h2⟩ := paired_get (i := i) (b := b) t (by simpa using e)
    exact ⟨v, by simpa using h1, h2⟩
theorem paired_getv {α β : Type} {F : α → β → Prop} : ∀ {l₁ : List α} {l₂ : List β} {i : Nat} {a : α}, Paired F l₁ l₂ → l₁[i]? = some a → ∃ b, l₂[i]? = some b ∧ F a b
  | _, _, i, b, .nil, e => by simp at e
  | _, _, 0, b, .cons h t, e => by
    simp at e
    subst e
    exact ⟨_, rfl, h⟩
  | _, _, i + 1, b, .cons h t, e => by
    obtain ⟨v, h1, h2⟩ := paired_getv (i := i) (a := b) t (by simpa using e)
    exact ⟨v, by simpa using h1, h2⟩
theorem paired_app {α β : Type} {F : α → β → Prop} : ∀ {l₁ m₁ : List α} {l₂ m₂ : List β}, Paired F l₁ l₂ → Paired F m₁ m₂ → Paired F (l₁ ++ m₁) (l₂ ++ m₂)
  | _, _, _, _, .nil, h => h
  | _, _, _, _, .cons h t, k => .cons h (paired_app t k)
theorem paired_take {α β : Type} {F : α → β → Prop} : ∀ {l₁ : List α} {l₂ : List β} (n : Nat), Paired F l₁ l₂ → Paired F (l₁.take n) (l₂.take n)
  | _, _, 0, _ => by simpa using .nil
  | _, _, _ + 1, .nil => .nil
  | _, _, n + 1, .cons h t => .cons h (paired_take n t)
theorem paired_drop {α β : Type} {F : α → β → Prop} : ∀ {l₁ : List α} {l₂ : List β} (n : Nat), Paired F l₁ l₂ → Paired F (l₁.drop n) (l₂.drop n)
  | _, _, 0, h => h
  | _, _, _ + 1, .nil => .nil
  | _, _, n + 1, .cons h t => paired_drop n t
theorem paired_rev {α β : Type} {F : α → β → Prop} : ∀ {l₁ : List α} {l₂ : List β}, Paired F l₁ l₂ → Paired F l₁.reverse l₂.reverse
  | _, _, .nil => .nil
  | _, _, .cons h t => by
    rw [List.reverse_cons, List.reverse_cons]
    exact Paired.snoc (paired_rev t) h
theorem paired_set {α β : Type} {F : α → β → Prop} {a : α} {b : β} (hd : F a b) : ∀ {l₁ : List α} {l₂ : List β} (n : Nat), Paired F l₁ l₂ → Paired F (l₁.set n a) (l₂.set n b)
  | _, _, _, .nil => .nil
  | _, _, 0, .cons _ t => .cons hd t
  | _, _, n + 1, .cons h t => .cons h (paired_set hd n t)
theorem paired_map {α β γ : Type} {F : α → β → Prop} {F' : α → γ → Prop} {g : β → γ} (h : ∀ a b, F a b → F' a (g b)) : ∀ {l₁ : List α} {l₂ : List β}, Paired F l₁ l₂ → Paired F' l₁ (l₂.map g)
  | _, _, .nil => .nil
  | _, _, .cons k t => .cons (h _ _ k) (paired_map h t)
/-- a comprehension with one test that changes nothing, over items that stand in a relation -/
theorem lc_rel {α β : Type} {K : PySem.W.Frag} {a : Addr} {xs : List V} {as : List α} {gt : TG} {tt : TT} {te : TE} {vs : List Nat} {σ : St} {H1 : Hp} {D : Addr} {Qd : Hp → Prop} (RA : Hp → V → α → Prop) (RB : Hp → V → β → Prop)
    (mA : ∀ {H H' : Hp} {v : V} {x : α}, Same H H' → RA H v x → RA H' v x) (mB : ∀ {H H' : Hp} {v : V} {x : β}, Same H H' → RB H v x → RB H' v x) (p : α → Bool) (g : α → β)
    (hx : SqL K H1 a xs) (hd : Paired (RA H1) xs as) (hD : H1 D = none) (hl : as.length ≤ 100000)
    (hs : ∀ (v : V) (x : α) (G : Hp) (acc : List V) (R : Hp → Prop), x ∈ as → RA G v x → Same H1 G → G D = none → acc.length < sizeLine →
      (p x = false → ∀ G', Same G G' → G' D = none → R (upd G' D (.lst acc))) →
      (p x = true → ∀ (G' : Hp) (u : V), Same G G' → G' D = none → RB G' u (g x) → R (upd G' D (.lst (acc ++ [u])))) →
      gt v (wipe σ vs) (upd G D (.lst acc)) fun σ2 H2 => wipe σ2 vs = wipe σ vs ∧ tt σ2 H2 fun b H3 =>
        if b = true then te σ2 H3 fun y H4 => ∃ acc, H4 D = some (.lst acc) ∧ acc.length < sizeLine ∧ R (upd H4 D (.lst (acc ++ [y]))) else R H3)
    (hq : ∀ (G : Hp) (ys : List V), Same H1 G → G D = none → Paired (RB G) ys ((as.filter p).map g) → Qd (upd G D (.lst ys))) :
    ∃ W : Nat → Nat → Hp → Prop, (∃ m, W 0 m (upd H1 D (.lst []))) ∧ ∀ i m H, W i m H →
      ((Itl K a).stop i H ∧ Qd H) ∨ ((Itl K a).go i H ∧ ∃ Nx : Hp → Prop, (∀ H', Nx H' → ∃ m', m' < m ∧ W (i + 1) m' H') ∧ ∀ x H', (Itl K a).yld i H x H' → gt x (wipe σ vs) H' fun σ2 H2 => wipe σ2 vs = wipe σ vs ∧ tt σ2 H2 fun b H3 =>
        if b = true then te σ2 H3 fun y H4 => ∃ acc, H4 D = some (.lst acc) ∧ acc.length < sizeLine ∧ Nx (upd H4 D (.lst (acc ++ [y]))) else Nx H3) := by
  have hxd := hd.length
  refine lc_list (K := K) (a := a) (xs := xs) (fun i H => ∃ (G : Hp) (ys : List V), Same H1 G ∧ G D = none ∧ H = upd G D (.lst ys) ∧ Paired (RB G) ys (((as.take i).filter p).map g)) ⟨H1, [], Same.refl _, hD, rfl, .nil⟩ ?_ ?_ ?_
  · rintro i H _ ⟨G, ys, s, hG, rfl, _⟩
    exact (same_new hG).seq (s.seq hx)
  · rintro i x H hi ⟨G, ys, s, hG, rfl, hy⟩
    obtain ⟨d, hdi, dx⟩ := paired_getv hd hi
    have il : i < as.length := (List.getElem?_eq_some_iff.mp hdi).1
    have dm : d ∈ as := List.mem_of_getElem? hdi
    have yl : ys.length ≤ i := by
      rw [hy.length, List.length_map]
      refine Nat.le_trans (List.length_filter_le _ _) ?_
      rw [List.length_take]
      omega
    have tk : as.take (i + 1) = as.take i ++ [d] := by rw [List.take_add_one, hdi]; rfl
    refine hs x d G ys _ dm (mA s dx) s hG (Nat.lt_of_lt_of_le (show ys.length < 100001 by omega) (by decide)) (fun pf G' s' hG' => ⟨G', ys, s.trans s', hG', rfl, ?_⟩) (fun pt G' u s' hG' du => ⟨G', _, s.trans s', hG', rfl, ?_⟩)
    · rw [tk, List.filter_append, List.filter_cons, if_neg (by rw [pf]; decide), List.filter_nil, List.append_nil]
      exact Paired.mapP hy fun _ _ z => mB s' z
    · rw [tk, List.filter_append, List.filter_cons, if_pos pt, List.filter_nil, List.map_append]
      exact Paired.snoc (Paired.mapP hy fun _ _ z => mB s' z) du
  · rintro H ⟨G, ys, s, hG, rfl, hy⟩
    refine hq G ys s hG ?_
    rw [List.take_of_length_le (by omega)] at hy
    exact hy
/-- a tracked tuple of these values -/
def TupL (H : Hp) (v : V) (ws : List V) : Prop := ∃ t, v = .ref t ∧ H t = some (.tup ws)
theorem TupL.same {H H' : Hp} {v : V} {ws : List V} (s : Same H H') : TupL H v ws → TupL H' v ws := fun ⟨t, e, h⟩ => ⟨t, e, s _ _ h⟩
theorem TupL.but {H H' : Hp} {v : V} {ws : List V} (s : ∀ b ys, H b = some (.tup ys) → H' b = some (.tup ys)) : TupL H v ws → TupL H' v ws := fun ⟨t, e, h⟩ => ⟨t, e, s _ _ h⟩
/-- a deck's change leaves tuples -/
theorem But.tups {a : Addr} {H H' : Hp} (h : But a H H') (hn : ∀ ys, H a ≠ some (.tup ys)) : ∀ b ys, H b = some (.tup ys) → H' b = some (.tup ys) := fun b ys e => h b _ (fun q => hn ys (q ▸ e)) e
theorem upd_none {H : Hp} {p q : Addr} {o : HO} (h : upd H p o q = none) : q ≠ p ∧ H q = none := by
  have e : q ≠ p := by
    rintro rfl
    rw [upd_same] at h
    cases h
  exact ⟨e, by rw [upd_ne e] at h; exact h⟩
theorem int_at {l : List Int} {i : Nat} (h : i < l.length) : (l.map V.int)[i]? = some (.int (l.getD i 0)) := by
  rw [List.getElem?_map, List.getD_eq_getElem?_getD, List.getElem?_eq_getElem h]
  rfl
theorem int_atI {l : List Int} {z : Int} (h0 : 0 ≤ z) (h : z.toNat < l.length) : atI (l.map V.int) z = some (.int (l.getD z.toNat 0)) := by
  obtain ⟨n, rfl⟩ := Int.eq_ofNat_of_zero_le h0
  exact atI_nat (int_at h)
theorem take_snoc {α : Type} {l : List α} {i : Nat} {a : α} (h : l[i]? = some a) : l.take (i + 1) = l.take i ++ [a] := by
  rw [List.take_add_one, h]
  rfl
/-- x + y of two tracked tuples, either may be empty -/
theorem catA_new {K : PySem.W.Frag} {H : Hp} {v u : V} {xs ys : List V} {Q : VK} (h1 : TupL H v xs) (h2 : TupL H u ys) (hl : xs.length + ys.length ≤ sizeLine) (k : ∀ (z : V) (H' : Hp), Same H H' → TupL H' z (xs ++ ys) → Q z H') : rCatA K v u H Q := by
  obtain ⟨a, rfl, ha⟩ := h1
  obtain ⟨b, rfl, hb⟩ := h2
  refine ⟨a, b, xs, ys, rfl, rfl, SqT.of' ha, SqT.of' hb, hl, fun e => ?_, fun _ e => ?_, fun _ _ p hp => ?_⟩
  · exact k _ _ (Same.refl _) ⟨b, rfl, by rw [e, List.nil_append]; exact hb⟩
  · exact k _ _ (Same.refl _) ⟨a, rfl, by rw [e, List.append_nil]; exact ha⟩
  · exact k _ _ (same_new hp) ⟨p, rfl, upd_same⟩
theorem size_of {n : Nat} (h : n ≤ 100000) : n ≤ sizeLine := Nat.le_trans h (by decide)

/-! ### slices -/
theorem cut_to {xs : List V} {i : Nat} (h : i ≤ xs.length) : cutV xs none (some (i : Int)) = xs.take i := by
  unfold cutV
  rw [HT.sIx_none, HT.sIx_nat, List.drop_zero, Nat.sub_zero, Nat.min_eq_left h]
theorem cut_from {xs : List V} {i : Nat} (h : i ≤ xs.length) : cutV xs (some (i : Int)) none = xs.drop i := by
  unfold cutV
  rw [HT.sIx_none, HT.sIx_nat, Nat.min_eq_left h]
  exact List.take_of_length_le (by rw [List.length_drop]; exact Nat.le_refl _)
theorem cut_mid {xs : List V} {i j : Nat} (hi : i ≤ j) (h : j ≤ xs.length) : cutV xs (some (i : Int)) (some (j : Int)) = (xs.drop i).take (j - i) := by
  unfold cutV
  rw [HT.sIx_nat, HT.sIx_nat, Nat.min_eq_left h, Nat.min_eq_left (Nat.le_trans hi h)]

/-! ### data without truth values: equal is the same -/
mutual
def pur : PyData → Bool
  | .none | .int _ | .str _ => true
  | .bool _ => false
  | .list xs | .tuple xs => purs xs
  | .dict _ => false
def purs : List PyData → Bool
  | [] => true
  | x :: xs => pur x && purs xs
end
mutual
theorem eqv_pur : ∀ {d e : PyData}, pur d = true → pur e = true → PyData.eqv d e = true → d = e
  | .none, .none, _, _, _ => rfl
  | .int i, .int j, _, _, h => by rw [eq_of_beq (show (i == j) = true from h)]
  | .str i, .str j, _, _, h => by rw [eq_of_beq (show (i == j) = true from h)]
  | .list xs, .list ys, h1, h2, h => by rw [eqvs_pur (ds := xs) (es := ys) h1 h2 (by simpa [PyData.eqv] using h)]
  | .tuple xs, .tuple ys, h1, h2, h => by rw [eqvs_pur (ds := xs) (es := ys) h1 h2 (by simpa [PyData.eqv] using h)]
  | .bool _, _, h1, _, _ => by simp [pur] at h1
  | .dict _, _, h1, _, _ => by simp [pur] at h1
  | .none, .bool _, _, h2, _ => by simp [pur] at h2
  | .int _, .bool _, _, h2, _ => by simp [pur] at h2
  | .str _, .bool _, _, h2, _ => by simp [pur] at h2
  | .list _, .bool _, _, h2, _ => by simp [pur] at h2
  | .tuple _, .bool _, _, h2, _ => by simp [pur] at h2
  | .none, .dict _, _, h2, _ => by simp [pur] at h2
  | .int _, .dict _, _, h2, _ => by simp [pur] at h2
  | .str _, .dict _, _, h2, _ => by simp [pur] at h2
  | .list _, .dict _, _, h2, _ => by simp [pur] at h2
  | .tuple _, .dict _, _, h2, _ => by simp [pur] at h2
  | .none, .int _, _, _, h => by simp [PyData.eqv] at h
  | .none, .str _, _, _, h => by simp [PyData.eqv] at h
  | .none, .list _, _, _, h => by simp [PyData.eqv] at h
  | .none, .tuple _, _, _, h => by simp [PyData.eqv] at h
  | .int _, .none, _, _, h => by simp [PyData.eqv] at h
  | .int _, .str _, _, _, h => by simp [PyData.eqv] at h
  | .int _, .list _, _, _, h => by simp [PyData.eqv] at h
  | .int _, .tuple _, _, _, h => by simp [PyData.eqv] at h
  | .str _, .none, _, _, h => by simp [PyData.eqv] at h
  | .str _, .int _, _, _, h => by simp [PyData.eqv] at h
  | .str _, .list _, _, _, h => by simp [PyData.eqv] at h
  | .str _, .tuple _, _, _, h => by simp [PyData.eqv] at h
  | .list _, .none, _, _, h => by simp [PyData.eqv] at h
  | .list _, .int _, _, _, h => by simp [PyData.eqv] at h
  | .list _, .str _, _, _, h => by simp [PyData.eqv] at h
  | .list _, .tuple _, _, _, h => by simp [PyData.eqv] at h
  | .tuple _, .none, _, _, h => by simp [PyData.eqv] at h
  | .tuple _, .int _, _, _, h => by simp [PyData.eqv] at h
  | .tuple _, .str _, _, _, h => by simp [PyData.eqv] at h
  | .tuple _, .list _, _, _, h => by simp [PyData.eqv] at h
theorem eqvs_pur : ∀ {ds es : List PyData}, purs ds = true → purs es = true → PyData.eqvAll ds es = true → ds = es
  | [], [], _, _, _ => rfl
  | x :: xs, y :: ys, h1, h2, h => by
    simp only [purs, Bool.and_eq_true] at h1 h2
    simp only [PyData.eqvAll, Bool.and_eq_true] at h
    rw [eqv_pur h1.1 h2.1 h.1, eqvs_pur h1.2 h2.2 h.2]
  | [], _ :: _, _, _, h => by simp [PyData.eqvAll] at h
  | _ :: _, [], _, _, h => by simp [PyData.eqvAll] at h
end
theorem eqv_iff {d e : PyData} (hd : pur d = true) (he : pur e = true) (hs : SeqAt.shaped d = true) : PyData.eqv d e = true ↔ d = e :=
  ⟨eqv_pur hd he, fun h => by rw [← h]; exact SeqAt.eqv_refl d (SeqAt.canLay_of_shaped hs)⟩
mutual
/-- data without texts and dicts, of a depth at most n -/
def flat : Nat → PyData → Bool
  | _, .none | _, .bool _ | _, .int _ => true
  | _, .str _ | _, .dict _ => false
  | 0, .list _ | 0, .tuple _ => false
  | n + 1, .list xs => flats n xs
  | n + 1, .tuple xs => flats n xs
def flats : Nat → List PyData → Bool
  | _, [] => true
  | n, x :: xs => flat n x && flats n xs
end
mutual
theorem flat_lay : ∀ {n : Nat} {d : PyData}, flat n d = true → d.canLay0 = true ∧ d.depth ≤ n
  | n, .none, _ => ⟨by simp [PyData.canLay0], by simp [PyData.depth]⟩
  | n, .bool _, _ => ⟨by simp [PyData.canLay0], by simp [PyData.depth]⟩
  | n, .int _, _ => ⟨by simp [PyData.canLay0], by simp [PyData.depth]⟩
  | n, .str _, h => by simp [flat] at h
  | n, .dict _, h => by simp [flat] at h
  | 0, .list _, h => by simp [flat] at h
  | 0, .tuple _, h => by simp [flat] at h
  | n + 1, .list xs, h => by
    obtain ⟨h1, h2⟩ := flats_lay (n := n) (ds := xs) (by simpa [flat] using h)
    exact ⟨by simp only [PyData.canLay0]; exact h1, by simp only [PyData.depth]; omega⟩
  | n + 1, .tuple xs, h => by
    obtain ⟨h1, h2⟩ := flats_lay (n := n) (ds := xs) (by simpa [flat] using h)
    exact ⟨by simp only [PyData.canLay0]; exact h1, by simp only [PyData.depth]; omega⟩
theorem flats_lay : ∀ {n : Nat} {ds : List PyData}, flats n ds = true → PyData.canLayAll0 ds = true ∧ PyData.depthAll ds ≤ n
  | n, [], _ => ⟨by simp [PyData.canLayAll0], by simp [PyData.depthAll]⟩
  | n, x :: xs, h => by
    simp only [flats, Bool.and_eq_true] at h
    obtain ⟨a1, a2⟩ := flat_lay h.1
    obtain ⟨b1, b2⟩ := flats_lay h.2
    exact ⟨by simp only [PyData.canLayAll0, a1, b1, Bool.and_true], by simp only [PyData.depthAll]; omega⟩
end
theorem shaped_flat {n : Nat} {d : PyData} (h : flat n d = true) (hn : n ≤ 64) : SeqAt.shaped d = true := by
  obtain ⟨h1, h2⟩ := flat_lay h
  show (d.canLay0 && decide (d.depth ≤ 64)) = true
  rw [h1, Bool.true_and]
  exact decide_eq_true (by omega)
theorem flats_ints (n : Nat) : ∀ ns : List Int, flats n (ns.map PyData.int) = true
  | [] => by simp [flats]
  | i :: r => by simp [flats, flat, flats_ints n r]
theorem purs_ints : ∀ ns : List Int, purs (ns.map PyData.int) = true
  | [] => by simp [purs]
  | i :: r => by simp [purs, pur, purs_ints r]
theorem flats_map {α : Type} {n : Nat} {f : α → PyData} (h : ∀ a, flat n (f a) = true) : ∀ l : List α, flats n (l.map f) = true
  | [] => by simp [flats]
  | a :: r => by simp [flats, h a, flats_map h r]
theorem purs_map {α : Type} {f : α → PyData} (h : ∀ a, pur (f a) = true) : ∀ l : List α, purs (l.map f) = true
  | [] => by simp [purs]
  | a :: r => by simp [purs, h a, purs_map h r]

/-! ### rules whose reading names the written part, for the inside of a comprehension -/
section
variable {X : Cx} {K : PySem.W.Frag}
theorem ix_tupK (h : X.K = K) : IxR X (rIxT K) := h ▸ ix_tup
theorem ix_listK (h : X.K = K) : IxR X (rIxL K) := h ▸ ix_list
theorem ix_seqK (h : X.K = K) : IxR X (rIx K) := h ▸ ix_seq
theorem sl_tupAK (h : X.K = K) : SlR X (rSlA K) := h ▸ sl_tupA
theorem sl_tupK (h : X.K = K) : SlR X (rSlT K) := h ▸ sl_tup
theorem sl_listK (h : X.K = K) : SlR X (rSlL K) := h ▸ sl_list
theorem call_isiK' (h : X.K = K) : CallR X (.builtin "isinstance") (rIsi K) := h ▸ call_isi
theorem call_isiTK (h : X.K = K) : CallR X (.builtin "isinstance") (rIsiT K) := h ▸ call_isiT
theorem op_eqDK (h : X.K = K) (hu : X.A.units + 64 < cLine) : OpR X (compareOp .Eq) (rEqD K) := h ▸ op_eqD hu
theorem op_neDK (h : X.K = K) (hu : X.A.units + 64 < cLine) : OpR X (compareOp .NotEq) (rNeD K) := h ▸ op_neD hu
theorem op_inDK (h : X.K = K) (hu : X.A.units + 65 < cLine) : OpR X (compareOp .In) (rInD K) := h ▸ op_inD hu
theorem op_notInDK (h : X.K = K) (hu : X.A.units + 65 < cLine) : OpR X (compareOp .NotIn) (rNotInD K) := h ▸ op_notInD hu
theorem op_catAK (h : X.K = K) : OpR X (binaryOp .Add) (rCatA K) := h ▸ op_catA
def rLenS (K : PySem.W.Frag) : List V → Hp → VK → Prop := fun xs H Q => ∃ p ys, xs = [V.ref p] ∧ (SqL K H p ys ∨ SqT K H p ys) ∧ Q (.int ys.length) H
theorem call_len_seqK (h : X.K = K) : CallR X (.builtin "len") (rLenS K) := by
  subst h
  exact call_len_seq
theorem call_tupleTK (h : X.K = K) : CallR X (.type "tuple") (fun xs H Q => ∃ a ys, xs = [V.ref a] ∧ SqT K H a ys ∧ Q (.ref a) H) := by
  subst h
  exact call_tupleT
theorem call_list_ofK (h : X.K = K) : CallR X (.type "list") (fun xs H Q => ∃ p ys, xs = [V.ref p] ∧ (SqL K H p ys ∨ SqT K H p ys) ∧ ∀ l, H l = none → Q (.ref l) (upd H l (.lst ys))) := by
  subst h
  exact call_list_of
theorem kBM {e : Expr} {T : String} {r : V → List V → Hp → VK → Prop} {to : TE} {t : TA} (h : X.K = K) (p : PE X e (tBM X.K T r to t)) : PE X e (tBM K T r to t) := h ▸ p
theorem kBM0 {e : Expr} {T : String} {r : V → List V → Hp → VK → Prop} {to : TE} (h : X.K = K) (p : PE X e (tBM0 X.K T r to)) : PE X e (tBM0 K T r to) := h ▸ p
theorem kFld {e : Expr} {ta : TE} {f : Str} (h : X.K = K) (p : PE X e (tFld X.K ta f)) : PE X e (tFld K ta f) := h ▸ p
theorem kTup {e : Expr} {n : Nat} {t : TGs} (h : X.K = K) (p : PG X e (gTup X.K n t)) : PG X e (gTup K n t) := h ▸ p
theorem kTru {a : Expr} {ta : TE} (h : X.K = K) (p : PT X a (fun σ H Q => ta σ H fun x H' => ∃ k, TruV X.K x H' k ∧ Q k H')) : PT X a (fun σ H Q => ta σ H fun x H' => ∃ k, TruV K x H' k ∧ Q k H') := by
  subst h
  exact p
theorem kRevL {e : Expr} {te : TE} (h : X.K = K) (p : PE X e (tRevL X.K te)) : PE X e (tRevL K te) := h ▸ p
end

/-! ### a call within a comprehension that leaves all as it was -/
def del1 (H : Hp) (D : Addr) : Hp := fun b => if b = D then none else H b
theorem del1_at (H : Hp) (D : Addr) : del1 H D D = none := by unfold del1; rw [if_pos rfl]
theorem del1_ne {H : Hp} {D b : Addr} (h : b ≠ D) : del1 H D b = H b := by unfold del1; rw [if_neg h]
theorem split_at {H : Hp} {D : Addr} {o : HO} (h : H D = some o) : H = upd (del1 H D) D o := by
  funext b
  unfold upd del1
  by_cases e : b = D
  · rw [if_pos e, e, h]
  · rw [if_neg e, if_neg e]
theorem same_del {G H' : Hp} {D : Addr} {o : HO} (hD : G D = none) (s : Same (upd G D o) H') : Same G (del1 H' D) := fun b u e => by
  have n : b ≠ D := ne_of_none e hD
  rw [del1_ne n]
  exact s b u (by rw [upd_ne n]; exact e)
/-- what was seen ahead of a deck's change is seen behind it -/
theorem TupL.deck {a : Addr} {H H' : Hp} (hd : Deck H a) (b : But a H H') {v : V} {ws : List V} (h : TupL H v ws) : TupL H' v ws :=
  h.but (b.tups fun ys e => by obtain ⟨ds, _, q⟩ := hd; rw [q] at e; cases e)
theorem ixN_at {n i : Nat} (h : i < n) : ixN n (i : Int) = some i := by
  unfold ixN
  rw [if_pos (by omega), if_pos (by omega), Int.toNat_natCast]
theorem upd_comm {H : Hp} {a b : Addr} {o u : HO} (h : a ≠ b) : upd (upd H a o) b u = upd (upd H b u) a o := by
  funext c
  unfold upd
  by_cases h1 : c = b
  · rw [if_pos h1, if_neg (fun z => h (z.symm.trans h1)), if_pos h1]
  · rw [if_neg h1, if_neg h1]
end G

/-! ## an own error whose __init__ begins with super().__init__(..) (my own) -/
namespace G
open PySem PySem.Spec PySem.Calls PyProof.Rows L2 NdefX

/-- what the text says of the class C of errors and of the code of its __init__ -/
structure SupTxt (P : Program) (K : PySem.W.Frag) (mg : Str → Option Value) (C cc cda : Addr) : Prop where
  ox : OexC K C
  mro : PySem.W.mroIn K C (.ref C) = some true
  sup : PySem.W.ks_superIn K C C "__init__" = some (some (.builtin "ValueError.__init__"))
  sub : PySem.W.subIn K (.ref C) (.type "ValueError") = some true
  third : PySem.W.nsIn K cStatics "thirdparty.any" = some none
  cell : ∃ cl cld csl, K.lookup cc = some ⟨cl, cld, .cell (some (.ref C)), csl⟩
  code : ∃ ccl cdd vs ccs file tf, K.lookup cda = some ⟨ccl, cdd, .fields vs, ccs⟩ ∧ vs[2]? = some (.str file tf) ∧ ((P.main.file : Str) == file) = true
  top : (P.main.scope.names.lookup ("super" : Str)).isSome = false
  mgs : mg "super" = none

section
variable {prog : Program} {w : World} {A : Around} {E : Value → Shared → Prop} {s : Shared}
/-- the bound ValueError.__init__ is called -/
theorem call_mw {K : PySem.W.Frag} {C x u t1 : Addr} {us : List Value} {Q : Value → Shared → Prop} (T : OexC K C) (X : K.In s.heap) (hu : s.heap.get? u = some (PySem.W.kxs_mw "ValueError.__init__" x))
    (hx : s.heap.get? x = some ({ cls := .ref C, dict := none, data := .fields #[.ref t1, .none, .none, .none, .bool false, .none] } : Obj)) (hz : us.length ≤ sizeLine)
    (h : ∀ h' t2, (∀ b o, b ≠ x → s.heap.get? b = some o → h'.get? b = some o) → h'.get? x = some ({ cls := .ref C, dict := none, data := .fields #[.ref t2, .none, .none, .none, .bool false, .none] } : Obj) → Q .none { s with heap := h' }) :
    wpAny (model prog w) A (call (.ref u) us) Q E s := by
  obtain ⟨nm, q, N, bs, bm, sn, sub, ab, col, dd, k0, k1, k2, k3, k5, hC, hbm⟩ := T.cls
  obtain ⟨hp, g, d, t, os⟩ := s
  refine wpAny_call (codeAny_of_tree ?_)
  change wpAny _ A.in1 (callAny (.ref u) ⟨us, []⟩) _ _ _
  simp only [callAny]
  refine wpAny_bind (wpAny_load hu ?_)
  have e1 : (Value.type "method-wrapper" == Value.type "method" || Value.type "method-wrapper" == Value.type "builtin_function_or_method" || Value.type "method-wrapper" == Value.type "method-wrapper") = true := by decide
  simp only [PySem.W.kxs_mw, e1, if_true]
  refine PySem.W.KFB.if_so (by decide) ?_
  refine wpAny_bind (PySem.W.check_bound_init PySem.F.excBase_ValueError.toExcCallFacts (X _ _ hC) hx rfl ?_)
  refine wpAny_bind (wpAny_pure (wpAny_pure ?_))
  refine ⟨plainId_quiet PySem.F.excBase_ValueError.init.plain _, codeAny_builtin PySem.F.excBase_ValueError.initEntry ?_⟩
  refine PySem.W.exc_init_tree (cls := .ref C) (t0 := t1) (dv := none) (c2 := .none) (c3 := .none) (b4 := .bool false) hx hz fun h' k e _ => h h' _ k e
end

section
variable {P : Program} {w : World} {K : PySem.W.Frag} {mg : Str → Option Value} {base : Heap} {C cc cda f : Addr} {CX : CXT} {k : Nat} {N ps : List Str} {sp : Sp}
variable {name qual x0 : Str} {params : Arguments} {e : Expr} {es : List Expr} {rest : List Stmt} {scope : Scope} {dV kV doc pm ct oc : Value} {an od : Option Addr} {osl : Array (Option Value)} {p0 p1 p2 p3 p4 : Pos} {ar : Arg}
theorem look_one {k y : Str} {c c' : Addr} (h : [(k, c)].lookup y = some c') : y = k ∧ c' = c := by
  by_cases e : y = k
  · subst e
    simp [List.lookup] at h
    exact ⟨rfl, h.symm⟩
  · have z : (y == k) = false := by simpa using e
    simp [List.lookup, z] at h
/-- THE RULE: an error's __init__ that begins with super().__init__(..): the arguments, then the rest of the body -/
theorem sup_init (T : SupTxt P K mg C cc cda)
    (lk : K.lookup f = some ⟨oc, od, .func (PySem.W.fnX name qual params (.Expr (.Call (.Attribute (.Call (.Name "super" p0) [] [] p1) "__init__" p2) (e :: es) [] p3) p4 :: rest) scope [("__class__", cc)] dV kV doc pm an (.ref cda) ct), osl⟩)
    (hcd : PySem.W.codeIn K (.ref cda) qual = true) (S : NScope N ps ["__class__"] scope) (hps : (params.posonlyargs ++ params.args).head? = some ar) (hself : ps[0]? = some ar.arg)
    (hsu : scope.names.lookup ("super" : Str) = some .globalImplicit)
    (len : ∀ vs H Q E, sp vs H Q E → vs.length = ps.length)
    (he : ∀ env, starEach (e :: es) env = (false, eval e env) :: starEach es env) (hpl : ∀ pos env, (backTo pos (starEach es env)).any (·.1) = false)
    (hev : ∀ env, ∃ pl, eval (.Call (.Attribute (.Call (.Name "super" p0) [] [] p1) "__init__" p2) (e :: es) [] p3) env = (do
      let ov ← attributeBase (.Call (.Name "super" p0) [] [] p1) "__init__" env (eval (.Call (.Name "super" p0) [] [] p1) env)
      standAt p2.atName
      let (f, first) ← holding [ov] (getMethod ov "__init__" pl)
      callWith p3 f first (backTo p3 (starEach (e :: es) env)) []))
    (hbody : ∀ (X : Cx) (A : Around) (outer : List Env) (s : Shared) (H : Hp) (vs : List V) (Q : VK) (E : XK), X = ncx CX P w K mg base N ⟨name, qual, params, [], scope, [("__class__", cc)], cda⟩ f A outer s H E → Room k X.A → sp vs H Q E →
      ∃ a ta t, vs[0]? = some (.ref a) ∧ H a = some (exo a C none) ∧ PA X (e :: es) ta ∧ PSs X rest t ∧
        ta (startF N vs [none]) H fun ws H1 => ws.length ≤ 1000 ∧ H1 a = some (exo a C none) ∧ t { nx := fun _ H' => Q .non H', rt := Q } (startF N vs [none]) H1) :
    FnOk P w K mg base CX (k + 1) f (PySem.W.fnX name qual params (.Expr (.Call (.Attribute (.Call (.Name "super" p0) [] [] p1) "__init__" p2) (e :: es) [] p3) p4 :: rest) scope [("__class__", cc)] dV kV doc pm an (.ref cda) ct) ps sp := by
  refine ⟨len, fun A outer s H args us vs Q E hr e0 hb r hsp => ?_⟩
  have hl := len _ _ _ _ hsp
  have KX : K.In s.heap := e0.mod.kin.keeps fun b o q => (e0.bs b o q).1
  have lim : s.heap.NoLimit := e0.mod.nolimit.keeps fun b o q => (e0.bs b o q).1
  obtain ⟨a, ta, t, ha0, hex, hA, hR, hq⟩ := hbody _ A outer s H vs Q E rfl (hr.deeper _) hsp
  obtain ⟨cl, cld, csl, hcell⟩ := T.cell
  obtain ⟨ccl, cdd, fv, ccs, file, tf, hco, hvs, hfile⟩ := T.code
  have hkc : scope.names.lookup ("__class__" : Str) = some .free := S.frk _ (by simp)
  have hka : scope.names.lookup ar.arg = some .local := S.par _ (List.mem_of_getElem? hself)
  have hcs : CellsAt [("__class__", cc)] ["__class__"] [none] s.heap H := by
    refine ⟨rfl, fun y c z => ?_, fun x y c z1 z2 => ?_, fun i y z => ?_⟩
    · have hy : c = cc := (look_one z).2
      subst hy
      exact ⟨(e0.bs _ _ (e0.mod.kin _ _ hcell)).2, _, _, KX _ _ hcell, rfl⟩
    · exact (look_one z1).1.trans (look_one z2).1.symm
    · cases i with
      | zero =>
        cases z
        exact ⟨cc, rfl, fun v z => by cases z⟩
      | succ i => cases z
  obtain ⟨t1, hx⟩ := exo_at e0.hok hex
  have hu0 : us[0]? = some (.ref a) := by
    obtain ⟨u, q1, q2⟩ := r.get ha0
    cases q2
    exact q1
  have ndP : ps.Nodup := by
    have q := S.nd.sublist (List.take_sublist (ps.length + 1) N)
    rw [show N.take (ps.length + 1) = ps ++ [("__class__" : Str)] from S.pre] at q
    exact (List.nodup_append.mp q).1
  have hloc : ∀ y ∈ ps.zip us, scope.names.lookup y.1 = some .local := fun ⟨n, v⟩ hy => S.par n (List.of_mem_zip hy).1
  refine ks_codeAny_call_defAt (binds := ps.zip us) hr.depth (KX _ _ lk) rfl lim (PySem.W.codeRec_of KX hcd) rfl hb S.nocell hloc (fun h₁ hns hk₁ => ?_) S.co S.gen S.kind
  have I : Inv (ncx CX P w K mg base N ⟨name, qual, params, [], scope, [("__class__", cc)], cda⟩ f A outer s H E) [] (startF N vs [none]) H { s with heap := h₁, toks := s.toks + (ps.zip us).length } := inv_startN S hr.hd e0 hl r hcs hns hk₁
  have X1 : K.In h₁ := I.kIn
  obtain ⟨cd, hcd1⟩ : ∃ cd, PySem.W.clsIn K C = some cd := by
    cases z : PySem.W.clsIn K C with
    | none =>
      have q := T.sup
      unfold PySem.W.ks_superIn at q
      rw [z] at q
      cases q
    | some cd => exact ⟨cd, rfl⟩
  obtain ⟨oD, hD1, hD2⟩ : ∃ oD, h₁.get? C = some oD ∧ oD.data = .cls cd := by
    have q := hcd1
    unfold PySem.W.clsIn at q
    split at q
    · rename_i c d cd' sl ho
      cases q
      exact ⟨_, X1 _ _ ho, rfl⟩
    · cases q
  have hx1 := hk₁ _ _ hx
  have neC : a ≠ C := fun z => by
    rw [z] at hx1
    rw [hx1] at hD1
    cases hD1
    cases hD2
  obtain ⟨pl, hev⟩ := hev (ncx CX P w K mg base N ⟨name, qual, params, [], scope, [("__class__", cc)], cda⟩ f A outer s H E).env
  refine ks_wpAt_execs_cons (ks_wpAt_Expr_any (ks_wpAt_MethodCall (pl := pl) ?_ hev) I.quiet)
  refine ks_wpAt_super_base hsu hkc rfl rfl (X1 _ _ lk) rfl hps rfl (X1 _ _ hco) rfl hvs hfile T.top ?_
  obtain ⟨mb, hb1, hb2⟩ := I.mod.blt
  refine PySem.W.ks_loadName_global S.kind hsu (loadGlobal_builtin (I.mod.glob.keeps I.bk) T.mgs (hb1.keeps I.bk) ((hb2 _ (by decide)).trans (by decide +kernel)) ⟨rfl, ?_⟩)
  refine wpAny_loadName_free S.kind hkc rfl ⟨_, X1 _ _ hcell, rfl⟩ ?_
  refine wpAny_loadName_local S.kind hka hns (zip_look ndP hself hu0) ?_
  refine ks_wpAny_isType_cls hD1 hD2 ⟨rfl, ?_⟩
  refine ks_wpAny_call_super hD1 hD2 hx1 rfl (fun c z => by cases z) (PySem.W.looks_mroIn X1 T.mro) (fun h2 hso k2 => ?_)
  have I2 := I.kept (t' := s.toks + (ps.zip us).length) k2
  have X2 : K.In h2 := I2.kIn
  have hx2 := k2 _ _ hx1
  have hin2 : PySem.W.Looks (model P w) h2 (isInstance (.ref a) (.type "ValueError")) true :=
    (show PySem.W.InstAt h2 a _ C none from ⟨hx2, rfl, rfl, trivial⟩).type.andThen (PySem.W.looks_subIn X2 T.sub)
  refine PySem.W.kxs_getMethod PySem.W.kxs_ValueError hso (PySem.W.looks_opaque X2 T.third) (l₀ := cd.mro) (fun A Q E s k q => wpAny_bind ((PySem.W.looks_clsIn X2 hcd1) A _ E s k (wpAny_pure q))) rfl X2 (by
    have q := T.sup
    unfold PySem.W.ks_superIn at q
    rw [hcd1] at q
    exact q) hin2 neC rfl ?_
  have hu3 : (h2.push (PySem.W.kxs_mw "ValueError.__init__" a)).get? h2.objs.size = some (PySem.W.kxs_mw "ValueError.__init__" a) := Heap.get?_push_at rfl rfl
  have I3 := (I2.kept (h' := h2.push (PySem.W.kxs_mw "ValueError.__init__" a)) (t' := s.toks + (ps.zip us).length + 1) fun b o q => Heap.get?_push_of_some _ q).pins_of (pins' := [(h2.objs.size, PySem.W.kxs_mw "ValueError.__init__" a)]) (fun p hp => by
    rw [List.mem_singleton.mp hp]
    exact ⟨hu3, I2.hok.fresh (Nat.le_refl _), Nat.ne_of_gt I2.lt, I2.nofs (Nat.le_refl _), fun v z => by cases z⟩)
  have hrun := hA.run p3 _ _ _ H _ I3 hq
  change wpAny _ _ (callWith p3 (.ref h2.objs.size) [] (backTo p3 (starEach (e :: es) _)) []) _ _ _
  have hep := hpl p3 (ncx CX P w K mg base N ⟨name, qual, params, [], scope, [("__class__", cc)], cda⟩ f A outer s H E).env
  refine PySem.W.kxs_callWith (i := "ValueError.__init__") (x := a) (by
    rw [he]
    exact hep) ?_
  have hrun2 := hrun
  rw [he] at hrun2 ⊢
  refine evalArgs_plain (thn hrun2 fun us4 s4 hh => ?_)
  obtain ⟨ws, H4, I4, r4, hz, hx4, ht⟩ := hh
  have pin4 := (I4.pin (h2.objs.size, PySem.W.kxs_mw "ValueError.__init__" a) (List.mem_append_right _ List.mem_cons_self)).1
  refine ⟨pin4, ?_⟩
  obtain ⟨t4, ho4⟩ := exo_at I4.hok hx4
  refine call_mw T.ox I4.kIn pin4 ho4 (by
    change us4.length ≤ _
    rw [← Paired.length r4, sizeLine_eq]
    omega) fun h5 t5 k5 hx5 => ?_
  have J0 := I4.write (t' := s4.toks) (x := a) (e := a) (o := exo a C none) (by rw [hx4]; exact True.intro) (.inl rfl) k5 ⟨_, hx5⟩ (exo_ok hx5)
  rw [upd_self hx4] at J0
  refine wpAt_of_wpAny (wpAny_mono (hR.run _ _ _ _ _ J0 ht) (fun fl s' hs => ?_) fun e s' hs => hs)
  have fin : ∀ {pins : List (Addr × Obj)} {σ' : L2.St} {H' : Hp} {v : V} {u : Value}, Inv (ncx CX P w K mg base N ⟨name, qual, params, [], scope, [("__class__", cc)], cda⟩ f A outer s H E) pins σ' H' s' → RelV v u → Q v H' → CE outer P w H s Q u s' :=
    fun {_ σ' H' v u} J rv q => ⟨v, H', J.os, J.bare, J.base, J.hok, rv, q⟩
  cases fl with
  | ret u =>
    obtain ⟨v, σ', H', J, rv, q⟩ := hs
    exact fin J rv q
  | next =>
    obtain ⟨σ', H', J, q⟩ := hs
    exact fin (v := V.non) (u := Value.none) J rfl q
  | brk =>
    obtain ⟨_, _, _, q⟩ := hs
    exact False.elim q
  | cont =>
    obtain ⟨_, _, _, q⟩ := hs
    exact False.elim q
end

/-- __init__ of an error with one field -/
def spErr (C : Addr) (fl : Str) : Sp := fun vs H Q _ => ∃ (a : Addr) (v : V), vs = [.ref a, v] ∧ H a = some (exo a C none) ∧ ∀ d, H d = none → d ≠ a → Q .non (upd (upd H d (exd d [(fl, v)])) a (exo a C (some d)))
section
variable {P : Program} {w : World} {K : PySem.W.Frag} {mg : Str → Option Value} {base : Heap} {C cc cda f : Addr}
variable {qual fl : Str} {params : Arguments} {scope : Scope} {dV kV doc pm ct oc : Value} {an od : Option Addr} {osl : Array (Option Value)} {p0 p1 p2 p3 p4 q1 q2 q3 q4 q5 : Pos} {ar : Arg} {body : List Stmt}
theorem ok_err (T : SupTxt P K mg C cc cda) (hno : PySem.W.findIn K (.ref C) fl = some none)
    (lk : K.lookup f = some ⟨oc, od, .func (PySem.W.fnX "__init__" qual params body scope [("__class__", cc)] dV kV doc pm an (.ref cda) ct), osl⟩)
    (hb : body = [.Expr (.Call (.Attribute (.Call (.Name "super" p0) [] [] p1) "__init__" p2) [.Name fl q1] [] p3) p4, .Assign [.Attribute (.Name "self" q2) fl q3] (.Name fl q4) q5])
    (hcd : PySem.W.codeIn K (.ref cda) qual = true) (S : NScope ["self", fl, "__class__"] ["self", fl] ["__class__"] scope) (hps : (params.posonlyargs ++ params.args).head? = some ar) (hself : ar.arg = "self")
    (hsu : scope.names.lookup ("super" : Str) = some .globalImplicit) (hdb : (fl == ("__debug__" : Str)) = false) (hcn : (fl == ("__classdict__" : Str)) = false)
    (hev : ∀ env, ∃ pl, eval (.Call (.Attribute (.Call (.Name "super" p0) [] [] p1) "__init__" p2) [.Name fl q1] [] p3) env = (do
      let ov ← attributeBase (.Call (.Name "super" p0) [] [] p1) "__init__" env (eval (.Call (.Name "super" p0) [] [] p1) env)
      standAt p2.atName
      let (f, first) ← holding [ov] (getMethod ov "__init__" pl)
      callWith p3 f first (backTo p3 (starEach [.Name fl q1] env)) [])) :
    FnOk P w K mg base CX0 1 f (PySem.W.fnX "__init__" qual params body scope [("__class__", cc)] dV kV doc pm an (.ref cda) ct) ["self", fl] (spErr C fl) := by
  subst hb
  refine sup_init (N := ["self", fl, "__class__"]) T lk hcd S hps (by rw [hself]; rfl) hsu (fun vs H Q E h => ?_) (fun _ => rfl) (fun _ _ => rfl) hev (fun X A outer s H vs Q E hX hr h => ?_)
  · obtain ⟨a, v, rfl, _⟩ := h
    rfl
  · obtain ⟨a, v, rfl, ha, k⟩ := h
    subst hX
    have v1 : PE (ncx CX0 P w K mg base ["self", fl, "__class__"] ⟨"__init__", qual, params, [], scope, [("__class__", cc)], cda⟩ f A outer s H E) (.Name fl q1) (tVar 1) := pe_var (i := 1) rfl (.inl (S.par fl (by simp))) hdb hcn
    have v2 : PE (ncx CX0 P w K mg base ["self", fl, "__class__"] ⟨"__init__", qual, params, [], scope, [("__class__", cc)], cda⟩ f A outer s H E) (.Name fl q4) (tVar 1) := pe_var (i := 1) rfl (.inl (S.par fl (by simp))) hdb hcn
    have v0 : PE (ncx CX0 P w K mg base ["self", fl, "__class__"] ⟨"__init__", qual, params, [], scope, [("__class__", cc)], cda⟩ f A outer s H E) (.Name "self" q2) (tVar 0) := pe_var (i := 0) rfl (.inl (S.par "self" (by simp)))
    refine ⟨a, _, _, rfl, ha, pa_cons v1 pa_nil, pss_one (ps_ost v0 v2), ?_⟩
    refine ⟨_, rfl, (show 1 ≤ 1000 by decide), ha, ?_⟩
    refine ⟨_, rfl, _, rfl, a, C, rfl, T.ox, hno, .inl ⟨ha, fun d hd hne => k d hd hne⟩⟩
end

/-! ## defs that may raise, called; errors made -/
/-- a def that may be called by its name and may raise -/
structure CalX (P : Program) (w : World) (K : PySem.W.Frag) (mg : Str → Option Value) (base : Heap) (k : Nat) (x : Str) (sp : Sp) : Prop where
  ex : ∃ (f : Addr) (fd : FuncData) (ps : List Str), FnOk P w K mg base (L2.CX P w) k f fd ps sp ∧ mg x = some (.ref f) ∧ PySem.W.keepIn K (.ref f) = true ∧ Binds K fd ps []
/-- a class of errors with one field -/
structure Erm (P : Program) (w : World) (K : PySem.W.Frag) (mg : Str → Option Value) (base : Heap) (k : Nat) (x : Str) (C : Addr) (fl : Str) : Prop where
  ex : ∃ (f : Addr) (fd : FuncData) (ps : List Str), OexC K C ∧ PySem.W.findIn K (.ref C) "__init__" = some (some (.ref f)) ∧ PySem.W.typeIn K (.ref f) = some (.type "function") ∧ FnOk P w K mg base CX0 k f fd ps (spErr C fl) ∧ Binds K fd ps [] ∧ mg x = some (.ref C)
/-- X(e): an error of the class C whose dict holds the one field -/
def tErr (C : Addr) (fl : Str) (ta : TA) : L2.St → Hp → XK → Prop := fun σ H Q => ta σ H fun vs H1 => ∃ v, vs = [v] ∧ ∀ d, H1 d = none → Q (.ref C) (some d) (upd H1 d (.xd [(fl, v)]))
section
variable {X : Cx} {W : WX} {k j : Nat} {C : Addr} {x fl : Str} {sp : Sp} {p pos : Pos} {e : Expr} {es : List Expr} {ta : TA} {t : TA}
theorem pe_cx (c : CalX X.prog X.w X.K X.mg X.base k x sp) (hr : Room j X.A) (hk : k ≤ j) (hg : Gl X x) (tk : Takes X W) (ha : PA X (e :: es) t)
    (hdb : (x == ("__debug__" : Str)) = false := by decide) (he : starEach (e :: es) X.env = (false, eval e X.env) :: starEach es X.env := by rfl) (hpl : (backTo pos (starEach es X.env)).any (·.1) = false := by rfl) :
    PE X (.Call (.Name x p) (e :: es) [] pos) (tCallS sp (WE W) t) := by
  obtain ⟨f, fd, ps, F, hm, kp, b⟩ := c.ex
  exact pe_callS F (hr.mono hk) hg hm kp b (fun σ => passAt tk σ) ha hdb he hpl
theorem err_end {H : Hp} {a d : Addr} {fl : Str} {v : V} (ha : H a = none) (hd : H d = none) (hne : d ≠ a) : upd (del (upd (upd (upd H a (exo a C none)) d (exd d [(fl, v)])) a (exo a C (some d))) a) d (.xd [(fl, v)]) = upd H d (.xd [(fl, v)]) := by
  funext b
  by_cases h1 : b = d
  · subst h1
    rw [upd_same, upd_same]
  · rw [upd_ne h1, upd_ne h1]
    by_cases h2 : b = a
    · subst h2
      rw [del_same, ha]
    · rw [del_ne h2, upd_ne h2, upd_ne h1, upd_ne h2]
theorem pmk_e (c : Erm X.prog X.w X.K X.mg X.base k x C fl) (hr : Room j X.A) (hk : k + 1 ≤ j) (hg : Gl X x) (ha : PA X (e :: es) ta)
    (hdb : (x == ("__debug__" : Str)) = false := by decide) (he : starEach (e :: es) X.env = (false, eval e X.env) :: starEach es X.env := by rfl) (hpl : (backTo pos (starEach es X.env)).any (·.1) = false := by rfl) :
    PMk X (.Call (.Name x p) (e :: es) [] pos) (tErr C fl ta) := by
  obtain ⟨f, fd, ps, T, iC, tI, F, b, hm⟩ := c.ex
  intro pins s σ H Q I h
  have ha' : PA X (e :: es) (fun σ H Q' => ∃ Q, ta σ H Q ∧ ∀ vs H1, Q vs H1 → Q' vs H1) := ⟨fun pos pins s σ H Q' I ⟨Q, h, m⟩ => thn (ha.run pos pins s σ H Q I h) fun us s' ⟨vs, H1, J, r, q⟩ => ⟨vs, H1, J, r, m _ _ q⟩⟩
  refine pmk_oex T iC tI F (hr.mono hk) b .nil pass0 hg hm ha' hdb he hpl pins s σ H Q I ⟨_, h, fun vs H1 z => ?_⟩
  obtain ⟨v, rfl, q⟩ := z
  refine ⟨(show 1 ≤ 1000 by decide), fun a ha => ⟨a, v, rfl, upd_same, fun d hd hne => ⟨rfl, d, [(fl, v)], upd_same, ?_, ?_, ?_⟩⟩⟩
  · rw [upd_ne hne, upd_same]
  · rw [upd_ne hne] at hd
    exact hd
  · rw [upd_ne hne] at hd
    rw [err_end ha hd hne]
    exact q d hd
end
/-- what the written part says of a class of errors, for its catching -/
structure ErrT (K : PySem.W.Frag) (mg : Str → Option Value) (x : Str) (C : Addr) (fl : Str) : Prop where
  gC : mg x = some (.ref C)
  te : PySem.W.exmOne K (.ref C) (.ref C) = some true
  xf : XfC K C
  no : PySem.W.findIn K (.ref C) fl = some none
/-! ## constants of the module: data that stands in the written part -/
def mapO (f : Value → Option PyData) : List Value → Option (List PyData)
  | [] => some []
  | u :: r => (f u).bind fun d => (mapO f r).map (d :: ·)
def datK (K : PySem.W.Frag) : Nat → Value → Option PyData
  | 0, _ => none
  | n + 1, v => match v with
    | .none => some .none
    | .bool b => some (.bool b)
    | .int i _ => some (.int i)
    | .str x _ => some (.str x)
    | .ref a => match K.lookup a with
      | some o => match o.data with
        | .seq its _ => if its.size ≤ 1000 then (if o.cls = .type "tuple" then (mapO (datK K n) its.toList).map .tuple else if o.cls = .type "list" ∧ o.dict = none then (mapO (datK K n) its.toList).map .list else none) else none
        | _ => none
      | none => none
    | _ => none
def constK (K : PySem.W.Frag) (x : Str) : Option PyData := match PySem.W.nsIn K mainGlobals x with
  | some (some u) => datK K 6 u
  | _ => none
theorem mapO_ok {K : PySem.W.Frag} {f : Value → Option PyData} (hf : ∀ u d, f u = some d → ∃ v, RelV v u ∧ ∀ H, Dp K H v d) : ∀ (us : List Value) (ds : List PyData), mapO f us = some ds → ∃ vs, Vals vs us ∧ ∀ H, DpAll K H vs ds
  | [], ds, e => by
    cases e
    exact ⟨[], .nil, fun _ => .nil⟩
  | u :: r, ds, e => by
    unfold mapO at e
    cases h1 : f u with
    | none => rw [h1] at e; cases e
    | some d =>
      rw [h1, Option.bind_some] at e
      cases h2 : mapO f r with
      | none => rw [h2] at e; cases e
      | some es =>
        rw [h2] at e
        cases e
        obtain ⟨v, r1, q1⟩ := hf u d h1
        obtain ⟨vs, r2, q2⟩ := mapO_ok hf r es h2
        exact ⟨v :: vs, .cons r1 r2, fun H => .cons (q1 H) (q2 H)⟩
theorem datK_ok {K : PySem.W.Frag} : ∀ (n : Nat) (u : Value) (d : PyData), datK K n u = some d → ∃ v, RelV v u ∧ ∀ H, Dp K H v d
  | 0, _, _, e => by cases e
  | n + 1, u, d, e => by
    unfold datK at e
    cases u with
    | none => cases e; exact ⟨.non, rfl, fun _ => .non⟩
    | bool b => cases e; exact ⟨.bl b, rfl, fun _ => .bl b⟩
    | int i t => cases e; exact ⟨.int i, ⟨t, rfl⟩, fun _ => .int i⟩
    | str x t => cases e; exact ⟨.str x, ⟨t, rfl⟩, fun _ => .str x⟩
    | ref a =>
      dsimp only at e
      cases hl : K.lookup a with
      | none => rw [hl] at e; cases e
      | some o =>
        rw [hl] at e
        dsimp only at e
        split at e
        · rename_i its m hd
          split at e
          · rename_i hz
            have hz' : its.size ≤ sizeLine := Nat.le_trans hz (by rw [sizeLine_eq]; decide)
            split at e
            · rename_i hc
              cases h2 : mapO (datK K n) its.toList with
              | none => rw [h2] at e; cases e
              | some ds =>
                rw [h2] at e
                cases e
                obtain ⟨vs, r, q⟩ := mapO_ok (datK_ok n) _ _ h2
                exact ⟨.ref a, rfl, fun H => .tup (.inr ⟨o, its, m, hl, hc, hd, hz', r⟩) (q H)⟩
            · split at e
              · rename_i hc
                cases h2 : mapO (datK K n) its.toList with
                | none => rw [h2] at e; cases e
                | some ds =>
                  rw [h2] at e
                  cases e
                  obtain ⟨vs, r, q⟩ := mapO_ok (datK_ok n) _ _ h2
                  exact ⟨.ref a, rfl, fun H => .lst (.inr ⟨o, its, m, hl, hc.1, hc.2, hd, hz', r⟩) (q H)⟩
              · cases e
          · cases e
        · cases e
    | _ => cases e
theorem const_of {K : PySem.W.Frag} {h : Heap} {mg : Str → Option Value} {x : Str} {d : PyData} (X : K.In h) (G : h.Ns mainGlobals mg) (e : constK K x = some d) : ∃ v : V, (∃ u, mg x = some u ∧ RelV v u) ∧ ∀ H : Hp, Dp K H v d := by
  unfold constK at e
  split at e
  · rename_i u hu
    obtain ⟨v, r, q⟩ := datK_ok _ _ _ e
    exact ⟨v, ⟨u, PySem.W.mg_of X G hu, r⟩, q⟩
  · cases e
/-! ## x in, x not in a tuple of data -/
def rInT (K : PySem.W.Frag) : R2 := fun x y H Q => ∃ d ds, Dp K H x d ∧ Dp K H y (.tuple ds) ∧ SeqAt.shaped d = true ∧ SeqAt.shaped (.tuple ds) = true ∧ Q (.bl (ds.any fun z => PyData.eqv z d)) H
def rNotInT (K : PySem.W.Frag) : R2 := fun x y H Q => ∃ d ds, Dp K H x d ∧ Dp K H y (.tuple ds) ∧ SeqAt.shaped d = true ∧ SeqAt.shaped (.tuple ds) = true ∧ Q (.bl (!ds.any fun z => PyData.eqv z d)) H
section
variable {X : Cx}
theorem op_inT (hu : X.A.units + 65 < cLine) : OpR X (compareOp .In) (rInT X.K) := by
  intro pins s σ H x y v u Q I rx ry ⟨d, ds, hd, he, sd, se, q⟩
  obtain ⟨as, r1⟩ := Dp.reads I d x v hd rx
  obtain ⟨bs, r2⟩ := Dp.reads I (.tuple ds) y u he ry
  exact SeqAt.in_tuple_reads r2 r1 (SeqAt.canLay_of_shaped se) (SeqAt.canLay_of_shaped sd) (room_in_shaped sd hu) ⟨.bl _, H, I, rfl, q⟩
theorem op_notInT (hu : X.A.units + 65 < cLine) : OpR X (compareOp .NotIn) (rNotInT X.K) := by
  intro pins s σ H x y v u Q I rx ry ⟨d, ds, hd, he, sd, se, q⟩
  obtain ⟨as, r1⟩ := Dp.reads I d x v hd rx
  obtain ⟨bs, r2⟩ := Dp.reads I (.tuple ds) y u he ry
  exact SeqAt.notIn_tuple_reads r2 r1 (SeqAt.canLay_of_shaped se) (SeqAt.canLay_of_shaped sd) (room_in_shaped sd hu) ⟨.bl _, H, I, rfl, q⟩
end
theorem slA_new {K : PySem.W.Frag} {H : Hp} {a : Addr} {xs : List V} {lo hi : Option Int} {Q : VK} (h : SqT K H a xs) (k : ∀ (b : Addr) (H' : Hp), Same H H' → SqT K H' b (cutV xs lo hi) → Q (.ref b) H') : rSlA K (.ref a) lo hi H Q := by
  refine ⟨a, xs, rfl, h, fun e => k a H (Same.refl _) ?_, fun _ p n => k p _ (same_new n) (SqT.of upd_same)⟩
  have q : cutV xs lo hi = xs := by
    unfold cutV
    rw [e.1, e.2]
    simp
  rw [q]
  exact h
theorem cut_tail {v : V} {vs : List V} : cutV (v :: vs) (some 1) none = vs := (cut_from (xs := v :: vs) (i := 1) (by simp)).trans rfl
/-- an «if» whose test is known -/
theorem ifT {A B : Prop} {b : Bool} (e : b = true) (h : A) : (if b = true then A else B) := by
  rw [if_pos e]
  exact h
theorem ifF {A B : Prop} {b : Bool} (e : b = false) (h : B) : (if b = true then A else B) := by
  rw [if_neg (by rw [e]; decide)]
  exact h
theorem ne_int {i j : Int} (h : i ≠ j) : (!decide (V.int i = V.int j)) = true := by
  simp [h]
theorem ne_int0 {i j : Int} (h : i = j) : (!decide (V.int i = V.int j)) = false := by
  simp [h]
end G

/-! ## sets of ints; isinstance of a caught error that has a dict (my own) -/
namespace G
open PySem PySem.Spec PySem.Calls PyProof.Rows L2
/-- set(t), t a tuple of ints -/
def rSetT (K : PySem.W.Frag) (w : World) : List V → Hp → VK → Prop := fun xs H Q => ∃ (p : Addr) (ns : List Int), xs = [.ref p] ∧ SqT K H p (ns.map V.int) ∧ ns.length ≤ 1000 ∧
  ∀ (n : Nat) (q : Addr), n ≤ ns.length → H q = none → Q (.ref q) (upd H q (SetO w q (fun j => decide (j ∈ ns)) n))
section
variable {X : Cx}
theorem cr_setT (hc : X.calm = true) : CallR X (.type "set") (rSetT X.K X.w) := by
  intro pins s σ H xs us Q I r h
  obtain ⟨p, ns, rfl, hq, hl, q⟩ := h
  cases r with
  | cons rx rr =>
    cases rr
    cases rx
    obtain ⟨its, rv, pt, _⟩ := I.tuple hq
    refine call_set_tupI ns (I.ok.hd hc) (show s.heap.IsTuple p its.toArray from pt) (ints_of_vals rv) (by unfold scanBound; omega) fun h' tk c R hcn k => ?_
    exact ⟨.ref _, upd H s.heap.objs.size (SetO X.w s.heap.objs.size (fun j => decide (j ∈ ns)) c), I.laid (t' := tk) k (Nat.le_refl _) (setO_new R), rfl, q c _ hcn (I.hok.fresh (Nat.le_refl _))⟩
end
section
open PySem.W
variable {prog : Program} {w : World} {A : Around} {E : Value → Shared → Prop} {s : Shared} {K : Frag} {x D : Addr} {ox : Obj} {od : Option Obj}
theorem cls_found (c : ExcC K D) : findObj K D od "__class__" = some (.bind (.builtin "getset_descriptor.__get__") (.builtin "object.__class__")) := by
  obtain ⟨cd, h, _⟩ := any_some c.hd
  simp [findObj, h, c.ha, c.hn, c.ht]
/-- x.__class__, x an error with or without a dict -/
theorem err_cls {Q : Option Value → Shared → Prop} (c : ExcC K D) (X : K.In s.heap) (I : PySem.W.InstAt s.heap x ox D od) (q : Q (some (.ref D)) { s with toks := s.toks + 1 }) : wpAny (model prog w) A (getAttr? (.ref x) "__class__") Q E s := by
  rcases s with ⟨hp, gs, dr, tk, os⟩
  have ty := I.type (M := model prog w)
  have own := looks_find (M := model prog w) X I (cls_found c)
  have isB : Looks (model prog w) hp (isInstance (.ref x) (.type "BaseException")) true := ty.andThen (looks_subIn X c.hs)
  have off : (onTheHeap (.ref D) && Value.builtin "BaseException.__getattribute__" == Value.builtin "object.__getattribute__") = false := by
    rw [show (Value.builtin "BaseException.__getattribute__" == Value.builtin "object.__getattribute__") = false by decide +kernel, Bool.and_false]
  unfold getAttr? getAttrBy? getAttrBy
  refine wpAny_bind (wpAny_mkText (wpAny_bind (wpAny_attempt (wpAny_holding (wpAny_bind (ty.at (wpAny_bind ((looks_findIn X c.hg).at ?_))))))))
  refine PySem.W.KFB.if_not off ?_
  unfold getAttrByItsOwn hookBefore
  refine wpAny_bind (PySem.W.KFB.if_so rfl ((looks_findIn X c.hk).at (wpAny_bind (wpAny_attempt (wpAny_holding ?_)))))
  unfold callGetattribute boundAndCalled
  refine PySem.W.KFB.if_not rfl ?_
  rw [F.excAttr_ValueError.ga.bind (.ref x)]
  refine wpAny_bind (wpAny_pure (wpAny_call (codeAny_call_builtin F.excAttr_ValueError.ga.plain F.entry_bexc_ga (@check_slot (model prog w) _ _ ⟨hp, gs, dr, tk + 1, os⟩ "BaseException.__getattribute__" "BaseException" "__getattribute__" (.ref x) [.str "__class__" tk] [] _ (by decide +kernel) (by decide +kernel) isB (F.args_bexc_ga (.ref x) (.str "__class__" tk)) ?_))))
  unfold Builtin.«object.__getattribute__»
  refine wpAny_bind (wpAny_of_eq (a := (Value.ref x, [Value.str "__class__" tk])) (by simp only [slotArgs]; rfl) (wpAny_bind (wpAny_pure (wpAny_bind (ty.at (wpAny_bind (own.at ?_)))))))
  refine wpAny_bind (wpAny_holding (wpAny_call (class_get (s := ⟨hp, gs, dr, tk + 1, os⟩) X I c.hm (wpAny_pure ?_))))
  dsimp only
  rw [handedOut_of (v := Value.ref D) rfl]
  exact wpAny_pure (wpAny_pure q)
/-- isinstance asks the instances of such a class -/
theorem kitx_err (c : ExcC K D) : KitX K (.ref x) (.ref D) (fun h => PySem.W.InstAt h x ox D od) :=
  have z := handS_kitx_exc (x := x) (ox := ox) c.hg c.hk c.hs c.hd c.ha c.hn c.ht c.hm
  { ty := fun _ _ _ I => I.type, it := fun M h X _ => by
      obtain ⟨cd, e, _⟩ := any_some c.hd
      exact (fun A Q E s k q => by
        unfold isType loadHead
        unfold clsIn at e
        split at e
        · rename_i o
          exact wpAny_bind (wpAny_loadPart (k _ _ (X _ _ o)) (wpAny_pure q))
        · cases e)
    ne := z.ne, ca := fun X I q => err_cls c X I q }
end
/-- isinstance(e, c), e the error that the suite holds, with its dict -/
def rIsD (K : PySem.W.Frag) (cls : Value) (d : Option Addr) (a : Addr) : List V → Hp → VK → Prop := fun xs H Q => ∃ (D : Addr) (c : V) (cv : Value) (b : Bool) (dd : Addr) (fs : List (Str × V)), cls = .ref D ∧ d = some dd ∧ H dd = some (.xd fs) ∧ ExcC K D ∧
  xs = [.ref a, c] ∧ (∀ u, RelV c u → u = cv) ∧ PySem.W.kitOne K (.ref D) cv = some b ∧ Q (.bl b) H
/-- error.f in the suite, the error's class known there -/
def tXg (K : PySem.W.Frag) (a : Addr) (cls : Value) (d : Option Addr) (f : Str) (i : Nat) : TE := fun σ H Q => ∃ x, σ[i]? = some (some x) ∧ x = .ref a ∧ ∃ (C dd : Addr) (fs : List (Str × V)) (v : V), cls = .ref C ∧ XfC K C ∧ PySem.W.findIn K (.ref C) f = some none ∧ d = some dd ∧ H dd = some (.xd fs) ∧ fs.lookup f = some v ∧ Q v H
section
variable {X : Cx} {a : Addr} {oe : Obj} {cls : Value} {d : Option Addr} {pn : List (Addr × Obj)}
theorem call_isD (hz : Zc cls d oe) (hf : ∃ vs, oe.data = .fields vs) : CallR (X.suite a ((a, oe) :: pn)) (.builtin "isinstance") (rIsD X.K cls d a) := by
  intro pins s σ H xs us Q I r h
  obtain ⟨D, c, cv, b, dd, fs, rfl, rfl, hx, C, rfl, hcv, e, q⟩ := h
  cases r with
  | cons rx rr =>
    cases rx
    cases rr with
    | cons rt rr =>
      cases rr
      have ec := hcv _ rt
      subst ec
      obtain ⟨vs, hd⟩ := hf
      obtain ⟨mA, hns, _⟩ : ObjOk X.prog X.w H s.heap dd (.xd fs) := I.hok dd _ hx
      obtain ⟨od, ho, _⟩ := lookIn_ns hns
      have J : PySem.W.InstAt s.heap a oe D (some od) := ⟨(I.pin (a, oe) (List.mem_append_left _ List.mem_cons_self)).1, hz.1, by simp [PySem.W.notCls, hd], by rw [hz.2]; exact ho⟩
      exact PySem.W.kia_one (kitx_err C) I.kIn J e (fun z => nomatch z) fun tk => ⟨.bl b, H, I.kept (t' := tk) fun _ _ z => z, rfl, q⟩
theorem pe_xg {e : Expr} {pos : Pos} {n : Str} {i : Nat} (hz : Zc cls d oe) (hf : ∃ vs, oe.data = .fields vs) (he : PE (X.suite a ((a, oe) :: pn)) e (tVar i)) (hb : attributeBase e n X.env (eval e X.env) = eval e X.env := by rfl) :
    PE (X.suite a ((a, oe) :: pn)) (.Attribute e n pos) (tXg X.K a cls d n i) :=
  ⟨fun pins s σ H Q I ⟨x, hx, ex, C, dd, fs, v, ec, T, hno, ed, hdd, l, q⟩ => (pe_xf T hno hz hf he hb).run pins s σ H Q I ⟨x, hx, ex, ec, dd, fs, v, ed, hdd, l, q⟩⟩
end
/-! ### errors that leave, new tuples and lists, heaps without some lists -/
/-- an error with this word leaves -/
def RaiseF (C : Addr) (x : Str) (H : Hp) (E : XK) : Prop := ∀ (H' : Hp) (d : Addr), Same H H' → H' d = some (.xd [("what", .str x)]) → E (.ref C) (some d) H'
theorem RaiseF.here {C : Addr} {x : Str} {H H' : Hp} {E : XK} {d : Addr} (r : RaiseF C x H E) (s : Same H H') (n : H' d = none) : E (.ref C) (some d) (upd H' d (.xd [("what", .str x)])) := r _ d (s.trans (same_new n)) upd_same
theorem RaiseF.later {C : Addr} {x : Str} {H H' : Hp} {E : XK} (s : Same H H') (r : RaiseF C x H E) : RaiseF C x H' E := fun H2 d s2 e => r H2 d (s.trans s2) e
theorem size_lt {m : Nat} (h : m < 100000) : m < sizeLine := Nat.lt_of_lt_of_le h (by decide)
theorem none_of_same {H H' : Hp} {p : Addr} (s : Same H H') (n : H' p = none) : H p = none := by
  cases e : H p with
  | none => rfl
  | some o =>
    rw [s _ _ e] at n
    cases n
theorem del1_same {H H' : Hp} {a : Addr} (s : Same H H') : Same (del1 H a) (del1 H' a) := fun b o e => by
  by_cases z : b = a
  · rw [z, del1_at] at e
    cases e
  · rw [del1_ne z] at e ⊢
    exact s b o e
theorem del1_sub {H : Hp} {a : Addr} : Same (del1 H a) H := fun b o e => by
  by_cases z : b = a
  · rw [z, del1_at] at e
    cases e
  · rwa [del1_ne z] at e
theorem del1_but {H H' : Hp} {a : Addr} (k : But a H H') : Same (del1 H a) (del1 H' a) := fun b o e => by
  by_cases z : b = a
  · rw [z, del1_at] at e
    cases e
  · rw [del1_ne z] at e ⊢
    exact k b o z e
theorem del2_step {H H' : Hp} {a c : Addr} (k : ∀ b o, b ≠ a → b ≠ c → H b = some o → H' b = some o) : Same (del1 (del1 H a) c) (del1 (del1 H' a) c) := fun b o e => by
  by_cases z : b = c
  · rw [z, del1_at] at e
    cases e
  · by_cases y : b = a
    · rw [del1_ne z, y, del1_at] at e
      cases e
    · rw [del1_ne z, del1_ne y] at e ⊢
      exact k b o y z e
theorem Deck.ne {H : Hp} {a D : Addr} (h : Deck H a) (hD : H D = none) : D ≠ a := fun e => by
  obtain ⟨ds, _, q⟩ := h
  rw [← e, hD] at q
  cases q
theorem but_mut {dk p : Addr} {H H' : Hp} {o : HO} (b : But dk H H') (n : H p = none) : But dk H (upd H' p o) := fun c u nc e => by
  rw [upd_ne (fun z => by rw [z, n] at e; cases e)]
  exact b c u nc e
theorem none_of_but {dk p : Addr} {H H' : Hp} (hk : Deck H' dk) (b : But dk H H') (n : H' p = none) : H p = none := by
  have ne := Deck.ne hk n
  cases e : H p with
  | none => rfl
  | some o =>
    rw [b _ _ ne e] at n
    cases n
section
variable {K : PySem.W.Frag}
theorem tupD {H : Hp} {p : Addr} {xs : List V} {ds : List PyData} (h : DpAll K H xs ds) (n : H p = none) : Same H (upd H p (.tup xs)) ∧ Dp K (upd H p (.tup xs)) (.ref p) (.tuple ds) :=
  ⟨same_new n, .tup (SqT.of upd_same) (dps_same (same_new n) h)⟩
theorem lstD {H : Hp} {p : Addr} {xs : List V} {ds : List PyData} (h : DpAll K H xs ds) (n : H p = none) : Same H (upd H p (.lst xs)) ∧ Dp K (upd H p (.lst xs)) (.ref p) (.list ds) :=
  ⟨same_new n, .lst (SqL.of upd_same) (dps_same (same_new n) h)⟩
theorem catD {H : Hp} {v u : V} {ds es : List PyData} {Q : VK} (h1 : Dp K H v (.tuple ds)) (h2 : Dp K H u (.tuple es)) (hl : ds.length + es.length ≤ 100000) (k : ∀ (z : V) (H' : Hp), Same H H' → Dp K H' z (.tuple (ds ++ es)) → Q z H') : rCatA K v u H Q := by
  obtain ⟨a, xs, rfl, ha, hxs⟩ := dp_tup h1
  obtain ⟨b, ys, rfl, hb, hys⟩ := dp_tup h2
  have l1 := dps_len hxs
  have l2 := dps_len hys
  refine ⟨a, b, xs, ys, rfl, rfl, ha, hb, size_of (by omega), fun e => ?_, fun _ e => ?_, fun _ _ p hp => ?_⟩
  · subst e
    cases hxs
    exact k _ _ (Same.refl _) h2
  · subst e
    cases hys
    rw [List.append_nil] at k
    exact k _ _ (Same.refl _) h1
  · exact k _ _ (same_new hp) (.tup (SqT.of upd_same) (dps_app (dps_same (same_new hp) hxs) (dps_same (same_new hp) hys)))
/-- a new list of two lists -/
theorem catL {H : Hp} {l b : Addr} {xs zs : List V} {ds es : List PyData} {Q : VK} (h1 : H l = some (.lst xs)) (h2 : H b = some (.lst zs)) (d1 : DpAll K H xs ds) (d2 : DpAll K H zs es) (hl : ds.length + es.length ≤ 100000)
    (k : ∀ p, H p = none → DpAll K (upd H p (.lst (xs ++ zs))) (xs ++ zs) (ds ++ es) → Q (.ref p) (upd H p (.lst (xs ++ zs)))) : rCat (.ref l) (.ref b) H Q :=
  ⟨l, b, xs, zs, rfl, rfl, h1, h2, by rw [dps_len d1, dps_len d2]; exact size_of hl, fun p n => k p n (dps_same (same_new n) (dps_app d1 d2))⟩
theorem dps5 {H : Hp} {xs : List V} {d0 d1 d2 d3 d4 : PyData} (h : DpAll K H xs [d0, d1, d2, d3, d4]) : ∃ v0 v1 v2 v3 v4, xs = [v0, v1, v2, v3, v4] ∧ Dp K H v0 d0 ∧ Dp K H v1 d1 ∧ Dp K H v2 d2 ∧ Dp K H v3 d3 ∧ Dp K H v4 d4 := by
  cases h with
  | cons a h => cases h with
    | cons b h => cases h with
      | cons c h => cases h with
        | cons d h => cases h with
          | cons e h => cases h; exact ⟨_, _, _, _, _, rfl, a, b, c, d, e⟩
end
theorem paired_imp {α β : Type} {F F' : α → β → Prop} (h : ∀ a b, F a b → F' a b) : ∀ {l₁ : List α} {l₂ : List β}, Paired F l₁ l₂ → Paired F' l₁ l₂
  | _, _, .nil => .nil
  | _, _, .cons k t => .cons (h _ _ k) (paired_imp h t)
theorem paired_eq {α : Type} : ∀ {l₁ l₂ : List α}, Paired (fun u y => u = y) l₁ l₂ → l₁ = l₂
  | _, _, .nil => rfl
  | _, _, .cons k t => by rw [k, paired_eq t]
/-! ### all but lists stands -/
def KeepT (H H' : Hp) : Prop := ∀ b u, H b = some u → (∀ xs, u ≠ .lst xs) → H' b = some u
theorem KeepT.of_same {H H' : Hp} (s : Same H H') : KeepT H H' := fun b u e _ => s b u e
theorem KeepT.of_but {H H' : Hp} {a : Addr} (hk : Deck H a) (s : But a H H') : KeepT H H' := fun b u e n => s b u (fun q => by
  obtain ⟨ds, _, h⟩ := hk
  rw [q, h] at e
  exact n _ (Option.some.inj e).symm) e
theorem KeepT.trans {H H1 H2 : Hp} (s : KeepT H H1) (t : KeepT H1 H2) : KeepT H H2 := fun b u e n => t b u (s b u e n) n
theorem KeepT.upd {H H' : Hp} {a : Addr} {xs ys : List V} (s : KeepT H H') (h : H' a = some (.lst xs)) : KeepT H (upd H' a (.lst ys)) := fun b u e n => by
  have q := s b u e n
  have ne : b ≠ a := fun z => by
    rw [z, h] at q
    exact n _ (Option.some.inj q).symm
  rw [upd_ne ne]
  exact q
theorem SqT.keep {K : PySem.W.Frag} {H H' : Hp} {a : Addr} {xs : List V} (s : KeepT H H') (h : SqT K H a xs) : SqT K H' a xs := by
  rcases h with (h | ⟨o, h⟩) | h
  · exact .inl (.inl (s _ _ h (fun _ z => by cases z)))
  · exact .inl (.inr ⟨o, s _ _ h (fun _ z => by cases z)⟩)
  · exact .inr h
mutual
def noL : PyData → Bool
  | .list _ => false
  | .tuple ds => noLs ds
  | _ => true
def noLs : List PyData → Bool
  | [] => true
  | d :: r => noL d && noLs r
end
mutual
theorem dp_keep {K : PySem.W.Frag} {H H' : Hp} (e : KeepT H H') : ∀ {v : V} {d : PyData}, noL d = true → Dp K H v d → Dp K H' v d
  | _, _, _, .non => .non
  | _, _, _, .bl b => .bl b
  | _, _, _, .int i => .int i
  | _, _, _, .str x => .str x
  | _, _, n, .lst _ _ => by simp [noL] at n
  | _, _, n, .tup h a => .tup (SqT.keep e h) (dps_keep e (by simpa [noL] using n) a)
theorem dps_keep {K : PySem.W.Frag} {H H' : Hp} (e : KeepT H H') : ∀ {v : List V} {d : List PyData}, noLs d = true → DpAll K H v d → DpAll K H' v d
  | _, _, _, .nil => .nil
  | _, _, n, .cons h t => .cons (dp_keep e (by simp only [noLs, Bool.and_eq_true] at n; exact n.1) h) (dps_keep e (by simp only [noLs, Bool.and_eq_true] at n; exact n.2) t)
end
theorem noLs_all {ds : List PyData} (h : ∀ d ∈ ds, noL d = true) : noLs ds = true := by
  induction ds with
  | nil => rfl
  | cons d r ih =>
    unfold noLs
    rw [h d List.mem_cons_self, ih fun x hx => h x (List.mem_cons_of_mem _ hx)]
    rfl
theorem noLs_map {α : Type} {f : α → PyData} {l : List α} (h : ∀ x ∈ l, noL (f x) = true) : noLs (l.map f) = true := noLs_all fun d hd => by
  obtain ⟨x, hx, rfl⟩ := List.mem_map.mp hd
  exact h x hx
theorem KeepT.mut {H H' : Hp} {a : Addr} {xs ys : List V} (h : H' a = some (.lst xs)) : KeepT H' (L2.upd H' a (.lst ys)) := KeepT.upd (KeepT.of_same (Same.refl _)) h
/-- a walk by enumerate -/
theorem for_enum {K : PySem.W.Frag} {a : Addr} {xs : List V} {g : TG} {tb : TS} {D : Ends} {σ : L2.St} {H : Hp} (Pv : Nat → L2.St → Hp → Prop) (p0 : Pv 0 σ H) (seen : ∀ i σ H, i ≤ xs.length → Pv i σ H → SqL K H a xs)
    (step : ∀ i x σ H T, xs[i]? = some x → Pv i σ H → H T = none → g (.ref T) σ (L2.upd H T (.tup [.int (i : Nat), x])) fun σ2 H2 => tb { D with nx := Pv (i + 1), ct := Pv (i + 1), bk := D.nx } σ2 H2) (done : ∀ σ H, Pv xs.length σ H → D.nx σ H) :
    ∃ W : Nat → Nat → L2.St → Hp → Prop, (∃ m, W 0 m σ H) ∧ ∀ i m σ H, W i m σ H →
      ((Ite K a).stop i H ∧ D.nx σ H) ∨ ((Ite K a).go i H ∧ ∃ N : L2.St → Hp → Prop, (∀ σ' H', N σ' H' → ∃ m', m' < m ∧ W (i + 1) m' σ' H') ∧ ∀ x H', (Ite K a).yld i H x H' → g x σ H' fun σ2 H2 => tb { D with nx := N, ct := N, bk := D.nx } σ2 H2) := by
  refine ⟨fun i m σ H => i + m = xs.length ∧ Pv i σ H, ⟨xs.length, Nat.zero_add _, p0⟩, fun i m σ H h => ?_⟩
  have q := seen i σ H (by omega) h.2
  cases m with
  | zero =>
    have e : i = xs.length := h.1
    subst e
    exact .inl ⟨⟨xs, q, Nat.le_refl _⟩, done σ H h.2⟩
  | succ m =>
    have z : i < xs.length := by omega
    refine .inr ⟨⟨xs, xs[i], q, List.getElem?_eq_getElem z⟩, Pv (i + 1), fun σ' H' p' => ⟨m, Nat.lt_succ_self m, by omega, p'⟩, ?_⟩
    rintro v H' ⟨T, x, rfl, nT, rfl, hx⟩
    exact step i x σ H T (hx xs q) h.2 nT
theorem kit_self {K : PySem.W.Frag} {t : Value} : PySem.W.kitOne K t t = some true := by
  unfold PySem.W.kitOne
  rw [if_pos (beq_self_eq_true t)]
theorem kit_not {K : PySem.W.Frag} {C D : Addr} (hd : PySem.W.hasDictIn K D = true) (ht : PySem.W.typeIn K (.ref D) = some (.type "type")) (hs : PySem.W.subIn K (.ref C) (.ref C) = some true) (h : PySem.W.subIn K (.ref C) (.ref D) = some false) : PySem.W.kitOne K (.ref C) (.ref D) = some false := by
  have ne : C ≠ D := fun z => by
    rw [z] at hs h
    rw [hs] at h
    cases h
  obtain ⟨cd, hc, _⟩ := PySem.W.any_some hd
  unfold PySem.W.kitOne
  rw [if_neg (by simpa using ne)]
  unfold PySem.W.kitCls
  simp [hc, ht, h]
end G



namespace Q41
open PySem L2 G
open C8 (Cal Met Mak pe_c pe_mk pe_mt pe_mt0 pe_gc pss_cut tCut)
def top (i : Nat) : Stmt := PySem.Challenge.pw_gatework_k41_whole_clauses.main.body.getD i (.Pass ⟨0, 0, 0, 0⟩)
abbrev s__law_deck : Stmt := top 19
theorem sc__law_deck : FnScope ["script", "cells", "each", "deck", "seed", "k", "cell", "rest", "at"] ["script", "cells", "each"] (defScope s__law_deck) := ⟨rfl, rfl, rfl, by decide +kernel, rfl, by decide +kernel, by decide +kernel⟩
abbrev s__law_take : Stmt := top 20
theorem sc__law_take : FnScope ["deck", "many"] ["deck", "many"] (defScope s__law_take) := ⟨rfl, rfl, rfl, by decide +kernel, rfl, by decide +kernel, by decide +kernel⟩
abbrev s__law_plain : Stmt := top 21
theorem sc__law_plain : FnScope ["value", "item"] ["value"] (defScope s__law_plain) := ⟨rfl, rfl, rfl, by decide +kernel, rfl, by decide +kernel, by decide +kernel⟩
abbrev s_check_sizes : Stmt := top 5
theorem sc_check_sizes : FnScope ["first", "second"] ["first", "second"] (defScope s_check_sizes) := ⟨rfl, rfl, rfl, by decide +kernel, rfl, by decide +kernel, by decide +kernel⟩
abbrev s_put_in_order : Stmt := top 7
theorem sc_put_in_order : FnScope ["clause"] ["clause"] (defScope s_put_in_order) := ⟨rfl, rfl, rfl, by decide +kernel, rfl, by decide +kernel, by decide +kernel⟩
abbrev s_wires_of : Stmt := top 8
theorem sc_wires_of : FnScope ["net"] ["net"] (defScope s_wires_of) := ⟨rfl, rfl, rfl, by decide +kernel, rfl, by decide +kernel, by decide +kernel⟩
abbrev s_first_names : Stmt := top 9
theorem sc_first_names : FnScope ["net"] ["net"] (defScope s_first_names) := ⟨rfl, rfl, rfl, by decide +kernel, rfl, by decide +kernel, by decide +kernel⟩
abbrev s_second_names : Stmt := top 10
theorem sc_second_names : FnScope ["first", "second", "shared", "rest", "many", "at"] ["first", "second"] (defScope s_second_names) := ⟨rfl, rfl, rfl, by decide +kernel, rfl, by decide +kernel, by decide +kernel⟩
abbrev s_last_name : Stmt := top 11
theorem sc_last_name : FnScope ["first", "second"] ["first", "second"] (defScope s_last_name) := ⟨rfl, rfl, rfl, by decide +kernel, rfl, by decide +kernel, by decide +kernel⟩
abbrev s_xor_clauses : Stmt := top 12
theorem sc_xor_clauses : FnScope ["z", "x", "y"] ["z", "x", "y"] (defScope s_xor_clauses) := ⟨rfl, rfl, rfl, by decide +kernel, rfl, by decide +kernel, by decide +kernel⟩
abbrev s_gate_clauses : Stmt := top 13
theorem sc_gate_clauses : FnScope ["gate", "z", "names", "kind", "x", "y", "other"] ["gate", "z", "names"] (defScope s_gate_clauses) := ⟨rfl, rfl, rfl, by decide +kernel, rfl, by decide +kernel, by decide +kernel⟩
abbrev s_pair_clauses : Stmt := top 14
theorem sc_pair_clauses : FnScope ["pair", "first", "one", "two", "p", "q"] ["pair", "first", "one", "two"] (defScope s_pair_clauses) := ⟨rfl, rfl, rfl, by decide +kernel, rfl, by decide +kernel, by decide +kernel⟩
abbrev s_check_pairs : Stmt := top 15
theorem sc_check_pairs : FnScope ["first", "second", "pairs", "p", "q", "turned"] ["first", "second", "pairs"] (defScope s_check_pairs) := ⟨rfl, rfl, rfl, by decide +kernel, rfl, by decide +kernel, by decide +kernel⟩
abbrev s_goal_wires : Stmt := top 16
theorem sc_goal_wires : FnScope ["first", "second", "pairs", "goal", "word", "k", "bound", "p", "q", "turned"] ["first", "second", "pairs", "goal"] (defScope s_goal_wires) := ⟨rfl, rfl, rfl, by decide +kernel, rfl, by decide +kernel, by decide +kernel⟩
abbrev s_given_clauses : Stmt := top 17
theorem sc_given_clauses : FnScope ["first", "second", "pairs", "goal", "x", "y", "turned", "one", "two", "found", "pair", "net", "names", "begin", "at", "gate", "z", "clause"] ["first", "second", "pairs", "goal"] (defScope s_given_clauses) := ⟨rfl, rfl, rfl, by decide +kernel, rfl, by decide +kernel, by decide +kernel⟩
abbrev s__law_spoil : Stmt := top 22
theorem sc__law_spoil : FnScope ["value", "item"] ["value"] (defScope s__law_spoil) := ⟨rfl, rfl, rfl, by decide +kernel, rfl, by decide +kernel, by decide +kernel⟩
abbrev s__law_net : Stmt := top 23
theorem sc__law_net : FnScope ["deck", "inputs", "flops", "gates", "outputs", "many", "made", "turn", "kind", "size", "near", "total", "ends", "at"] ["deck", "inputs", "flops", "gates", "outputs"] (defScope s__law_net) := ⟨rfl, rfl, rfl, by decide +kernel, rfl, by decide +kernel, by decide +kernel⟩
abbrev s__law_wires : Stmt := top 24
theorem sc__law_wires : FnScope ["net", "inputs", "states", "values", "gate", "kind", "near", "wire"] ["net", "inputs", "states"] (defScope s__law_wires) := ⟨rfl, rfl, rfl, by decide +kernel, rfl, by decide +kernel, by decide +kernel⟩
abbrev s__law_tuples : Stmt := top 25
theorem sc__law_tuples : FnScope ["many", "found", "turn", "longer", "row"] ["many"] (defScope s__law_tuples) := ⟨rfl, rfl, rfl, by decide +kernel, rfl, by decide +kernel, by decide +kernel⟩
abbrev s__law_clause : Stmt := top 26
theorem sc__law_clause : FnScope ["numbers"] ["numbers"] (defScope s__law_clause) := ⟨rfl, rfl, rfl, by decide +kernel, rfl, by decide +kernel, by decide +kernel⟩
abbrev s__law_given : Stmt := top 27
theorem sc__law_given : FnScope ["first", "second", "pairs", "goal", "one", "shared", "more", "two", "z", "found", "p", "q", "turned", "left", "right", "net", "names", "at", "gate", "w", "near", "s", "x", "y", "clause", "wire"] ["first", "second", "pairs", "goal"] (defScope s__law_given) := ⟨rfl, rfl, rfl, by decide +kernel, rfl, by decide +kernel, by decide +kernel⟩
abbrev s__law_why : Stmt := top 28
theorem sc__law_why : FnScope ["first", "second", "pairs", "goal", "error"] ["first", "second", "pairs", "goal"] (defScope s__law_why) := ⟨rfl, rfl, rfl, by decide +kernel, rfl, by decide +kernel, by decide +kernel⟩
abbrev s_law : Stmt := top 29
theorem sc_law : FnScope ["script", "deck", "inputs", "outputs", "first", "second", "pairs", "p", "q", "goals", "goal", "due", "told", "clauses", "bits", "one", "two", "left", "right", "turned", "x", "y", "values", "good", "clause", "wide", "short", "answers", "k", "one_of"] ["script"] (defScope s_law) := ⟨rfl, rfl, rfl, by decide +kernel, rfl, by decide +kernel, by decide +kernel⟩
abbrev s_InvalidNet___init__ : Stmt := inClass (top 2) 0
abbrev s_InvalidProof___init__ : Stmt := inClass (top 3) 0
theorem boot_abs' : bootBuiltins "abs" = some (.builtin "abs") := by decide +kernel
theorem boot_bool' : bootBuiltins "bool" = some (.type "bool") := by decide +kernel
theorem boot_enumerate' : bootBuiltins "enumerate" = some (.type "enumerate") := by decide +kernel
theorem boot_int' : bootBuiltins "int" = some (.type "int") := by decide +kernel
theorem boot_isinstance' : bootBuiltins "isinstance" = some (.builtin "isinstance") := by decide +kernel
theorem boot_len' : bootBuiltins "len" = some (.builtin "len") := by decide +kernel
theorem boot_list' : bootBuiltins "list" = some (.type "list") := by decide +kernel
theorem boot_max' : bootBuiltins "max" = some (.builtin "max") := by decide +kernel
theorem boot_range' : bootBuiltins "range" = some (.type "range") := by decide +kernel
theorem boot_set' : bootBuiltins "set" = some (.type "set") := by decide +kernel
theorem boot_sorted' : bootBuiltins "sorted" = some (.builtin "sorted") := by decide +kernel
theorem boot_str' : bootBuiltins "str" = some (.type "str") := by decide +kernel
theorem boot_tuple' : bootBuiltins "tuple" = some (.type "tuple") := by decide +kernel
/-- what the top has left: the built-in names are the built-in ones -/
structure Txt (K : PySem.W.Frag) (mg : Str → Option Value) : Prop where
  b_abs : mg "abs" = none
  b_bool : mg "bool" = none
  b_enumerate : mg "enumerate" = none
  b_int : mg "int" = none
  b_isinstance : mg "isinstance" = none
  b_len : mg "len" = none
  b_list : mg "list" = none
  b_max : mg "max" = none
  b_range : mg "range" = none
  b_set : mg "set" = none
  b_sorted : mg "sorted" = none
  b_str : mg "str" = none
  b_tuple : mg "tuple" = none
theorem small1000' {n : Nat} (h : n < 100000) : n < sizeLine := Nat.lt_of_lt_of_le h (by decide)
theorem hu65_of {A : Around} {k : Nat} (hr : Room k A) : A.units + 65 < cLine := Nat.lt_of_le_of_lt (by omega) hr.un

section
variable {P : Program} {w : World} {K : PySem.W.Frag} {mg : Str → Option Value} {base : Heap}

/-! ### _law_take: some number below -/
def spTake : Sp := fun vs H Q _ => ∃ (a : Addr) (m : Int), vs = [.ref a, .int m] ∧ 0 < m ∧ Deck H a ∧ ∀ (r : Int) (H' : Hp), 0 ≤ r → r < m → But a H H' → Deck H' a → Q (.int r) H'
theorem ok_take {f : Addr} {fd : FuncData} (F : Fun K "_law_take" "_law_take" s__law_take f fd) (T : Txt K mg) : FnOk P w K mg base CX0 1 f fd ["deck", "many"] spTake := by
  refine F.ok sc__law_take (fun vs H Q E h => ?_) (fun cdv A outer s H vs Q E hr h => ?_)
  · obtain ⟨a, m, rfl, _⟩ := h
    rfl
  · obtain ⟨a, m, rfl, hm, ⟨ds, hl, hd⟩, k⟩ := h
    refine ⟨_, (pss_cons (ps_if (pt_cmpR op_eq (pe_callB call_len_seq (by rfl) T.b_len boot_len' (pa_cons (pv 0) pa_nil)) pe_int (nomark _)) (pss_one (ps_ret pe_int)) pss_nil)
      (pss_one (ps_ret (pe_op op_mod (pe_callTy call_int1 (by rfl) T.b_int boot_int' (pa_cons (pe_bm0 PySem.F.plainAttrs_list PySem.F.slot_list_pop PySem.F.type_list_pop mt_pop (pv 0)) pa_nil)) (pv 1))))), ?_⟩
    refine ⟨_, rfl, a, _, rfl, .inl (SqL.of hd), rfl, _, rfl, ?_⟩
    rw [List.length_map]
    refine ite2 (fun hc => ?_) (fun hc => ?_)
    · exact k 0 H (by decide) hm (But.refl _ _) ⟨ds, hl, hd⟩
    · have hne : ds ≠ [] := fun e => hc (by rw [e]; rfl)
      have hp : 0 < ds.length := List.length_pos_iff.mpr hne
      refine ⟨_, rfl, .inl ⟨rfl, _, SqL.of hd⟩, a, _, .int (ds.getLast hne), rfl, rfl, hd, ?_, .inl ⟨_, rfl, _, rfl, _, _, rfl, rfl, hm, ?_⟩⟩
      · rw [List.length_map, List.getElem?_map, List.getLast_eq_getElem, List.getElem?_eq_getElem (by omega)]
        rfl
      · refine k _ _ (Int.emod_nonneg _ (by omega)) (Int.emod_lt_of_pos _ hm) but_upd ⟨ds.dropLast, by rw [List.length_dropLast]; omega, ?_⟩
        rw [upd_same, List.map_dropLast]

/-! ### _law_deck: some ints -/
def spDeck (K : PySem.W.Frag) : Sp := fun vs H Q _ => ∃ (a : Addr) (ns : List Int) (c e : Nat), vs = [.ref a, .int c, .int e] ∧ SqL K H a (ns.map V.int) ∧ ns.length ≤ 1000 ∧ c * e ≤ 2000 ∧ c ≤ 1000 ∧ e ≤ 1000 ∧ ∀ (p : Addr) (H' : Hp), H p = none → Same H H' → Deck H' p → Q (.ref p) H'
theorem ok_deck {f : Addr} {fd : FuncData} (F : Fun K "_law_deck" "_law_deck" s__law_deck f fd) (T : Txt K mg) : FnOk P w K mg base CX0 1 f fd ["script", "cells", "each"] (spDeck K) := by
  refine F.ok sc__law_deck (fun vs H Q E h => ?_) (fun cdv A outer s H vs Q E hr h => ?_)
  · obtain ⟨a, ns, c, e, rfl, _⟩ := h
    rfl
  · obtain ⟨a, ns, c, e, rfl, hS, hn, hce, hc, he, k⟩ := h
    refine ⟨_, (pss_cons (ps_set (i := 3) sc__law_deck.nd rfl (Or.inl rfl) (pe_lst pa_nil))
      (pss_cons (ps_set (i := 4) sc__law_deck.nd rfl (Or.inl rfl) (pe_op op_add pe_int (pe_callB call_len_seq (by rfl) T.b_len boot_len' (pa_cons (pv 0) pa_nil))))
      (pss_cons (ps_for PassesOwn.never rfl (pi_range1 (by rfl) T.b_range (pa_cons (pv 1) pa_nil)) (pg_name (i := 5) sc__law_deck.nd rfl (Or.inl rfl)) (pss_cons (ps_set (i := 6) sc__law_deck.nd rfl (Or.inl rfl) pe_int)
      (pss_cut (ps_if (pt_cmpR op_lt (pv 5) (pe_callB call_len_seq (by rfl) T.b_len boot_len' (pa_cons (pv 0) pa_nil)) (nomark _)) (pss_one (ps_set (i := 6) sc__law_deck.nd rfl (Or.inl rfl) (pe_ix ix_list (pv 0) (pv 5) (fun _ _ => rfl)))) pss_nil)
      (pss_cons (ps_set (i := 7) sc__law_deck.nd rfl (Or.inl rfl) (pe_callB call_abs (by rfl) T.b_abs boot_abs' (pa_cons (pv 6) pa_nil)))
      (pss_one (ps_if (pt_cmpR op_ge (pv 7) (pe_op op_pow pe_int pe_int) (nomark _)) (pss_one (ps_for PassesOwn.never rfl (pi_range1 (by rfl) T.b_range (pa_cons (pv 2) pa_nil)) (pg_name (i := 8) sc__law_deck.nd rfl (Or.inl rfl)) (pss_cons (ps_expr (pe_bm PySem.F.plainAttrs_list PySem.F.slot_list_append PySem.F.type_list_append mt_append (pv 3) (pa_cons (pe_op op_mod (pe_callTy call_int1 (by rfl) T.b_int boot_int' (pa_cons (pv 7) pa_nil)) pe_int) pa_nil)))
      (pss_one (ps_set (i := 7) sc__law_deck.nd rfl (Or.inl rfl) (pe_op op_fdiv (pv 7) pe_int)))))) (pss_cons (ps_set (i := 4) sc__law_deck.nd rfl (Or.inl rfl) (pe_op op_mod (pe_callTy call_int1 (by rfl) T.b_int boot_int' (pa_cons (pe_op op_add (pe_op op_add (pe_op op_add (pe_op op_mul (pv 4) pe_int) (pe_op op_mul pe_int (pv 7))) (pe_callTy call_int1 (by rfl) T.b_int boot_int' (pa_cons (pe_cmpR op_lt (pv 6) pe_int (nomark _)) pa_nil))) (pv 5)) pa_nil)) pe_int))
      (pss_one (ps_for PassesOwn.never rfl (pi_range1 (by rfl) T.b_range (pa_cons (pv 2) pa_nil)) (pg_name (i := 8) sc__law_deck.nd rfl (Or.inl rfl)) (pss_cons (ps_set (i := 4) sc__law_deck.nd rfl (Or.inl rfl) (pe_op op_mod (pe_callTy call_int1 (by rfl) T.b_int boot_int' (pa_cons (pe_op op_add (pe_op op_add (pe_op op_mul (pv 4) pe_int) (pv 8)) pe_int) pa_nil)) pe_int))
      (pss_one (ps_expr (pe_bm PySem.F.plainAttrs_list PySem.F.slot_list_append PySem.F.type_list_append mt_append (pv 3) (pa_cons (pe_op op_mod (pe_callTy call_int1 (by rfl) T.b_int boot_int' (pa_cons (pe_op op_fdiv (pv 4) pe_int) pa_nil)) pe_int) pa_nil))))))))))))))
      (pss_cons (ps_expr (pe_bm0 PySem.F.plainAttrs_list PySem.F.slot_list_reverse PySem.F.type_list_reverse mt_reverse (pv 3)))
      (pss_one (ps_ret (pv 3))))))), ?_⟩
    refine ⟨Nat.zero_le _, fun p hp => ?_⟩
    have hap : a ≠ p → True := fun _ => trivial
    refine ⟨_, rfl, a, _, rfl, .inl ((same_new hp).seq hS), _, _, rfl, rfl, ?_⟩
    rw [List.length_map]
    refine ⟨_, rfl, _, rfl, by omega, by omega, for_range (lo := 0) (n := (c : Int).toNat) (fun i σ H' => ∃ (ds : List Int) (sd : Int) (o1 o2 o3 o4 : Option V),
      σ = [some (.ref a), some (.int c), some (.int e), some (.ref p), some (.int sd), o1, o2, o3, o4] ∧ Same H H' ∧ H' p = some (.lst (ds.map V.int)) ∧ ds.length ≤ i * e ∧ 0 ≤ sd ∧ sd < 2147483647)
      ⟨[], _, none, none, none, none, rfl, same_new hp, upd_same, Nat.zero_le _, by omega, by omega⟩ ?_ ?_⟩
    · rintro i σ H1 hi ⟨ds, sd, o1, o2, o3, o4, rfl, e1, h1, hl, s0, s1⟩
      have hie : (i + 1) * e ≤ 2000 := Nat.le_trans (Nat.mul_le_mul_right e (by omega)) hce
      have hie2 : (i + 1) * e = i * e + e := Nat.succ_mul i e
      -- cell = 0 ; if k < len(script): cell = script[k]
      refine ⟨fun σ' H' => ∃ cl : Int, σ' = [some (.ref a), some (.int c), some (.int e), some (.ref p), some (.int sd), some (.int (0 + (i : Int))), some (.int cl), o3, o4] ∧ H' = H1, ?_, ?_⟩
      · refine ⟨_, rfl, _, rfl, a, _, rfl, .inl (e1.seq hS), _, _, rfl, rfl, _, rfl, ?_⟩
        rw [List.length_map]
        refine ite2 (fun hk => ?_) (fun hk => ⟨0, rfl, rfl⟩)
        have hk' : i < ns.length := by
          have := of_decide_eq_true hk
          omega
        refine ⟨_, rfl, _, rfl, a, _, _, .int ns[i], rfl, rfl, e1.seq hS, ?_, ⟨_, rfl, rfl⟩⟩
        rw [Int.zero_add]
        refine atI_nat ?_
        rw [List.getElem?_map, List.getElem?_eq_getElem hk']
        rfl
      · rintro σ' H' ⟨cl, rfl, rfl⟩
        -- rest = abs(cell)
        refine ⟨_, rfl, _, rfl, ?_⟩
        -- if rest >= 10 ** 30
        refine ⟨_, rfl, _, _, rfl, rfl, ⟨by decide, by decide, by decide⟩, _, _, rfl, rfl, _, rfl, ?_⟩
        have hrest : 0 ≤ (if cl < 0 then -cl else cl) := by split <;> omega
        generalize (if cl < 0 then -cl else cl) = rest at hrest
        refine ite2 (fun hb => ?_) (fun hb => ?_)
        · refine ⟨_, rfl, _, rfl, by omega, by omega, for_range (lo := 0) (n := (e : Int).toNat) (fun j σ H2 => ∃ (es : List Int) (rs : Int) (o : Option V),
            σ = [some (.ref a), some (.int c), some (.int e), some (.ref p), some (.int sd), some (.int (0 + (i : Int))), some (.int cl), some (.int rs), o] ∧ Same H H2 ∧ H2 p = some (.lst (es.map V.int)) ∧ es.length ≤ i * e + j)
            ⟨ds, rest, o4, rfl, e1, h1, hl⟩ ?_ ?_⟩
          · rintro j σ H2 hj ⟨es, rs, o, rfl, e2, h2, hl2⟩
            refine ⟨_, rfl, .inl ⟨rfl, _, SqL.of h2⟩, _, rfl, .inl ⟨_, rfl, _, _, rfl, rfl, (by decide : (0 : Int) < 1000003), ?_⟩⟩
            refine ⟨_, _, _, rfl, rfl, h2, small1000' (by rw [List.length_map]; omega), ?_⟩
            refine ⟨_, rfl, _, _, rfl, rfl, ⟨by decide, by decide⟩, ?_⟩
            refine ⟨es ++ [_], _, _, rfl, same_mut e2 hp, by rw [upd_same, List.map_append]; rfl, by rw [List.length_append, List.length_singleton]; omega⟩
          · rintro σ H2 ⟨es, rs, o, rfl, e2, h2, hl2⟩
            exact ⟨es, sd, _, _, _, _, rfl, e2, h2, by omega, s0, s1⟩
        · have hb2 : rest < 10 ^ 30 := by
            have := hb
            simp only [decide_eq_true_eq] at this
            have h3 : ((10 : Int) ^ (30 : Int).toNat) = 10 ^ 30 := by decide
            omega
          refine ⟨_, rfl, _, _, rfl, rfl, .inl ⟨by omega, by omega⟩, _, rfl, _, _, rfl, rfl, .inl ⟨by decide, by decide⟩, _, _, rfl, rfl, ?_⟩
          refine ⟨_, rfl, _, _, rfl, rfl, .inr ⟨_, rfl, _, _, rfl, rfl, _, rfl, _, _, rfl, rfl, .inl ⟨_, rfl, _, _, rfl, rfl, (by decide : (0 : Int) < 2147483647), ?_⟩⟩⟩
          refine ⟨_, rfl, _, rfl, by omega, by omega, for_range (lo := 0) (n := (e : Int).toNat) (fun j σ H2 => ∃ (es : List Int) (se : Int) (o : Option V),
            σ = [some (.ref a), some (.int c), some (.int e), some (.ref p), some (.int se), some (.int (0 + (i : Int))), some (.int cl), some (.int rest), o] ∧ Same H H2 ∧ H2 p = some (.lst (es.map V.int)) ∧ es.length ≤ i * e + j ∧ 0 ≤ se ∧ se < 2147483647)
            ⟨ds, _, o4, rfl, e1, h1, hl, Int.emod_nonneg _ (by decide), Int.emod_lt_of_pos _ (by decide)⟩ ?_ ?_⟩
          · rintro j σ H2 hj ⟨es, se, o, rfl, e2, h2, hl2, u0, u1⟩
            refine ⟨_, rfl, _, _, rfl, rfl, .inl ⟨by omega, by omega⟩, _, rfl, _, _, rfl, rfl, _, _, rfl, rfl, .inl ⟨_, rfl, _, _, rfl, rfl, (by decide : (0 : Int) < 2147483629), ?_⟩⟩
            have v1 := Int.emod_lt_of_pos (se * 69621 + (0 + (j : Int)) + 1) (by decide : (0 : Int) < 2147483629)
            refine ⟨_, rfl, .inl ⟨rfl, _, SqL.of h2⟩, _, rfl, _, _, rfl, rfl, ⟨by decide, by decide⟩, .inl ⟨_, rfl, _, _, rfl, rfl, (by decide : (0 : Int) < 1000003), ?_⟩⟩
            refine ⟨_, _, _, rfl, rfl, h2, small1000' (by rw [List.length_map]; omega), ?_⟩
            exact ⟨es ++ [_], _, _, rfl, same_mut e2 hp, by rw [upd_same, List.map_append]; rfl, by rw [List.length_append, List.length_singleton]; omega, Int.emod_nonneg _ (by decide), Int.lt_trans v1 (by decide)⟩
          · rintro σ H2 ⟨es, se, o, rfl, e2, h2, hl2, u0, u1⟩
            exact ⟨es, se, _, _, _, _, rfl, e2, h2, by omega, u0, u1⟩
    · rintro σ H1 ⟨ds, sd, o1, o2, o3, o4, rfl, e1, h1, hl, s0, s1⟩
      refine ⟨_, rfl, .inl ⟨rfl, _, SqL.of h1⟩, p, _, rfl, rfl, h1, ?_⟩
      refine ⟨_, rfl, k p _ hp (same_mut e1 hp) ⟨ds.reverse, by rw [List.length_reverse]; have : (c : Int).toNat * e = c * e := rfl; omega, by rw [upd_same, List.map_reverse]⟩⟩

/-! ### _law_plain -/
mutual
def plain : PyData → PyData
  | .tuple ds => .list (.bool false :: plains ds)
  | .list ds => .list (.bool true :: plains ds)
  | .none => .str "None"
  | .bool b => .str (if b then "True" else "False")
  | .int i => .list [.bool false, .int i]
  | .str z => .list [.bool true, .str z]
  | .dict _ => .str "another"
def plains : List PyData → List PyData
  | [] => []
  | d :: r => plain d :: plains r
end
theorem plains_map : ∀ ds : List PyData, plains ds = ds.map plain
  | [] => rfl
  | d :: r => by rw [plains, plains_map r, List.map_cons]
mutual
/-- how deep, with no dict in it and no list too long -/
def tall : PyData → Nat → Prop
  | .tuple ds, n + 1 => ds.length ≤ 10000 ∧ talls ds n
  | .list ds, n + 1 => ds.length ≤ 10000 ∧ talls ds n
  | .tuple _, 0 => False
  | .list _, 0 => False
  | .dict _, _ => False
  | _, _ => True
def talls : List PyData → Nat → Prop
  | [], _ => True
  | d :: r, n => tall d n ∧ talls r n
end
theorem talls_get : ∀ {ds : List PyData} {n i : Nat} {d : PyData}, talls ds n → ds[i]? = some d → tall d n
  | [], _, i, d, _, e => by simp at e
  | _ :: _, _, 0, d, h, e => by
    simp at e
    subst e
    exact h.1
  | _ :: r, n, i + 1, d, h, e => talls_get (ds := r) h.2 (by simpa using e)
theorem talls_mem {ds : List PyData} {n : Nat} {d : PyData} (h : talls ds n) (hm : d ∈ ds) : tall d n := by
  obtain ⟨i, hi⟩ := List.mem_iff_getElem?.mp hm
  exact talls_get h hi
def spPlain (K : PySem.W.Frag) : Nat → Sp
  | 0 => fun _ _ _ _ => False
  | n + 1 => fun vs H Q _ => ∃ (v : V) (d : PyData), vs = [v] ∧ Dp K H v d ∧ tall d n ∧ ∀ (u : V) (H' : Hp), Same H H' → Dp K H' u (plain d) → Q u H'
theorem spPlain_mono {K : PySem.W.Frag} {n : Nat} {vs : List V} {H : Hp} {E : XK} (Q1 Q2 : VK) (q : ∀ v G', Q1 v G' → Q2 v G') (h : spPlain K n vs H Q1 E) : spPlain K n vs H Q2 E := by
  cases n with
  | zero => exact h
  | succ n =>
    obtain ⟨v, d, e, h1, h2, k⟩ := h
    exact ⟨v, d, e, h1, h2, fun u H' s p => q u H' (k u H' s p)⟩
theorem plain_step {K : PySem.W.Frag} {n : Nat} {G : Hp} {D : Addr} {acc : List V} {v : V} {d : PyData} {Q : VK} {E : XK} (hD : G D = none) (hd : Dp K G v d) (ht : tall d n)
    (h : ∀ (u : V) (G' : Hp), Same G G' → G' D = none → Dp K G' u (plain d) → Q u (upd G' D (.lst acc))) : fr (spPlain K (n + 1)) [v] (upd G D (.lst acc)) Q E :=
  fr_one hD ⟨v, d, rfl, hd, ht, fun u G' s p hn => h u G' s hn p⟩ fun Q1 Q2 q z => spPlain_mono Q1 Q2 q z
theorem ok_plain {f : Addr} {fd : FuncData} (F : Fun K "_law_plain" "_law_plain" s__law_plain f fd) (T : Txt K mg) (hm : mg "_law_plain" = some (.ref f)) (b : Binds K fd ["value"] []) : ∀ n : Nat, FnOk P w K mg base CX0 n f fd ["value"] (spPlain K n) := by
  intro n
  induction n with
  | zero => exact ⟨fun _ _ _ _ h => h.elim, fun _ _ _ _ _ _ _ _ _ _ _ _ _ h => h.elim⟩
  | succ n ih =>
    have c__law_plain : Cal P w K mg base n "_law_plain" (fr (spPlain K n)) [] := ⟨f, fd, _, _, fn_fr ih, hm, F.kp, b, .nil⟩
    refine F.ok sc__law_plain (fun vs H Q E h => ?_) (fun cdv A outer s H vs Q E hr h => ?_)
    · obtain ⟨v, d, rfl, _⟩ := h
      rfl
    · obtain ⟨v, d, rfl, hd, ht, k⟩ := h
      cases d with
      | tuple ds =>
        cases n with
        | zero => exact ht.elim
        | succ n =>
          obtain ⟨hl, ht⟩ := ht
          obtain ⟨a, xs, rfl, hx, hxs⟩ := dp_tup hd
          refine ⟨_, (pss_cons (ps_if (pt_val (pe_callB call_isiT (by rfl) T.b_isinstance boot_isinstance' (pa_cons (pv 0) (pa_cons (pe_tup (pa_cons (pe_bltn (v := .ty "tuple") (by rfl) T.b_tuple boot_tuple' rfl) (pa_cons (pe_bltn (v := .ty "list") (by rfl) T.b_list boot_list' rfl) pa_nil))) pa_nil)))) (pss_one (ps_ret (pe_op op_cat (pe_lst (pa_cons (pe_callB call_isi (by rfl) T.b_isinstance boot_isinstance' (pa_cons (pv 0) (pa_cons (pe_bltn (v := .ty "list") (by rfl) T.b_list boot_list' rfl) pa_nil))) pa_nil)) (pe_lc (own := [("item", 1)]) rfl sc__law_plain.nd (pi_tup (pv 0)) (blkOk_by (own := [("item", 1)]) (N := ["value", "item"]) (sc := defScope s__law_plain) (by decide +kernel)) (fun _ _ _ _ _ => (pg_name (i := 1) sc__law_plain.nd rfl (Or.inl rfl))) (fun _ _ _ _ _ => pts_nil) (fun _ _ _ _ _ => (pe_c c__law_plain hr (by omega) rfl (pa_cons (pv 1) pa_nil))))))) pss_nil)
      (pss_cons (ps_if (PW.pt (pw_or (pt_cmpR op_isN (pv 0) pe_non (nomark _)) (pw_or1 (pt_val (pe_callB call_isi (by rfl) T.b_isinstance boot_isinstance' (pa_cons (pv 0) (pa_cons (pe_bltn (v := .ty "bool") (by rfl) T.b_bool boot_bool' rfl) pa_nil))))))) (pss_one (ps_ret (pe_ix ix_list (pe_lst (pa_cons pe_str (pa_cons pe_str (pa_cons pe_str pa_nil)))) (pe_op op_add (pe_callTy call_int1 (by rfl) T.b_int boot_int' (pa_cons (pe_cmpR op_notN (pv 0) pe_non (nomark _)) pa_nil)) (pe_callTy call_int1 (by rfl) T.b_int boot_int' (pa_cons (pe_cmpR op_isX (pv 0) pe_bl (nomark _)) pa_nil))) (fun _ _ => rfl)))) pss_nil)
      (pss_cons (ps_if (pt_val (pe_callB call_isiT (by rfl) T.b_isinstance boot_isinstance' (pa_cons (pv 0) (pa_cons (pe_tup (pa_cons (pe_bltn (v := .ty "int") (by rfl) T.b_int boot_int' rfl) (pa_cons (pe_bltn (v := .ty "str") (by rfl) T.b_str boot_str' rfl) pa_nil))) pa_nil)))) (pss_one (ps_ret (pe_lst (pa_cons (pe_callB call_isi (by rfl) T.b_isinstance boot_isinstance' (pa_cons (pv 0) (pa_cons (pe_bltn (v := .ty "str") (by rfl) T.b_str boot_str' rfl) pa_nil))) (pa_cons (pv 0) pa_nil))))) pss_nil)
      (pss_one (ps_ret pe_str))))), ?_⟩
          refine ⟨_, rfl, by decide, fun p1 n1 => ?_⟩
          refine ⟨_, _, _, _, _, _, rfl, upd_same, clsv2 _ _, dp_ty (dp_same (same_new n1) hd), kitD2 K _ _ _ (by decide) (by decide), _, rfl, iteT ?_⟩
          refine ⟨_, rfl, _, _, _, _, _, rfl, .ty _, dp_ty (dp_same (same_new n1) hd), kitD K _ _ (by decide), (show 1 ≤ sizeLine by decide), fun p2 n2 => ?_⟩
          have s2 := (same_new (o := HO.tup [V.ty "tuple", V.ty "list"]) n1).trans (same_new (o := HO.lst [V.bl (isD "list" (.tuple ds))]) n2)
          refine ⟨_, rfl, a, rfl, ⟨_, Same.tup s2 hx⟩, fun D hD => lc_dataT (K := K) (a := a) (xs := xs) (ds := ds) (fun _ => true) plain (Same.tup s2 hx) (dps_same s2 hxs) hD (by omega) ?_ ?_⟩
          · intro v d G acc R dm hv sG hG ha _ hk
            refine ⟨rfl, _, rfl, ?_⟩
            refine plain_step hG hv (talls_mem ht dm) fun u G' s' hG' du => ⟨acc, upd_same, ha, ?_⟩
            rw [upd_app]
            exact hk rfl G' u s' hG' du
          · intro G ys sG hG hys
            have hF : ds.filter (fun _ => true) = ds := List.filter_eq_self.mpr fun _ _ => rfl
            rw [hF] at hys
            have hp2 : G p2 = some (.lst [V.bl (isD "list" (.tuple ds))]) := sG _ _ upd_same
            refine ⟨p2, D, _, _, rfl, rfl, by rw [upd_ne (ne_of_none hp2 hG)]; exact hp2, upd_same, ?_, fun p n3 => ?_⟩
            · show 1 + ys.length ≤ sizeLine
              have q := dps_len hys
              rw [List.length_map] at q
              exact Nat.le_of_lt (small1000' (by omega))
            · have s4 : Same G (upd (upd G D (.lst ys)) p (.lst ([V.bl (isD "list" (.tuple ds))] ++ ys))) := (same_new hG).trans (same_new n3)
              refine k _ _ (s2.trans (sG.trans s4)) (.lst (SqL.of upd_same) (.cons ?_ ?_))
              · exact .bl _
              · rw [plains_map]
                exact dps_same s4 hys
      | list ds =>
        cases n with
        | zero => exact ht.elim
        | succ n =>
          obtain ⟨hl, ht⟩ := ht
          obtain ⟨a, xs, rfl, hx, hxs⟩ := dp_lst hd
          refine ⟨_, (pss_cons (ps_if (pt_val (pe_callB call_isiT (by rfl) T.b_isinstance boot_isinstance' (pa_cons (pv 0) (pa_cons (pe_tup (pa_cons (pe_bltn (v := .ty "tuple") (by rfl) T.b_tuple boot_tuple' rfl) (pa_cons (pe_bltn (v := .ty "list") (by rfl) T.b_list boot_list' rfl) pa_nil))) pa_nil)))) (pss_one (ps_ret (pe_op op_cat (pe_lst (pa_cons (pe_callB call_isi (by rfl) T.b_isinstance boot_isinstance' (pa_cons (pv 0) (pa_cons (pe_bltn (v := .ty "list") (by rfl) T.b_list boot_list' rfl) pa_nil))) pa_nil)) (pe_lc (own := [("item", 1)]) rfl sc__law_plain.nd (pi_list (pv 0)) (blkOk_by (own := [("item", 1)]) (N := ["value", "item"]) (sc := defScope s__law_plain) (by decide +kernel)) (fun _ _ _ _ _ => (pg_name (i := 1) sc__law_plain.nd rfl (Or.inl rfl))) (fun _ _ _ _ _ => pts_nil) (fun _ _ _ _ _ => (pe_c c__law_plain hr (by omega) rfl (pa_cons (pv 1) pa_nil))))))) pss_nil)
      (pss_cons (ps_if (PW.pt (pw_or (pt_cmpR op_isN (pv 0) pe_non (nomark _)) (pw_or1 (pt_val (pe_callB call_isi (by rfl) T.b_isinstance boot_isinstance' (pa_cons (pv 0) (pa_cons (pe_bltn (v := .ty "bool") (by rfl) T.b_bool boot_bool' rfl) pa_nil))))))) (pss_one (ps_ret (pe_ix ix_list (pe_lst (pa_cons pe_str (pa_cons pe_str (pa_cons pe_str pa_nil)))) (pe_op op_add (pe_callTy call_int1 (by rfl) T.b_int boot_int' (pa_cons (pe_cmpR op_notN (pv 0) pe_non (nomark _)) pa_nil)) (pe_callTy call_int1 (by rfl) T.b_int boot_int' (pa_cons (pe_cmpR op_isX (pv 0) pe_bl (nomark _)) pa_nil))) (fun _ _ => rfl)))) pss_nil)
      (pss_cons (ps_if (pt_val (pe_callB call_isiT (by rfl) T.b_isinstance boot_isinstance' (pa_cons (pv 0) (pa_cons (pe_tup (pa_cons (pe_bltn (v := .ty "int") (by rfl) T.b_int boot_int' rfl) (pa_cons (pe_bltn (v := .ty "str") (by rfl) T.b_str boot_str' rfl) pa_nil))) pa_nil)))) (pss_one (ps_ret (pe_lst (pa_cons (pe_callB call_isi (by rfl) T.b_isinstance boot_isinstance' (pa_cons (pv 0) (pa_cons (pe_bltn (v := .ty "str") (by rfl) T.b_str boot_str' rfl) pa_nil))) (pa_cons (pv 0) pa_nil))))) pss_nil)
      (pss_one (ps_ret pe_str))))), ?_⟩
          refine ⟨_, rfl, by decide, fun p1 n1 => ?_⟩
          refine ⟨_, _, _, _, _, _, rfl, upd_same, clsv2 _ _, dp_ty (dp_same (same_new n1) hd), kitD2 K _ _ _ (by decide) (by decide), _, rfl, iteT ?_⟩
          refine ⟨_, rfl, _, _, _, _, _, rfl, .ty _, dp_ty (dp_same (same_new n1) hd), kitD K _ _ (by decide), (show 1 ≤ sizeLine by decide), fun p2 n2 => ?_⟩
          have s2 := (same_new (o := HO.tup [V.ty "tuple", V.ty "list"]) n1).trans (same_new (o := HO.lst [V.bl (isD "list" (.list ds))]) n2)
          refine ⟨_, rfl, a, rfl, ⟨_, s2.seq hx⟩, fun D hD => lc_data (K := K) (a := a) (xs := xs) (ds := ds) (fun _ => true) plain (s2.seq hx) (dps_same s2 hxs) hD (by omega) ?_ ?_⟩
          · intro v d G acc R dm hv sG hG ha _ hk
            refine ⟨rfl, _, rfl, ?_⟩
            refine plain_step hG hv (talls_mem ht dm) fun u G' s' hG' du => ⟨acc, upd_same, ha, ?_⟩
            rw [upd_app]
            exact hk rfl G' u s' hG' du
          · intro G ys sG hG hys
            have hF : ds.filter (fun _ => true) = ds := List.filter_eq_self.mpr fun _ _ => rfl
            rw [hF] at hys
            have hp2 : G p2 = some (.lst [V.bl (isD "list" (.list ds))]) := sG _ _ upd_same
            refine ⟨p2, D, _, _, rfl, rfl, by rw [upd_ne (ne_of_none hp2 hG)]; exact hp2, upd_same, ?_, fun p n3 => ?_⟩
            · show 1 + ys.length ≤ sizeLine
              have q := dps_len hys
              rw [List.length_map] at q
              exact Nat.le_of_lt (small1000' (by omega))
            · have s4 : Same G (upd (upd G D (.lst ys)) p (.lst ([V.bl (isD "list" (.list ds))] ++ ys))) := (same_new hG).trans (same_new n3)
              refine k _ _ (s2.trans (sG.trans s4)) (.lst (SqL.of upd_same) (.cons ?_ ?_))
              · exact .bl _
              · rw [plains_map]
                exact dps_same s4 hys
      | dict _ => cases hd
      | none =>
        cases dp_non hd
        refine ⟨_, (pss_cons (ps_if (pt_val (pe_callB call_isiT (by rfl) T.b_isinstance boot_isinstance' (pa_cons (pv 0) (pa_cons (pe_tup (pa_cons (pe_bltn (v := .ty "tuple") (by rfl) T.b_tuple boot_tuple' rfl) (pa_cons (pe_bltn (v := .ty "list") (by rfl) T.b_list boot_list' rfl) pa_nil))) pa_nil)))) (pss_one (ps_ret (pe_op op_cat (pe_lst (pa_cons (pe_callB call_isi (by rfl) T.b_isinstance boot_isinstance' (pa_cons (pv 0) (pa_cons (pe_bltn (v := .ty "list") (by rfl) T.b_list boot_list' rfl) pa_nil))) pa_nil)) (pe_lc (own := [("item", 1)]) rfl sc__law_plain.nd (pi_list (pv 0)) (blkOk_by (own := [("item", 1)]) (N := ["value", "item"]) (sc := defScope s__law_plain) (by decide +kernel)) (fun _ _ _ _ _ => (pg_name (i := 1) sc__law_plain.nd rfl (Or.inl rfl))) (fun _ _ _ _ _ => pts_nil) (fun _ _ _ _ _ => (pe_c c__law_plain hr (by omega) rfl (pa_cons (pv 1) pa_nil))))))) pss_nil)
      (pss_cons (ps_if (PW.pt (pw_or (pt_cmpR op_isN (pv 0) pe_non (nomark _)) (pw_or1 (pt_val (pe_callB call_isi (by rfl) T.b_isinstance boot_isinstance' (pa_cons (pv 0) (pa_cons (pe_bltn (v := .ty "bool") (by rfl) T.b_bool boot_bool' rfl) pa_nil))))))) (pss_one (ps_ret (pe_ix ix_list (pe_lst (pa_cons pe_str (pa_cons pe_str (pa_cons pe_str pa_nil)))) (pe_op op_add (pe_callTy call_int1 (by rfl) T.b_int boot_int' (pa_cons (pe_cmpR op_notN (pv 0) pe_non (nomark _)) pa_nil)) (pe_callTy call_int1 (by rfl) T.b_int boot_int' (pa_cons (pe_cmpR op_isX (pv 0) pe_bl (nomark _)) pa_nil))) (fun _ _ => rfl)))) pss_nil)
      (pss_cons (ps_if (pt_val (pe_callB call_isiT (by rfl) T.b_isinstance boot_isinstance' (pa_cons (pv 0) (pa_cons (pe_tup (pa_cons (pe_bltn (v := .ty "int") (by rfl) T.b_int boot_int' rfl) (pa_cons (pe_bltn (v := .ty "str") (by rfl) T.b_str boot_str' rfl) pa_nil))) pa_nil)))) (pss_one (ps_ret (pe_lst (pa_cons (pe_callB call_isi (by rfl) T.b_isinstance boot_isinstance' (pa_cons (pv 0) (pa_cons (pe_bltn (v := .ty "str") (by rfl) T.b_str boot_str' rfl) pa_nil))) (pa_cons (pv 0) pa_nil))))) pss_nil)
      (pss_one (ps_ret pe_str))))), ?_⟩
        refine ⟨_, rfl, by decide, fun p1 n1 => ?_⟩
        refine ⟨_, _, _, _, _, _, rfl, upd_same, clsv2 _ _, dp_ty (dp_same (same_new n1) hd), kitD2 K _ _ _ (by decide) (by decide), _, rfl, iteF ?_⟩
        refine ⟨_, rfl, rfl, _, rfl, iteT (iteT ?_)⟩
        refine ⟨(show 3 ≤ sizeLine by decide), fun p2 n2 => ?_⟩
        refine ⟨_, rfl, rfl, .inr ⟨_, rfl, _, rfl, _, rfl, .inl rfl, .inr ⟨_, rfl, _, _, rfl, rfl, p2, _, 0, .str "None", rfl, rfl, SqL.of upd_same, rfl, ?_⟩⟩⟩
        exact k _ _ ((same_new n1).trans (same_new n2)) (.str _)
      | bool z =>
        cases dp_bl hd
        refine ⟨_, (pss_cons (ps_if (pt_val (pe_callB call_isiT (by rfl) T.b_isinstance boot_isinstance' (pa_cons (pv 0) (pa_cons (pe_tup (pa_cons (pe_bltn (v := .ty "tuple") (by rfl) T.b_tuple boot_tuple' rfl) (pa_cons (pe_bltn (v := .ty "list") (by rfl) T.b_list boot_list' rfl) pa_nil))) pa_nil)))) (pss_one (ps_ret (pe_op op_cat (pe_lst (pa_cons (pe_callB call_isi (by rfl) T.b_isinstance boot_isinstance' (pa_cons (pv 0) (pa_cons (pe_bltn (v := .ty "list") (by rfl) T.b_list boot_list' rfl) pa_nil))) pa_nil)) (pe_lc (own := [("item", 1)]) rfl sc__law_plain.nd (pi_list (pv 0)) (blkOk_by (own := [("item", 1)]) (N := ["value", "item"]) (sc := defScope s__law_plain) (by decide +kernel)) (fun _ _ _ _ _ => (pg_name (i := 1) sc__law_plain.nd rfl (Or.inl rfl))) (fun _ _ _ _ _ => pts_nil) (fun _ _ _ _ _ => (pe_c c__law_plain hr (by omega) rfl (pa_cons (pv 1) pa_nil))))))) pss_nil)
      (pss_cons (ps_if (PW.pt (pw_or (pt_cmpR op_isN (pv 0) pe_non (nomark _)) (pw_or1 (pt_val (pe_callB call_isi (by rfl) T.b_isinstance boot_isinstance' (pa_cons (pv 0) (pa_cons (pe_bltn (v := .ty "bool") (by rfl) T.b_bool boot_bool' rfl) pa_nil))))))) (pss_one (ps_ret (pe_ix ix_list (pe_lst (pa_cons pe_str (pa_cons pe_str (pa_cons pe_str pa_nil)))) (pe_op op_add (pe_callTy call_int1 (by rfl) T.b_int boot_int' (pa_cons (pe_cmpR op_notN (pv 0) pe_non (nomark _)) pa_nil)) (pe_callTy call_int1 (by rfl) T.b_int boot_int' (pa_cons (pe_cmpR op_isX (pv 0) pe_bl (nomark _)) pa_nil))) (fun _ _ => rfl)))) pss_nil)
      (pss_cons (ps_if (pt_val (pe_callB call_isiT (by rfl) T.b_isinstance boot_isinstance' (pa_cons (pv 0) (pa_cons (pe_tup (pa_cons (pe_bltn (v := .ty "int") (by rfl) T.b_int boot_int' rfl) (pa_cons (pe_bltn (v := .ty "str") (by rfl) T.b_str boot_str' rfl) pa_nil))) pa_nil)))) (pss_one (ps_ret (pe_lst (pa_cons (pe_callB call_isi (by rfl) T.b_isinstance boot_isinstance' (pa_cons (pv 0) (pa_cons (pe_bltn (v := .ty "str") (by rfl) T.b_str boot_str' rfl) pa_nil))) (pa_cons (pv 0) pa_nil))))) pss_nil)
      (pss_one (ps_ret pe_str))))), ?_⟩
        refine ⟨_, rfl, by decide, fun p1 n1 => ?_⟩
        refine ⟨_, _, _, _, _, _, rfl, upd_same, clsv2 _ _, dp_ty (dp_same (same_new n1) hd), kitD2 K _ _ _ (by decide) (by decide), _, rfl, iteF ?_⟩
        refine ⟨_, rfl, rfl, _, rfl, iteF ⟨_, rfl, _, _, _, _, _, rfl, .ty _, dp_ty (dp_same (same_new n1) hd), kitD K _ _ (by decide), _, rfl, iteT ?_⟩⟩
        refine ⟨(show 3 ≤ sizeLine by decide), fun p2 n2 => ?_⟩
        cases z with
        | true =>
          refine ⟨_, rfl, rfl, .inr ⟨_, rfl, _, rfl, _, rfl, .inr (.inl ⟨_, rfl⟩), .inr ⟨_, rfl, _, _, rfl, rfl, p2, _, 2, .str "True", rfl, rfl, SqL.of upd_same, rfl, ?_⟩⟩⟩
          exact k _ _ ((same_new n1).trans (same_new n2)) (.str _)
        | false =>
          refine ⟨_, rfl, rfl, .inr ⟨_, rfl, _, rfl, _, rfl, .inr (.inl ⟨_, rfl⟩), .inr ⟨_, rfl, _, _, rfl, rfl, p2, _, 1, .str "False", rfl, rfl, SqL.of upd_same, rfl, ?_⟩⟩⟩
          exact k _ _ ((same_new n1).trans (same_new n2)) (.str _)
      | int i =>
        cases dp_int hd
        refine ⟨_, (pss_cons (ps_if (pt_val (pe_callB call_isiT (by rfl) T.b_isinstance boot_isinstance' (pa_cons (pv 0) (pa_cons (pe_tup (pa_cons (pe_bltn (v := .ty "tuple") (by rfl) T.b_tuple boot_tuple' rfl) (pa_cons (pe_bltn (v := .ty "list") (by rfl) T.b_list boot_list' rfl) pa_nil))) pa_nil)))) (pss_one (ps_ret (pe_op op_cat (pe_lst (pa_cons (pe_callB call_isi (by rfl) T.b_isinstance boot_isinstance' (pa_cons (pv 0) (pa_cons (pe_bltn (v := .ty "list") (by rfl) T.b_list boot_list' rfl) pa_nil))) pa_nil)) (pe_lc (own := [("item", 1)]) rfl sc__law_plain.nd (pi_list (pv 0)) (blkOk_by (own := [("item", 1)]) (N := ["value", "item"]) (sc := defScope s__law_plain) (by decide +kernel)) (fun _ _ _ _ _ => (pg_name (i := 1) sc__law_plain.nd rfl (Or.inl rfl))) (fun _ _ _ _ _ => pts_nil) (fun _ _ _ _ _ => (pe_c c__law_plain hr (by omega) rfl (pa_cons (pv 1) pa_nil))))))) pss_nil)
      (pss_cons (ps_if (PW.pt (pw_or (pt_cmpR op_isN (pv 0) pe_non (nomark _)) (pw_or1 (pt_val (pe_callB call_isi (by rfl) T.b_isinstance boot_isinstance' (pa_cons (pv 0) (pa_cons (pe_bltn (v := .ty "bool") (by rfl) T.b_bool boot_bool' rfl) pa_nil))))))) (pss_one (ps_ret (pe_ix ix_list (pe_lst (pa_cons pe_str (pa_cons pe_str (pa_cons pe_str pa_nil)))) (pe_op op_add (pe_callTy call_int1 (by rfl) T.b_int boot_int' (pa_cons (pe_cmpR op_notN (pv 0) pe_non (nomark _)) pa_nil)) (pe_callTy call_int1 (by rfl) T.b_int boot_int' (pa_cons (pe_cmpR op_isX (pv 0) pe_bl (nomark _)) pa_nil))) (fun _ _ => rfl)))) pss_nil)
      (pss_cons (ps_if (pt_val (pe_callB call_isiT (by rfl) T.b_isinstance boot_isinstance' (pa_cons (pv 0) (pa_cons (pe_tup (pa_cons (pe_bltn (v := .ty "int") (by rfl) T.b_int boot_int' rfl) (pa_cons (pe_bltn (v := .ty "str") (by rfl) T.b_str boot_str' rfl) pa_nil))) pa_nil)))) (pss_one (ps_ret (pe_lst (pa_cons (pe_callB call_isi (by rfl) T.b_isinstance boot_isinstance' (pa_cons (pv 0) (pa_cons (pe_bltn (v := .ty "str") (by rfl) T.b_str boot_str' rfl) pa_nil))) (pa_cons (pv 0) pa_nil))))) pss_nil)
      (pss_one (ps_ret pe_str))))), ?_⟩
        refine ⟨_, rfl, by decide, fun p1 n1 => ?_⟩
        refine ⟨_, _, _, _, _, _, rfl, upd_same, clsv2 _ _, dp_ty (dp_same (same_new n1) hd), kitD2 K _ _ _ (by decide) (by decide), _, rfl, iteF ?_⟩
        refine ⟨_, rfl, rfl, _, rfl, iteF ⟨_, rfl, _, _, _, _, _, rfl, .ty _, dp_ty (dp_same (same_new n1) hd), kitD K _ _ (by decide), _, rfl, iteF ?_⟩⟩
        refine ⟨_, rfl, by decide, fun p2 n2 => ?_⟩
        have s2 := (same_new (o := HO.tup [V.ty "tuple", V.ty "list"]) n1).trans (same_new (o := HO.tup [V.ty "int", V.ty "str"]) n2)
        refine ⟨_, _, _, _, _, _, rfl, upd_same, clsv2 _ _, dp_ty (dp_same s2 hd), kitD2 K _ _ _ (by decide) (by decide), _, rfl, iteT ?_⟩
        refine ⟨_, rfl, _, _, _, _, _, rfl, .ty _, dp_ty (dp_same s2 hd), kitD K _ _ (by decide), _, rfl, (show 2 ≤ sizeLine by decide), fun p3 n3 => ?_⟩
        exact k _ _ (s2.trans (same_new n3)) (.lst (SqL.of upd_same) (.cons (.bl _) (.cons (.int _) .nil)))
      | str z =>
        cases dp_str hd
        refine ⟨_, (pss_cons (ps_if (pt_val (pe_callB call_isiT (by rfl) T.b_isinstance boot_isinstance' (pa_cons (pv 0) (pa_cons (pe_tup (pa_cons (pe_bltn (v := .ty "tuple") (by rfl) T.b_tuple boot_tuple' rfl) (pa_cons (pe_bltn (v := .ty "list") (by rfl) T.b_list boot_list' rfl) pa_nil))) pa_nil)))) (pss_one (ps_ret (pe_op op_cat (pe_lst (pa_cons (pe_callB call_isi (by rfl) T.b_isinstance boot_isinstance' (pa_cons (pv 0) (pa_cons (pe_bltn (v := .ty "list") (by rfl) T.b_list boot_list' rfl) pa_nil))) pa_nil)) (pe_lc (own := [("item", 1)]) rfl sc__law_plain.nd (pi_list (pv 0)) (blkOk_by (own := [("item", 1)]) (N := ["value", "item"]) (sc := defScope s__law_plain) (by decide +kernel)) (fun _ _ _ _ _ => (pg_name (i := 1) sc__law_plain.nd rfl (Or.inl rfl))) (fun _ _ _ _ _ => pts_nil) (fun _ _ _ _ _ => (pe_c c__law_plain hr (by omega) rfl (pa_cons (pv 1) pa_nil))))))) pss_nil)
      (pss_cons (ps_if (PW.pt (pw_or (pt_cmpR op_isN (pv 0) pe_non (nomark _)) (pw_or1 (pt_val (pe_callB call_isi (by rfl) T.b_isinstance boot_isinstance' (pa_cons (pv 0) (pa_cons (pe_bltn (v := .ty "bool") (by rfl) T.b_bool boot_bool' rfl) pa_nil))))))) (pss_one (ps_ret (pe_ix ix_list (pe_lst (pa_cons pe_str (pa_cons pe_str (pa_cons pe_str pa_nil)))) (pe_op op_add (pe_callTy call_int1 (by rfl) T.b_int boot_int' (pa_cons (pe_cmpR op_notN (pv 0) pe_non (nomark _)) pa_nil)) (pe_callTy call_int1 (by rfl) T.b_int boot_int' (pa_cons (pe_cmpR op_isX (pv 0) pe_bl (nomark _)) pa_nil))) (fun _ _ => rfl)))) pss_nil)
      (pss_cons (ps_if (pt_val (pe_callB call_isiT (by rfl) T.b_isinstance boot_isinstance' (pa_cons (pv 0) (pa_cons (pe_tup (pa_cons (pe_bltn (v := .ty "int") (by rfl) T.b_int boot_int' rfl) (pa_cons (pe_bltn (v := .ty "str") (by rfl) T.b_str boot_str' rfl) pa_nil))) pa_nil)))) (pss_one (ps_ret (pe_lst (pa_cons (pe_callB call_isi (by rfl) T.b_isinstance boot_isinstance' (pa_cons (pv 0) (pa_cons (pe_bltn (v := .ty "str") (by rfl) T.b_str boot_str' rfl) pa_nil))) (pa_cons (pv 0) pa_nil))))) pss_nil)
      (pss_one (ps_ret pe_str))))), ?_⟩
        refine ⟨_, rfl, by decide, fun p1 n1 => ?_⟩
        refine ⟨_, _, _, _, _, _, rfl, upd_same, clsv2 _ _, dp_ty (dp_same (same_new n1) hd), kitD2 K _ _ _ (by decide) (by decide), _, rfl, iteF ?_⟩
        refine ⟨_, rfl, rfl, _, rfl, iteF ⟨_, rfl, _, _, _, _, _, rfl, .ty _, dp_ty (dp_same (same_new n1) hd), kitD K _ _ (by decide), _, rfl, iteF ?_⟩⟩
        refine ⟨_, rfl, by decide, fun p2 n2 => ?_⟩
        have s2 := (same_new (o := HO.tup [V.ty "tuple", V.ty "list"]) n1).trans (same_new (o := HO.tup [V.ty "int", V.ty "str"]) n2)
        refine ⟨_, _, _, _, _, _, rfl, upd_same, clsv2 _ _, dp_ty (dp_same s2 hd), kitD2 K _ _ _ (by decide) (by decide), _, rfl, iteT ?_⟩
        refine ⟨_, rfl, _, _, _, _, _, rfl, .ty _, dp_ty (dp_same s2 hd), kitD K _ _ (by decide), _, rfl, (show 2 ≤ sizeLine by decide), fun p3 n3 => ?_⟩
        exact k _ _ (s2.trans (same_new n3)) (.lst (SqL.of upd_same) (.cons (.bl _) (.cons (.str _) .nil)))

end
end Q41

/-! # plain mathematics of nets in lanes: no program here -/
namespace M03
open PySem

/-! ## bits side by side -/
def pk (f : Nat → Int) : Nat → Int
  | 0 => 0
  | n + 1 => pk f n + f n * 2 ^ n
def pkN (f : Nat → Nat) : Nat → Nat
  | 0 => 0
  | n + 1 => pkN f n + f n * 2 ^ n
def Bit (x : Int) : Prop := x = 0 ∨ x = 1
theorem pkN_lt {f : Nat → Nat} (h : ∀ l, f l ≤ 1) : ∀ n, pkN f n < 2 ^ n
  | 0 => (by decide : 0 < 1)
  | n + 1 => by
    have := pkN_lt h n
    have := h n
    show pkN f n + f n * 2 ^ n < 2 ^ (n + 1)
    rw [Nat.pow_succ]
    have : f n * 2 ^ n ≤ 1 * 2 ^ n := Nat.mul_le_mul_right _ (h n)
    omega
theorem pkN_bit {f : Nat → Nat} (h : ∀ l, f l ≤ 1) : ∀ (n i : Nat), (pkN f n).testBit i = (decide (i < n) && decide (f i = 1))
  | 0, i => by simp [pkN]
  | n + 1, i => by
    have e : pkN f (n + 1) = 2 ^ n * f n + pkN f n := by
      show pkN f n + f n * 2 ^ n = _
      rw [Nat.mul_comm, Nat.add_comm]
    rw [e, Nat.testBit_two_pow_mul_add _ (pkN_lt h n), pkN_bit h n]
    by_cases h1 : i < n
    · rw [if_pos h1]
      simp [h1, Nat.lt_succ_of_lt h1]
    · rw [if_neg h1]
      by_cases h2 : i = n
      · subst h2
        have := h i
        rcases Nat.le_one_iff_eq_zero_or_eq_one.mp this with q | q <;> simp [q]
      · have h3 : ¬ i < n + 1 := by omega
        have h4 : f n < 2 ^ (i - n) := Nat.lt_of_le_of_lt (h n) (Nat.one_lt_two_pow (by omega))
        rw [Nat.testBit_lt_two_pow h4]
        simp [h3]
theorem pkN_and {f g : Nat → Nat} (hf : ∀ l, f l ≤ 1) (hg : ∀ l, g l ≤ 1) (n : Nat) : pkN f n &&& pkN g n = pkN (fun l => f l * g l) n := by
  have hfg : ∀ l, f l * g l ≤ 1 := fun l => Nat.le_trans (Nat.mul_le_mul (hf l) (hg l)) (by decide)
  refine Nat.eq_of_testBit_eq fun i => ?_
  rw [Nat.testBit_and, pkN_bit hf, pkN_bit hg, pkN_bit hfg]
  have h1 := hf i
  have h2 := hg i
  rcases Nat.le_one_iff_eq_zero_or_eq_one.mp h1 with a | a <;> rcases Nat.le_one_iff_eq_zero_or_eq_one.mp h2 with b | b <;> simp [a, b]
theorem pk_nat (f : Nat → Nat) : ∀ n, ((pkN f n : Nat) : Int) = pk (fun l => (f l : Int)) n
  | 0 => rfl
  | n + 1 => by
    show ((pkN f n + f n * 2 ^ n : Nat) : Int) = pk _ n + _
    rw [← pk_nat f n]
    push_cast
    rfl
theorem pk_congr {f g : Nat → Int} : ∀ {n : Nat}, (∀ l, l < n → f l = g l) → pk f n = pk g n
  | 0, _ => rfl
  | n + 1, h => by
    show pk f n + f n * 2 ^ n = pk g n + g n * 2 ^ n
    rw [pk_congr fun l hl => h l (by omega), h n (by omega)]
theorem pk_add (f g : Nat → Int) : ∀ n, pk (fun l => f l + g l) n = pk f n + pk g n
  | 0 => rfl
  | n + 1 => by
    show pk _ n + (f n + g n) * 2 ^ n = (pk f n + f n * 2 ^ n) + (pk g n + g n * 2 ^ n)
    rw [pk_add f g n, Int.add_mul]
    omega
theorem pk_mul (c : Int) (f : Nat → Int) : ∀ n, pk (fun l => c * f l) n = c * pk f n
  | 0 => by simp [pk]
  | n + 1 => by
    show pk _ n + (c * f n) * 2 ^ n = c * (pk f n + f n * 2 ^ n)
    rw [pk_mul c f n, Int.mul_add, Int.mul_assoc]
theorem bitAnd_nat (a b : Nat) : Builtin.bitAnd (a : Int) (b : Int) = ((a &&& b : Nat) : Int) := by
  unfold Builtin.bitAnd
  simp
/-- bits as numbers below 2 -/
def nb (f : Nat → Int) (l : Nat) : Nat := if f l = 1 then 1 else 0
theorem nb_le (f : Nat → Int) (l : Nat) : nb f l ≤ 1 := by
  unfold nb
  split <;> omega
theorem nb_pk {f : Nat → Int} {n : Nat} (h : ∀ l, l < n → Bit (f l)) : pk f n = ((pkN (nb f) n : Nat) : Int) := by
  rw [pk_nat]
  refine pk_congr fun l hl => ?_
  unfold nb
  rcases h l hl with e | e <;> simp [e]
theorem pk_and {f g : Nat → Int} {n : Nat} (hf : ∀ l, l < n → Bit (f l)) (hg : ∀ l, l < n → Bit (g l)) : Builtin.bitAnd (pk f n) (pk g n) = pk (fun l => f l * g l) n := by
  rw [nb_pk hf, nb_pk hg, bitAnd_nat, pkN_and (nb_le f) (nb_le g), pk_nat]
  refine pk_congr fun l hl => ?_
  unfold nb
  rcases hf l hl with a | a <;> rcases hg l hl with b | b <;> simp [a, b]
theorem pk_xor {f g : Nat → Int} {n : Nat} (hf : ∀ l, l < n → Bit (f l)) (hg : ∀ l, l < n → Bit (g l)) : Builtin.bitXor (pk f n) (pk g n) = pk (fun l => if f l = g l then 0 else 1) n := by
  rw [PyProof.Rows.bitXor_and, pk_and hf hg]
  have e : pk f n + pk g n - 2 * pk (fun l => f l * g l) n = pk (fun l => (f l + g l) + (-2) * (f l * g l)) n := by
    rw [pk_add (fun l => f l + g l), pk_add f g, pk_mul (-2)]
    omega
  rw [e]
  refine pk_congr fun l hl => ?_
  rcases hf l hl with a | a <;> rcases hg l hl with b | b <;> simp [a, b]
theorem pk_or {f g : Nat → Int} {n : Nat} (hf : ∀ l, l < n → Bit (f l)) (hg : ∀ l, l < n → Bit (g l)) : Builtin.bitOr (pk f n) (pk g n) = pk (fun l => if f l = 1 then 1 else g l) n := by
  rw [PyProof.Rows.bitOr_and, pk_and hf hg]
  have e : pk f n + pk g n - pk (fun l => f l * g l) n = pk (fun l => (f l + g l) + (-1) * (f l * g l)) n := by
    rw [pk_add (fun l => f l + g l), pk_add f g, pk_mul (-1)]
    omega
  rw [e]
  refine pk_congr fun l hl => ?_
  rcases hf l hl with a | a <;> rcases hg l hl with b | b <;> simp [a, b]
theorem pk_ones : ∀ n, pk (fun _ => 1) n = 2 ^ n - 1
  | 0 => rfl
  | n + 1 => by
    show pk _ n + 1 * 2 ^ n = 2 ^ (n + 1) - 1
    rw [pk_ones n, Int.pow_succ]
    omega
theorem pk_not {f : Nat → Int} {n : Nat} (hf : ∀ l, l < n → Bit (f l)) : Builtin.bitXor (pk f n) (2 ^ n - 1) = pk (fun l => 1 - f l) n := by
  rw [← pk_ones, pk_xor hf (fun _ _ => .inr rfl)]
  refine pk_congr fun l hl => ?_
  rcases hf l hl with a | a <;> simp [a]
theorem pk_range {f : Nat → Int} {n : Nat} (hf : ∀ l, l < n → Bit (f l)) : 0 ≤ pk f n ∧ pk f n < 2 ^ n := by
  rw [nb_pk hf]
  have := pkN_lt (nb_le f) n
  refine ⟨Int.natCast_nonneg _, ?_⟩
  have h : ((pkN (nb f) n : Nat) : Int) < ((2 ^ n : Nat) : Int) := Int.ofNat_lt.mpr this
  simpa using h

/-! ## nets -/
abbrev Gate := Str × List Int
structure Net where
  inp : Int
  firsts : List Int
  nexts : List Int
  gates : List Gate
  outs : List Int
def sizes : List (Str × Nat) := [("and", 3), ("or", 3), ("xor", 3), ("not", 2), ("mux", 4)]
def inR (wires a : Int) : Bool := decide (0 ≤ a) && decide (a < wires)
def okG (wires : Int) (g : Gate) : Bool := decide ((g.1, g.2.length + 1) ∈ sizes) && g.2.all (inR wires)
def okGs : Int → List Gate → Bool
  | _, [] => true
  | w, g :: r => okG w g && okGs (w + 1) r
def w0 (n : Net) : Int := 1 + n.inp + n.firsts.length
def okNet (n : Net) : Bool := decide (0 ≤ n.inp) && okGs (w0 n) n.gates && decide (n.nexts.length = n.firsts.length) && n.firsts.all (fun x => decide (0 ≤ x) && decide (x ≤ 1)) && (n.nexts ++ n.outs).all (inR (w0 n + n.gates.length))
/-- a list's item by a number -/
def nth (xs : List Int) (i : Int) : Int := xs.getD i.toNat 0
def side (g : Gate) (k : Nat) : Int := g.2.getD k 0
/-- a gate over words of bits -/
def evG (mask : Int) (xs : List Int) (g : Gate) : Int :=
  let one := nth xs (side g 0)
  if g.1 = "and" then Builtin.bitAnd one (nth xs (side g 1)) else if g.1 = "xor" then Builtin.bitXor one (nth xs (side g 1)) else if g.1 = "or" then Builtin.bitOr one (nth xs (side g 1))
  else if g.1 = "not" then Builtin.bitXor one mask else Builtin.bitOr (Builtin.bitAnd one (nth xs (side g 1))) (Builtin.bitAnd (Builtin.bitXor one mask) (nth xs (side g 2)))
/-- a gate over bits -/
def evL (xs : List Int) (g : Gate) : Int :=
  if g.1 = "not" then 1 - nth xs (side g 0) else if g.1 = "mux" then (if nth xs (side g 0) = 1 then nth xs (side g 1) else nth xs (side g 2))
  else if g.1 = "and" then nth xs (side g 0) * nth xs (side g 1) else if g.1 = "or" then (if nth xs (side g 1) > nth xs (side g 0) then nth xs (side g 1) else nth xs (side g 0))
  else (if nth xs (side g 0) = nth xs (side g 1) then 0 else 1)
def runG (mask : Int) : List Int → List Gate → List Int
  | xs, [] => xs
  | xs, g :: r => runG mask (xs ++ [evG mask xs g]) r
def runL : List Int → List Gate → List Int
  | xs, [] => xs
  | xs, g :: r => runL (xs ++ [evL xs g]) r
/-- the lanes' values beside the words -/
structure Side (n : Nat) (xs : List Int) (vl : Nat → List Int) : Prop where
  len : ∀ l, l < n → (vl l).length = xs.length
  at_ : ∀ w, w < xs.length → xs.getD w 0 = pk (fun l => (vl l).getD w 0) n
  bit : ∀ l, l < n → ∀ w, Bit ((vl l).getD w 0)
theorem Side.nth {n : Nat} {xs : List Int} {vl : Nat → List Int} (h : Side n xs vl) {a : Int} (ha : inR xs.length a = true) : nth xs a = pk (fun l => M03.nth (vl l) a) n := by
  unfold inR at ha
  simp only [Bool.and_eq_true, decide_eq_true_eq] at ha
  exact h.at_ a.toNat (by omega)
theorem Side.bitN {n : Nat} {xs : List Int} {vl : Nat → List Int} (h : Side n xs vl) (a : Int) : ∀ l, l < n → Bit (M03.nth (vl l) a) := fun l hl => h.bit l hl a.toNat
theorem okG_side {w : Int} {g : Gate} (h : okG w g = true) {k : Nat} (hk : k < g.2.length) : inR w (side g k) = true := by
  unfold okG at h
  simp only [Bool.and_eq_true, List.all_eq_true] at h
  have e : side g k = g.2[k] := by
    unfold side
    rw [List.getD_eq_getElem?_getD, List.getElem?_eq_getElem hk]
    rfl
  rw [e]
  exact h.2 _ (List.getElem_mem hk)
theorem okG_word {w : Int} {g : Gate} (h : okG w g = true) : (g.1 = "and" ∧ g.2.length = 2) ∨ (g.1 = "or" ∧ g.2.length = 2) ∨ (g.1 = "xor" ∧ g.2.length = 2) ∨ (g.1 = "not" ∧ g.2.length = 1) ∨ (g.1 = "mux" ∧ g.2.length = 3) := by
  unfold okG sizes at h
  simp only [Bool.and_eq_true, decide_eq_true_eq, List.mem_cons, Prod.mk.injEq, List.not_mem_nil, or_false] at h
  obtain ⟨h, _⟩ := h
  rcases h with h | h | h | h | h
  · exact .inl ⟨h.1, by omega⟩
  · exact .inr (.inl ⟨h.1, by omega⟩)
  · exact .inr (.inr (.inl ⟨h.1, by omega⟩))
  · exact .inr (.inr (.inr (.inl ⟨h.1, by omega⟩)))
  · exact .inr (.inr (.inr (.inr ⟨h.1, by omega⟩)))
theorem bit_and {a b : Int} (ha : Bit a) (hb : Bit b) : Bit (a * b) := by
  rcases ha with rfl | rfl <;> rcases hb with rfl | rfl <;> first | exact .inl rfl | exact .inr rfl
theorem bit_not {a : Int} (ha : Bit a) : Bit (1 - a) := by
  rcases ha with rfl | rfl
  · exact .inr rfl
  · exact .inl rfl
theorem gate_eq {n : Nat} {xs : List Int} {vl : Nat → List Int} {g : Gate} (h : Side n xs vl) (hg : okG xs.length g = true) : evG (2 ^ n - 1) xs g = pk (fun l => evL (vl l) g) n ∧ ∀ l, l < n → Bit (evL (vl l) g) := by
  have b := fun k => h.bitN (side g k)
  rcases okG_word hg with ⟨e, hl⟩ | ⟨e, hl⟩ | ⟨e, hl⟩ | ⟨e, hl⟩ | ⟨e, hl⟩
  · have q0 := h.nth (okG_side hg (k := 0) (by omega))
    have q1 := h.nth (okG_side hg (k := 1) (by omega))
    unfold evG evL
    simp only [e, show (("and" : Str) = "not") = False by decide, show (("and" : Str) = "mux") = False by decide, if_true, if_false]
    rw [q0, q1, pk_and (b 0) (b 1)]
    exact ⟨rfl, fun l hl => bit_and (b 0 l hl) (b 1 l hl)⟩
  · have q0 := h.nth (okG_side hg (k := 0) (by omega))
    have q1 := h.nth (okG_side hg (k := 1) (by omega))
    unfold evG evL
    simp only [e, show (("or" : Str) = "and") = False by decide, show (("or" : Str) = "xor") = False by decide, show (("or" : Str) = "not") = False by decide, show (("or" : Str) = "mux") = False by decide, if_true, if_false]
    rw [q0, q1, pk_or (b 0) (b 1)]
    refine ⟨pk_congr fun l hl => ?_, fun l hl => ?_⟩
    · rcases b 0 l hl with x | x <;> rcases b 1 l hl with y | y <;> simp [x, y]
    · rcases b 0 l hl with x | x <;> rcases b 1 l hl with y | y <;> simp [x, y, Bit]
  · have q0 := h.nth (okG_side hg (k := 0) (by omega))
    have q1 := h.nth (okG_side hg (k := 1) (by omega))
    unfold evG evL
    simp only [e, show (("xor" : Str) = "and") = False by decide, show (("xor" : Str) = "or") = False by decide, show (("xor" : Str) = "not") = False by decide, show (("xor" : Str) = "mux") = False by decide, if_true, if_false]
    rw [q0, q1, pk_xor (b 0) (b 1)]
    refine ⟨rfl, fun l hl => ?_⟩
    rcases b 0 l hl with x | x <;> rcases b 1 l hl with y | y <;> simp [x, y, Bit]
  · have q0 := h.nth (okG_side hg (k := 0) (by omega))
    unfold evG evL
    simp only [e, show (("not" : Str) = "and") = False by decide, show (("not" : Str) = "or") = False by decide, show (("not" : Str) = "xor") = False by decide, if_true, if_false]
    rw [q0, pk_not (b 0)]
    exact ⟨rfl, fun l hl => bit_not (b 0 l hl)⟩
  · have q0 := h.nth (okG_side hg (k := 0) (by omega))
    have q1 := h.nth (okG_side hg (k := 1) (by omega))
    have q2 := h.nth (okG_side hg (k := 2) (by omega))
    unfold evG evL
    simp only [e, show (("mux" : Str) = "and") = False by decide, show (("mux" : Str) = "or") = False by decide, show (("mux" : Str) = "xor") = False by decide, show (("mux" : Str) = "not") = False by decide, if_true, if_false]
    rw [q0, q1, q2, pk_not (b 0), pk_and (b 0) (b 1), pk_and (fun l hl => bit_not (b 0 l hl)) (b 2), pk_or (fun l hl => bit_and (b 0 l hl) (b 1 l hl)) (fun l hl => bit_and (bit_not (b 0 l hl)) (b 2 l hl))]
    refine ⟨pk_congr fun l hl => ?_, fun l hl => ?_⟩
    · rcases b 0 l hl with x | x <;> rcases b 1 l hl with y | y <;> simp [x, y]
    · rcases b 0 l hl with x | x <;> rcases b 1 l hl with y | y <;> rcases b 2 l hl with z | z <;> simp [x, y, z, Bit]
theorem getD_snoc (xs : List Int) (x : Int) (w : Nat) : (xs ++ [x]).getD w 0 = if w < xs.length then xs.getD w 0 else if w = xs.length then x else 0 := by
  simp only [List.getD_eq_getElem?_getD, List.getElem?_append]
  by_cases h : w < xs.length
  · rw [if_pos h, if_pos h]
  · rw [if_neg h, if_neg h]
    by_cases h2 : w = xs.length
    · subst h2
      simp
    · rw [if_neg h2, List.getElem?_eq_none (by simp only [List.length_singleton]; omega)]
      rfl
theorem Side.step {n : Nat} {xs : List Int} {vl : Nat → List Int} {g : Gate} (h : Side n xs vl) (hg : okG xs.length g = true) : Side n (xs ++ [evG (2 ^ n - 1) xs g]) (fun l => vl l ++ [evL (vl l) g]) := by
  obtain ⟨e, hb⟩ := gate_eq h hg
  refine ⟨fun l hl => by simp [h.len l hl], fun w hw => ?_, fun l hl w => ?_⟩
  · rw [getD_snoc]
    by_cases h1 : w < xs.length
    · rw [if_pos h1, h.at_ w h1]
      refine pk_congr fun l hl => ?_
      rw [getD_snoc, if_pos (by rw [h.len l hl]; exact h1)]
    · have h2 : w = xs.length := by
        simp only [List.length_append, List.length_singleton] at hw
        omega
      rw [if_neg h1, if_pos h2, e]
      refine pk_congr fun l hl => ?_
      rw [getD_snoc, if_neg (by rw [h.len l hl]; exact h1), if_pos (by rw [h.len l hl]; exact h2)]
  · rw [getD_snoc]
    split
    · exact h.bit l hl w
    · split
      · exact hb l hl
      · exact .inl rfl
theorem Side.run {n : Nat} : ∀ {gs : List Gate} {xs : List Int} {vl : Nat → List Int}, Side n xs vl → okGs xs.length gs = true → Side n (runG (2 ^ n - 1) xs gs) (fun l => runL (vl l) gs)
  | [], _, _, h, _ => h
  | g :: r, xs, vl, h, hg => by
    unfold okGs at hg
    simp only [Bool.and_eq_true] at hg
    refine Side.run (gs := r) (h.step hg.1) ?_
    rw [List.length_append, List.length_singleton]
    exact hg.2
theorem runG_len (mask : Int) : ∀ (gs : List Gate) (xs : List Int), (runG mask xs gs).length = xs.length + gs.length
  | [], _ => rfl
  | g :: r, xs => by
    show (runG mask (xs ++ [evG mask xs g]) r).length = _
    rw [runG_len mask r, List.length_append, List.length_singleton, List.length_cons]
    omega
theorem runL_len : ∀ (gs : List Gate) (xs : List Int), (runL xs gs).length = xs.length + gs.length
  | [], _ => rfl
  | g :: r, xs => by
    show (runL (xs ++ [evL xs g]) r).length = _
    rw [runL_len r, List.length_append, List.length_singleton, List.length_cons]
    omega
/-- the lanes' rows as words -/
def words (rows : List (List Int)) (m : Nat) : List Int := (List.range m).map fun k => pk (fun l => (rows.getD l []).getD k 0) rows.length
theorem words_len (rows : List (List Int)) (m : Nat) : (words rows m).length = m := by simp [words]
theorem words_at (rows : List (List Int)) {m k : Nat} (h : k < m) : (words rows m).getD k 0 = pk (fun l => (rows.getD l []).getD k 0) rows.length := by
  simp [words, List.getD_eq_getElem?_getD, h]
theorem runG_snoc (m : Int) (g : Gate) : ∀ (gs : List Gate) (xs : List Int), runG m xs (gs ++ [g]) = runG m xs gs ++ [evG m (runG m xs gs) g]
  | [], _ => rfl
  | x :: r, xs => runG_snoc m g r (xs ++ [evG m xs x])
theorem runL_snoc (g : Gate) : ∀ (gs : List Gate) (xs : List Int), runL xs (gs ++ [g]) = runL xs gs ++ [evL (runL xs gs) g]
  | [], _ => rfl
  | x :: r, xs => runL_snoc g r (xs ++ [evL xs x])
theorem okGs_get : ∀ {gs : List Gate} {w : Int} {i : Nat} {g : Gate}, okGs w gs = true → gs[i]? = some g → okG (w + i) g = true
  | [], _, i, _, _, e => by simp at e
  | x :: r, w, 0, g, h, e => by
    simp at e
    subst e
    unfold okGs at h
    simp only [Bool.and_eq_true] at h
    have := h.1
    simpa using this
  | x :: r, w, i + 1, g, h, e => by
    unfold okGs at h
    simp only [Bool.and_eq_true] at h
    have := okGs_get (gs := r) (i := i) h.2 (by simpa using e)
    rw [show w + ((i + 1 : Nat) : Int) = w + 1 + i by omega]
    exact this
theorem okNet_parts {n : Net} (h : okNet n = true) : 0 ≤ n.inp ∧ okGs (w0 n) n.gates = true ∧ n.nexts.length = n.firsts.length ∧ (∀ x ∈ n.firsts, 0 ≤ x ∧ x ≤ 1) ∧ ∀ x ∈ n.nexts ++ n.outs, inR (w0 n + n.gates.length) x = true := by
  unfold okNet at h
  simp only [Bool.and_eq_true, decide_eq_true_eq, List.all_eq_true] at h
  obtain ⟨⟨⟨⟨h1, h2⟩, h3⟩, h4⟩, h5⟩ := h
  exact ⟨h1, h2, h3, h4, h5⟩
theorem okGs_snoc (g : Gate) : ∀ (gs : List Gate) (w : Int), okGs w (gs ++ [g]) = (okGs w gs && okG (w + gs.length) g)
  | [], w => by
    show (okG w g && true) = (true && okG (w + ((0 : Nat) : Int)) g)
    rw [Bool.and_true, Bool.true_and]
    congr 1
    omega
  | x :: r, w => by
    show (okG w x && okGs (w + 1) (r ++ [g])) = (okG w x && okGs (w + 1) r && okG (w + ((r.length + 1 : Nat) : Int)) g)
    rw [okGs_snoc g r, Bool.and_assoc]
    congr 3
    omega
def Bits (xs : List Int) : Prop := ∀ w : Nat, Bit (xs.getD w 0)
theorem Bits.nth {xs : List Int} (h : Bits xs) (a : Int) : Bit (nth xs a) := h a.toNat
theorem evL_bit {xs : List Int} {m : Int} {g : Gate} (h : Bits xs) (hg : okG m g = true) : Bit (evL xs g) := by
  have b := fun k => h.nth (side g k)
  unfold evL
  rcases okG_word hg with ⟨e, _⟩ | ⟨e, _⟩ | ⟨e, _⟩ | ⟨e, _⟩ | ⟨e, _⟩
  · simp only [e, show (("and" : Str) = "not") = False by decide, show (("and" : Str) = "mux") = False by decide, if_true, if_false]
    exact bit_and (b 0) (b 1)
  · simp only [e, show (("or" : Str) = "and") = False by decide, show (("or" : Str) = "not") = False by decide, show (("or" : Str) = "mux") = False by decide, if_true, if_false]
    split
    · exact b 1
    · exact b 0
  · simp only [e, show (("xor" : Str) = "and") = False by decide, show (("xor" : Str) = "or") = False by decide, show (("xor" : Str) = "not") = False by decide, show (("xor" : Str) = "mux") = False by decide, if_true, if_false]
    split
    · exact .inl rfl
    · exact .inr rfl
  · simp only [e, if_true]
    exact bit_not (b 0)
  · simp only [e, show (("mux" : Str) = "not") = False by decide, if_true, if_false]
    split
    · exact b 1
    · exact b 2
theorem Bits.snoc {xs : List Int} {x : Int} (h : Bits xs) (hx : Bit x) : Bits (xs ++ [x]) := fun w => by
  rw [getD_snoc]
  split
  · exact h w
  · split
    · exact hx
    · exact .inl rfl
theorem Bits.run : ∀ {gs : List Gate} {w : Int} {xs : List Int}, Bits xs → okGs w gs = true → Bits (runL xs gs)
  | [], _, _, h, _ => h
  | g :: r, w, xs, h, hg => by
    unfold okGs at hg
    simp only [Bool.and_eq_true] at hg
    exact Bits.run (gs := r) (h.snoc (evL_bit h hg.1)) hg.2
theorem okGs_take : ∀ {gs : List Gate} {w : Int} (i : Nat), okGs w gs = true → okGs w (gs.take i) = true
  | [], _, _, _ => by simp [okGs]
  | _ :: _, _, 0, _ => rfl
  | g :: r, w, i + 1, h => by
    unfold okGs at h
    simp only [Bool.and_eq_true] at h
    show (okG w g && okGs (w + 1) (r.take i)) = true
    rw [h.1, okGs_take i h.2]
    rfl
theorem Bits.of_all {xs : List Int} (h : ∀ x ∈ xs, Bit x) : Bits xs := fun w => by
  rw [List.getD_eq_getElem?_getD]
  cases e : xs[w]? with
  | none => exact .inl rfl
  | some x => exact h x (List.mem_of_getElem? e)
end M03

/-! # plain mathematics of clauses: no program here -/
namespace M41
open PySem M03
/-! ## sorted sets of ints -/
def ins (x : Int) : List Int → List Int
  | [] => [x]
  | y :: r => if x < y then x :: y :: r else if x = y then y :: r else y :: ins x r
def ordC (c : List Int) : List Int := c.foldr ins []
theorem ins_mem {k x : Int} : ∀ {l : List Int}, k ∈ ins x l ↔ k = x ∨ k ∈ l
  | [] => by simp [ins]
  | y :: r => by
    unfold ins
    split
    · simp
    · split
      · rename_i e
        subst e
        simp
      · simp only [List.mem_cons, ins_mem (l := r)]
        constructor
        · rintro (h | h | h)
          · exact .inr (.inl h)
          · exact .inl h
          · exact .inr (.inr h)
        · rintro (h | h | h)
          · exact .inr (.inl h)
          · exact .inl h
          · exact .inr (.inr h)
theorem ins_sorted {x : Int} : ∀ {l : List Int}, l.Pairwise (· < ·) → (ins x l).Pairwise (· < ·)
  | [], _ => by simp [ins]
  | y :: r, h => by
    obtain ⟨h1, h2⟩ := List.pairwise_cons.mp h
    unfold ins
    split
    · rename_i q
      refine List.pairwise_cons.mpr ⟨fun z hz => ?_, h⟩
      rcases List.mem_cons.mp hz with rfl | hz
      · exact q
      · exact Int.lt_trans q (h1 z hz)
    · split
      · exact h
      · refine List.pairwise_cons.mpr ⟨fun z hz => ?_, ins_sorted h2⟩
        rcases ins_mem.mp hz with rfl | hz
        · omega
        · exact h1 z hz
theorem ordC_mem {k : Int} : ∀ {c : List Int}, k ∈ ordC c ↔ k ∈ c
  | [] => by simp [ordC]
  | x :: r => by
    show k ∈ ins x (ordC r) ↔ _
    rw [ins_mem, ordC_mem (c := r), List.mem_cons]
theorem ordC_sorted : ∀ c : List Int, (ordC c).Pairwise (· < ·)
  | [] => .nil
  | _ :: r => ins_sorted (ordC_sorted r)
theorem sorted_ext : ∀ {l m : List Int}, l.Pairwise (· < ·) → m.Pairwise (· < ·) → (∀ k, k ∈ l ↔ k ∈ m) → l = m
  | [], [], _, _, _ => rfl
  | [], y :: r, _, _, h => absurd ((h y).mpr List.mem_cons_self) (by simp)
  | x :: r, [], _, _, h => absurd ((h x).mp List.mem_cons_self) (by simp)
  | x :: r, y :: t, hl, hm, h => by
    obtain ⟨l1, l2⟩ := List.pairwise_cons.mp hl
    obtain ⟨m1, m2⟩ := List.pairwise_cons.mp hm
    have e : x = y := by
      rcases List.mem_cons.mp ((h x).mp List.mem_cons_self) with q | q
      · exact q
      · rcases List.mem_cons.mp ((h y).mpr List.mem_cons_self) with z | z
        · exact z.symm
        · have := m1 x q
          have := l1 y z
          omega
    subst e
    refine congrArg (x :: ·) (sorted_ext l2 m2 fun k => ⟨fun hk => ?_, fun hk => ?_⟩)
    · rcases List.mem_cons.mp ((h k).mp (List.mem_cons_of_mem _ hk)) with q | q
      · have := l1 k hk
        omega
      · exact q
    · rcases List.mem_cons.mp ((h k).mpr (List.mem_cons_of_mem _ hk)) with q | q
      · have := m1 k hk
        omega
      · exact q
theorem ordC_eq {c ns : List Int} (h : ns.Pairwise (· < ·)) (e : ∀ k, k ∈ ns ↔ k ∈ c) : ns = ordC c := sorted_ext h (ordC_sorted c) fun k => by rw [e, ordC_mem]
theorem ordC_len : ∀ c : List Int, (ordC c).length ≤ c.length
  | [] => Nat.le_refl _
  | x :: r => by
    have il : ∀ l : List Int, (ins x l).length ≤ l.length + 1 := fun l => by
      induction l with
      | nil => exact Nat.le_refl _
      | cons y r ih =>
        unfold ins
        split
        · exact Nat.le_refl _
        · split
          · exact Nat.le_succ _
          · exact Nat.succ_le_succ ih
    exact Nat.le_trans (il _) (Nat.succ_le_succ (ordC_len r))

/-! ## the clauses -/
abbrev Cl := List Int
abbrev Pr := Int × Int × Int
/-- how many wires -/
def wn (n : Net) : Int := w0 n + n.gates.length
def rg (a : Int) (m : Nat) : List Int := (List.range m).map fun (i : Nat) => a + (i : Int)
theorem rg_len (a : Int) (m : Nat) : (rg a m).length = m := by simp [rg]
theorem rg_at {a : Int} {m i : Nat} (h : i < m) : (rg a m).getD i 0 = a + i := by
  unfold rg
  rw [List.getD_eq_getElem?_getD, List.getElem?_map, List.getElem?_range h]
  rfl
def one (f : Net) : List Int := rg 1 (wn f).toNat
def two (f s : Net) : List Int := rg 1 (1 + s.inp).toNat ++ rg (wn f + 1) (wn s - (1 + s.inp)).toNat
def last (f s : Net) : Int := wn f + 1 + s.firsts.length + s.gates.length
def xorC (z x y : Int) : List Cl := [[-z, x, y], [-z, -x, -y], [z, -x, y], [z, x, -y]]
def gateC (ns : List Int) (g : Gate) (z : Int) : List Cl :=
  let x := nth ns (side g 0)
  let y := nth ns (side g 1)
  let o := nth ns (side g 2)
  if g.1 = "not" then [[z, x], [-z, -x]] else if g.1 = "and" then [[-z, x], [-z, y], [z, -x, -y]] else if g.1 = "or" then [[z, -x], [z, -y], [-z, x, y]]
  else if g.1 = "xor" then xorC z x y else [[-x, -y, z], [-x, y, -z], [x, -o, z], [x, o, -z]]
def gatesC (ns : List Int) (b : Int) (gs : List Gate) (i : Nat) : List Cl := ((List.range i).map fun k => gateC ns (gs.getD k ("", [])) (nth ns (b + k))).flatten
theorem gatesC_succ (ns : List Int) (b : Int) (gs : List Gate) (i : Nat) : gatesC ns b gs (i + 1) = gatesC ns b gs i ++ gateC ns (gs.getD i ("", [])) (nth ns (b + i)) := by
  unfold gatesC
  rw [List.range_succ, List.map_append, List.flatten_append]
  simp
def pairC (f s : Net) (r : Pr) : List Cl :=
  let p := nth (one f) (1 + f.inp + r.1)
  let q := nth (two f s) (1 + f.inp + r.2.1)
  if r.2.2 = 0 then [[-p, q], [p, -q]] else [[p, q], [-p, -q]]
def pairsC (f s : Net) (ps : List Pr) : List Cl := (ps.map (pairC f s)).flatten
theorem pairsC_snoc (f s : Net) (ps : List Pr) (r : Pr) : pairsC f s (ps ++ [r]) = pairsC f s ps ++ pairC f s r := by simp [pairsC]
/-- the goal's wires, and whether it is turned -/
def goalW (f s : Net) (ps : List Pr) (w : Str) (k : Int) : Int × Int × Int :=
  if w = "output" then (nth f.outs k, nth s.outs k, 0) else
    let r := ps.getD k.toNat (0, 0, 0)
    (nth f.nexts r.1, nth s.nexts r.2.1, r.2.2)
def headC (f s : Net) (ps : List Pr) : List Cl := [[-1]] ++ pairsC f s ps ++ gatesC (one f) (w0 f) f.gates f.gates.length ++ gatesC (two f s) (w0 s) s.gates s.gates.length
def givenC (f s : Net) (ps : List Pr) (g : Int × Int × Int) : List Cl :=
  headC f s ps ++ xorC (last f s) (nth (one f) g.1) (nth (two f s) g.2.1) ++ [if g.2.2 = 0 then [last f s] else [-(last f s)]]
/-! ## what the numbers of a clause tell -/
def tru (vs : List Int) (x : Int) : Bool := decide (vs.getD x.natAbs 0 = if 0 < x then 1 else 0)
def sat (vs : List Int) (c : Cl) : Bool := c.any (tru vs)
theorem sat_ord (vs : List Int) (c : Cl) : sat vs (ordC c) = sat vs c := by
  unfold sat
  rw [Bool.eq_iff_iff, List.any_eq_true, List.any_eq_true]
  exact ⟨fun ⟨x, h, e⟩ => ⟨x, ordC_mem.mp h, e⟩, fun ⟨x, h, e⟩ => ⟨x, ordC_mem.mpr h, e⟩⟩
/-- a name u above 0 stands for the value v -/
def Nm (vs : List Int) (u v : Int) : Prop := 0 < u ∧ u.toNat < vs.length ∧ vs.getD u.toNat 0 = v ∧ Bit v
theorem Nm.pos {vs : List Int} {u v : Int} (h : Nm vs u v) : tru vs u = decide (v = 1) := by
  obtain ⟨h1, _, h2, _⟩ := h
  unfold tru
  rw [if_pos h1, show u.natAbs = u.toNat by omega, h2]
theorem Nm.neg {vs : List Int} {u v : Int} (h : Nm vs u v) : tru vs (-u) = decide (v = 0) := by
  obtain ⟨h1, _, h2, _⟩ := h
  unfold tru
  rw [if_neg (by omega), show (-u).natAbs = u.toNat by omega, h2]
theorem xor_sat {vs : List Int} {z x y vz vx vy : Int} (hz : Nm vs z vz) (hx : Nm vs x vx) (hy : Nm vs y vy) (e : vz = if vx = vy then 0 else 1) : ∀ c ∈ xorC z x y, sat vs c = true := by
  intro c hc
  unfold xorC at hc
  simp only [List.mem_cons, List.not_mem_nil, or_false] at hc
  rcases hc with rfl | rfl | rfl | rfl <;> unfold sat <;> simp only [List.any_cons, List.any_nil, hz.pos, hz.neg, hx.pos, hx.neg, hy.pos, hy.neg] <;> rcases hx.2.2.2 with a | a <;> rcases hy.2.2.2 with b | b <;> subst a <;> subst b <;> simp [e]
theorem gate_sat {vs ns xs : List Int} {g : Gate} {z : Int} (hg : okG xs.length g = true) (hn : ∀ w, inR xs.length w = true → Nm vs (nth ns w) (nth xs w)) (hz : Nm vs z (evL xs g)) : ∀ c ∈ gateC ns g z, sat vs c = true := by
  intro c hc
  unfold gateC at hc
  have n0 : 0 < g.2.length := by rcases okG_word hg with ⟨_, h⟩ | ⟨_, h⟩ | ⟨_, h⟩ | ⟨_, h⟩ | ⟨_, h⟩ <;> omega
  have X := hn _ (okG_side hg (k := 0) n0)
  have bx := X.2.2.2
  rcases okG_word hg with ⟨e, hl⟩ | ⟨e, hl⟩ | ⟨e, hl⟩ | ⟨e, hl⟩ | ⟨e, hl⟩
  · have Y := hn _ (okG_side hg (k := 1) (by omega))
    have by_ := Y.2.2.2
    unfold evL at hz
    simp only [e, show (("and" : Str) = "not") = False by decide, show (("and" : Str) = "mux") = False by decide, if_true, if_false, List.mem_cons, List.not_mem_nil, or_false] at hc hz
    rcases hc with rfl | rfl | rfl <;> unfold sat <;> simp only [List.any_cons, List.any_nil, hz.pos, hz.neg, X.pos, X.neg, Y.pos, Y.neg] <;> rcases bx with a | a <;> rcases by_ with b | b <;> simp [a, b]
  · have Y := hn _ (okG_side hg (k := 1) (by omega))
    have by_ := Y.2.2.2
    unfold evL at hz
    simp only [e, show (("or" : Str) = "not") = False by decide, show (("or" : Str) = "mux") = False by decide, show (("or" : Str) = "and") = False by decide, if_true, if_false, List.mem_cons, List.not_mem_nil, or_false] at hc hz
    rcases hc with rfl | rfl | rfl <;> unfold sat <;> simp only [List.any_cons, List.any_nil, hz.pos, hz.neg, X.pos, X.neg, Y.pos, Y.neg] <;> rcases bx with a | a <;> rcases by_ with b | b <;> simp [a, b]
  · have Y := hn _ (okG_side hg (k := 1) (by omega))
    unfold evL at hz
    simp only [e, show (("xor" : Str) = "not") = False by decide, show (("xor" : Str) = "mux") = False by decide, show (("xor" : Str) = "and") = False by decide, show (("xor" : Str) = "or") = False by decide, if_true, if_false] at hc hz
    exact xor_sat hz X Y rfl c hc
  · unfold evL at hz
    simp only [e, if_true, List.mem_cons, List.not_mem_nil, or_false] at hc hz
    rcases hc with rfl | rfl <;> unfold sat <;> simp only [List.any_cons, List.any_nil, hz.pos, hz.neg, X.pos, X.neg] <;> rcases bx with a | a <;> simp [a]
  · have Y := hn _ (okG_side hg (k := 1) (by omega))
    have O := hn _ (okG_side hg (k := 2) (by omega))
    have by_ := Y.2.2.2
    have bo := O.2.2.2
    unfold evL at hz
    simp only [e, show (("mux" : Str) = "not") = False by decide, show (("mux" : Str) = "and") = False by decide, show (("mux" : Str) = "or") = False by decide, show (("mux" : Str) = "xor") = False by decide, if_true, if_false, List.mem_cons, List.not_mem_nil, or_false] at hc hz
    rcases hc with rfl | rfl | rfl | rfl <;> unfold sat <;> simp only [List.any_cons, List.any_nil, hz.pos, hz.neg, X.pos, X.neg, Y.pos, Y.neg, O.pos, O.neg] <;> rcases bx with a | a <;> rcases by_ with b | b <;> rcases bo with d | d <;> simp [a, b, d]
/-! ## values of all names -/
def wv (n : Net) (fl ins : List Int) : List Int := runL (0 :: (ins ++ fl)) n.gates
def valsC (f s : Net) (fl gl ins : List Int) (xy : Int) : List Int := 0 :: (wv f fl ins ++ (wv s gl ins).drop (1 + s.inp).toNat ++ [xy])
theorem getD_app (xs ys : List Int) (w : Nat) : (xs ++ ys).getD w 0 = if w < xs.length then xs.getD w 0 else ys.getD (w - xs.length) 0 := by
  simp only [List.getD_eq_getElem?_getD, List.getElem?_append]
  split <;> rfl
theorem getD_drop (xs : List Int) (m w : Nat) : (xs.drop m).getD w 0 = xs.getD (m + w) 0 := by
  simp only [List.getD_eq_getElem?_getD, List.getElem?_drop]
theorem runL_pre : ∀ (gs : List Gate) (xs : List Int) (w : Nat), w < xs.length → (runL xs gs).getD w 0 = xs.getD w 0
  | [], _, _, _ => rfl
  | g :: r, xs, w, h => by
    show (runL (xs ++ [evL xs g]) r).getD w 0 = _
    rw [runL_pre r _ w (by rw [List.length_append]; omega), getD_snoc, if_pos h]
theorem runL_app : ∀ (a b : List Gate) (xs : List Int), runL xs (a ++ b) = runL (runL xs a) b
  | [], _, _ => rfl
  | _ :: r, b, xs => runL_app r b _
theorem runL_cut {gs : List Gate} {k : Nat} (xs : List Int) (h : k < gs.length) : runL xs gs = runL (runL xs (gs.take k) ++ [evL (runL xs (gs.take k)) (gs.getD k ("", []))]) (gs.drop (k + 1)) := by
  have e : gs = gs.take k ++ (gs.getD k ("", []) :: gs.drop (k + 1)) := by
    rw [List.getD_eq_getElem?_getD, List.getElem?_eq_getElem h, Option.getD_some, ← List.drop_eq_getElem_cons h, List.take_append_drop]
  conv => lhs; rw [e]
  rw [runL_app]
  rfl
/-- inputs and flip-flops that fit -/
structure Row (n : Net) (fl ins : List Int) : Prop where
  ok : okNet n = true
  li : (ins.length : Int) = n.inp
  lf : fl.length = n.firsts.length
  bi : Bits ins
  bf : Bits fl
theorem Row.len0 {n : Net} {fl ins : List Int} (h : Row n fl ins) : ((0 :: (ins ++ fl)).length : Int) = w0 n := by
  have := h.li
  have := h.lf
  unfold w0
  simp only [List.length_cons, List.length_append]
  omega
theorem Row.len {n : Net} {fl ins : List Int} (h : Row n fl ins) : ((wv n fl ins).length : Int) = wn n := by
  have := h.len0
  unfold wv wn
  rw [runL_len]
  omega
theorem Row.bits0 {n : Net} {fl ins : List Int} (h : Row n fl ins) : Bits (0 :: (ins ++ fl)) := fun w => by
  cases w with
  | zero => exact .inl rfl
  | succ w =>
    show Bit ((ins ++ fl).getD w 0)
    rw [getD_app]
    split
    · exact h.bi w
    · exact h.bf _
theorem Row.bits {n : Net} {fl ins : List Int} (h : Row n fl ins) : Bits (wv n fl ins) := Bits.run h.bits0 (okNet_parts h.ok).2.1
theorem Row.state {n : Net} {fl ins : List Int} (h : Row n fl ins) {p : Int} (h0 : 0 ≤ p) (h1 : p < n.firsts.length) : nth (wv n fl ins) (1 + n.inp + p) = fl.getD p.toNat 0 := by
  have hi := h.li
  have hf := h.lf
  unfold nth wv
  rw [runL_pre _ _ _ (by simp only [List.length_cons, List.length_append]; omega), show (1 + n.inp + p).toNat = (ins.length + p.toNat) + 1 by omega]
  show (ins ++ fl).getD (ins.length + p.toNat) 0 = _
  rw [getD_app, if_neg (by omega), show ins.length + p.toNat - ins.length = p.toNat by omega]
section
variable {f s : Net} {fl gl ins : List Int} {xy : Int}
theorem vals_len (hf : Row f fl ins) (hs : Row s gl ins) : ((valsC f s fl gl ins xy).length : Int) = last f s + 1 := by
  have a := hf.len
  have b := hs.len
  have c := (okNet_parts hs.ok).1
  unfold valsC last
  unfold wn w0 at *
  simp only [List.length_cons, List.length_append, List.length_drop, List.length_nil]
  omega
theorem one_at {w : Int} (h : inR (wn f) w = true) : nth (one f) w = w + 1 := by
  unfold inR at h
  simp only [Bool.and_eq_true, decide_eq_true_eq] at h
  unfold nth one
  rw [rg_at (by omega)]
  omega
theorem one_nm (hf : Row f fl ins) {w : Int} (h : inR (wn f) w = true) : Nm (valsC f s fl gl ins xy) (nth (one f) w) (nth (wv f fl ins) w) := by
  rw [one_at h]
  unfold inR at h
  simp only [Bool.and_eq_true, decide_eq_true_eq] at h
  have a := hf.len
  refine ⟨by omega, ?_, ?_, hf.bits _⟩
  · unfold valsC
    simp only [List.length_cons, List.length_append]
    omega
  · unfold valsC
    rw [show (w + 1).toNat = w.toNat + 1 by omega]
    show ((wv f fl ins ++ _) ++ _).getD w.toNat 0 = _
    rw [getD_app, if_pos (by rw [List.length_append]; omega), getD_app, if_pos (by omega)]
    rfl
theorem two_nm (hf : Row f fl ins) (hs : Row s gl ins) {w : Int} (h : inR (wn s) w = true) : Nm (valsC f s fl gl ins xy) (nth (two f s) w) (nth (wv s gl ins) w) := by
  have h' := h
  unfold inR at h
  simp only [Bool.and_eq_true, decide_eq_true_eq] at h
  have a := hf.len
  have b := hs.len
  have i0 := (okNet_parts hs.ok).1
  have e1 := hf.li
  have e2 := hs.li
  by_cases c : w < 1 + s.inp
  · have n2 : nth (two f s) w = w + 1 := by
      unfold nth two
      rw [getD_app, rg_len, if_pos (by omega), rg_at (by omega)]
      omega
    have hw : inR (wn f) w = true := by
      unfold inR
      rw [decide_eq_true h.1, decide_eq_true (show w < wn f by unfold wn w0; omega)]
      rfl
    have q := one_nm (s := s) (gl := gl) (xy := xy) hf hw
    rw [one_at hw] at q
    rw [n2]
    have ev : nth (wv s gl ins) w = nth (wv f fl ins) w := by
      unfold nth wv
      rw [runL_pre _ _ _ (by simp only [List.length_cons, List.length_append]; omega), runL_pre _ _ _ (by simp only [List.length_cons, List.length_append]; omega)]
      cases hwt : w.toNat with
      | zero => rfl
      | succ j =>
        show (ins ++ gl).getD j 0 = (ins ++ fl).getD j 0
        rw [getD_app, getD_app]
        have z : j < ins.length := by omega
        rw [if_pos z, if_pos z]
    rw [ev]
    exact q
  · have n2 : nth (two f s) w = wn f + 1 + (w - (1 + s.inp)) := by
      unfold nth two
      rw [getD_app, rg_len, if_neg (by omega), rg_at (by omega)]
      omega
    rw [n2]
    refine ⟨by omega, ?_, ?_, hs.bits _⟩
    · have q := vals_len (xy := xy) hf hs
      unfold last at q
      unfold wn w0 at *
      omega
    · unfold valsC
      rw [show (wn f + 1 + (w - (1 + s.inp))).toNat = ((wv f fl ins).length + (w - (1 + s.inp)).toNat) + 1 by omega]
      show ((wv f fl ins ++ (wv s gl ins).drop (1 + s.inp).toNat) ++ [xy]).getD _ 0 = _
      rw [getD_app, if_pos (by rw [List.length_append, List.length_drop]; omega), getD_app, if_neg (by omega), getD_drop]
      unfold nth
      congr 1
      omega
theorem last_nm (hf : Row f fl ins) (hs : Row s gl ins) (hx : Bit xy) : Nm (valsC f s fl gl ins xy) (last f s) xy := by
  have q := vals_len (xy := xy) hf hs
  have a := hf.len
  have b := hs.len
  have i0 := (okNet_parts hs.ok).1
  have p0 := hf.li
  have lp : 0 < last f s := by unfold last wn w0; omega
  refine ⟨lp, by omega, ?_, hx⟩
  unfold valsC
  have e : (last f s).toNat = (wv f fl ins ++ (wv s gl ins).drop (1 + s.inp).toNat).length + 1 := by
    rw [List.length_append, List.length_drop]
    unfold last
    unfold wn w0 at *
    omega
  rw [e]
  show ((wv f fl ins ++ (wv s gl ins).drop (1 + s.inp).toNat) ++ [xy]).getD _ 0 = xy
  rw [getD_app, if_neg (by omega), Nat.sub_self]
  rfl
theorem gates_sat {n : Net} {vs ns : List Int} (h : Row n fl ins) (hn : ∀ w, inR (wn n) w = true → Nm vs (nth ns w) (nth (wv n fl ins) w)) : ∀ c ∈ gatesC ns (w0 n) n.gates n.gates.length, sat vs c = true := by
  intro c hc
  unfold gatesC at hc
  obtain ⟨l, hl, hc⟩ := List.mem_flatten.mp hc
  obtain ⟨k, hk, rfl⟩ := List.mem_map.mp hl
  have hk := List.mem_range.mp hk
  have l0 := h.len0
  have hok := (okNet_parts h.ok).2.1
  have pl : ((runL (0 :: (ins ++ fl)) (n.gates.take k)).length : Int) = w0 n + k := by
    rw [runL_len, List.length_take]
    omega
  have cut := runL_cut (0 :: (ins ++ fl)) hk
  have pre : ∀ w, inR (runL (0 :: (ins ++ fl)) (n.gates.take k)).length w = true → nth (wv n fl ins) w = nth (runL (0 :: (ins ++ fl)) (n.gates.take k)) w := fun w hw => by
    unfold inR at hw
    simp only [Bool.and_eq_true, decide_eq_true_eq] at hw
    unfold nth wv
    rw [cut, runL_pre _ _ _ (by rw [List.length_append]; omega), getD_app, if_pos (by omega)]
  have hg : okG (runL (0 :: (ins ++ fl)) (n.gates.take k)).length (n.gates.getD k ("", [])) = true := by
    rw [pl]
    exact okGs_get hok (by rw [List.getD_eq_getElem?_getD, List.getElem?_eq_getElem hk]; rfl)
  refine gate_sat (vs := vs) (xs := runL (0 :: (ins ++ fl)) (n.gates.take k)) hg (fun w hw => ?_) ?_ c hc
  · rw [← pre w hw]
    refine hn w ?_
    unfold inR at hw ⊢
    simp only [Bool.and_eq_true, decide_eq_true_eq] at hw ⊢
    unfold wn
    omega
  · have q := hn (w0 n + k) (by
      have i0 := (okNet_parts h.ok).1
      unfold inR wn
      simp only [Bool.and_eq_true, decide_eq_true_eq]
      unfold w0
      omega)
    have ev : nth (wv n fl ins) (w0 n + k) = evL (runL (0 :: (ins ++ fl)) (n.gates.take k)) (n.gates.getD k ("", [])) := by
      unfold nth wv
      rw [cut, runL_pre _ _ _ (by rw [List.length_append, List.length_singleton]; omega), getD_snoc, if_neg (by omega), if_pos (by omega)]
    rw [ev] at q
    exact q
/-- pairs that are in their bounds -/
def okPr (f s : Net) (r : Pr) : Prop := 0 ≤ r.1 ∧ r.1 < f.firsts.length ∧ 0 ≤ r.2.1 ∧ r.2.1 < s.firsts.length ∧ (r.2.2 = 0 ∨ r.2.2 = 1)
def xorB (x y : Int) : Int := if x = y then 0 else 1
theorem xorB_bit (x y : Int) : Bit (xorB x y) := by
  unfold xorB
  split
  · exact .inl rfl
  · exact .inr rfl
theorem pairs_sat (hf : Row f fl ins) (hs : Row s gl ins) (hi : f.inp = s.inp) {ps : List Pr} (hp : ∀ r ∈ ps, okPr f s r) (ha : ∀ r ∈ ps, xorB (fl.getD r.1.toNat 0) (gl.getD r.2.1.toNat 0) = r.2.2) : ∀ c ∈ pairsC f s ps, sat (valsC f s fl gl ins xy) c = true := by
  intro c hc
  obtain ⟨l, hl, hc⟩ := List.mem_flatten.mp hc
  obtain ⟨r, hr, rfl⟩ := List.mem_map.mp hl
  obtain ⟨p0, p1, q0, q1, ht⟩ := hp r hr
  have e := ha r hr
  have i0 := (okNet_parts hf.ok).1
  have P := one_nm (s := s) (gl := gl) (xy := xy) hf (w := 1 + f.inp + r.1) (by unfold inR wn w0; simp only [Bool.and_eq_true, decide_eq_true_eq]; omega)
  have Q := two_nm (xy := xy) hf hs (w := 1 + f.inp + r.2.1) (by unfold inR wn w0; simp only [Bool.and_eq_true, decide_eq_true_eq]; omega)
  rw [hf.state p0 p1] at P
  have qs := hs.state q0 q1
  rw [← hi] at qs
  rw [qs] at Q
  unfold pairC at hc
  unfold xorB at e
  have bx := P.2.2.2
  have by_ := Q.2.2.2
  dsimp only at hc
  split at hc
  · rename_i z
    rw [z] at e
    simp only [List.mem_cons, List.not_mem_nil, or_false] at hc
    rcases hc with rfl | rfl <;> unfold sat <;> simp only [List.any_cons, List.any_nil, P.pos, P.neg, Q.pos, Q.neg] <;> rcases bx with a | a <;> rcases by_ with b | b <;> rw [a, b] at e ⊢ <;> simp at e ⊢
  · rename_i z
    have z1 : r.2.2 = 1 := by
      rcases ht with h | h
      · exact absurd h z
      · exact h
    rw [z1] at e
    simp only [List.mem_cons, List.not_mem_nil, or_false] at hc
    rcases hc with rfl | rfl <;> unfold sat <;> simp only [List.any_cons, List.any_nil, P.pos, P.neg, Q.pos, Q.neg] <;> rcases bx with a | a <;> rcases by_ with b | b <;> rw [a, b] at e ⊢ <;> simp at e ⊢
theorem head_sat (hf : Row f fl ins) (hs : Row s gl ins) (hi : f.inp = s.inp) {ps : List Pr} (hp : ∀ r ∈ ps, okPr f s r) (ha : ∀ r ∈ ps, xorB (fl.getD r.1.toNat 0) (gl.getD r.2.1.toNat 0) = r.2.2) : ∀ c ∈ headC f s ps, sat (valsC f s fl gl ins xy) c = true := by
  intro c hc
  unfold headC at hc
  rcases List.mem_append.mp hc with hc | hc
  · rcases List.mem_append.mp hc with hc | hc
    · rcases List.mem_append.mp hc with hc | hc
      · rw [List.mem_singleton.mp hc]
        have i0 := (okNet_parts hf.ok).1
        have q := one_nm (s := s) (gl := gl) (xy := xy) hf (w := 0) (by unfold inR wn w0; simp only [Bool.and_eq_true, decide_eq_true_eq]; omega)
        have e : nth (wv f fl ins) 0 = 0 := by
          unfold nth wv
          rw [runL_pre _ _ _ (by simp)]
          rfl
        rw [one_at (by unfold inR wn w0; simp only [Bool.and_eq_true, decide_eq_true_eq]; omega), e] at q
        have z := q.neg
        unfold sat
        rw [List.any_cons, List.any_nil]
        exact (Bool.or_false _).trans z
      · exact pairs_sat hf hs hi hp ha c hc
    · exact gates_sat hf (fun w hw => one_nm hf hw) c hc
  · exact gates_sat hs (fun w hw => two_nm hf hs hw) c hc
/-- all clauses but the last one hold; the last one holds if the goal is missed -/
theorem given_sat (hf : Row f fl ins) (hs : Row s gl ins) (hi : f.inp = s.inp) {ps : List Pr} {g : Int × Int × Int} (hp : ∀ r ∈ ps, okPr f s r) (ha : ∀ r ∈ ps, xorB (fl.getD r.1.toNat 0) (gl.getD r.2.1.toNat 0) = r.2.2)
    (gx : inR (wn f) g.1 = true) (gy : inR (wn s) g.2.1 = true) (gt : g.2.2 = 0 ∨ g.2.2 = 1) (hx : xy = xorB (nth (wv f fl ins) g.1) (nth (wv s gl ins) g.2.1)) :
    (givenC f s ps g).map (sat (valsC f s fl gl ins xy)) = List.replicate ((headC f s ps).length + 4) true ++ [decide (xy ≠ g.2.2)] := by
  have hb : Bit xy := hx ▸ xorB_bit _ _
  have Z := last_nm hf hs hb
  have X := one_nm (s := s) (gl := gl) (xy := xy) hf gx
  have Y := two_nm (xy := xy) hf hs gy
  unfold givenC
  rw [List.map_append, List.map_append]
  have e1 : (headC f s ps).map (sat (valsC f s fl gl ins xy)) = List.replicate (headC f s ps).length true := by
    refine List.eq_replicate_iff.mpr ⟨List.length_map _, fun b hb => ?_⟩
    obtain ⟨c, hc, rfl⟩ := List.mem_map.mp hb
    exact head_sat hf hs hi hp ha c hc
  have e2 : (xorC (last f s) (nth (one f) g.1) (nth (two f s) g.2.1)).map (sat (valsC f s fl gl ins xy)) = List.replicate 4 true := by
    refine List.eq_replicate_iff.mpr ⟨by simp [xorC], fun b hb => ?_⟩
    obtain ⟨c, hc, rfl⟩ := List.mem_map.mp hb
    exact xor_sat Z X Y hx c hc
  rw [e1, e2, List.replicate_append_replicate]
  congr 1
  rcases gt with h | h
  · rw [h, if_pos rfl]
    simp only [List.map_cons, List.map_nil, sat, List.any_cons, List.any_nil, Z.pos, Bool.or_false]
    rcases hb with b | b <;> simp [b]
  · rw [h, if_neg (by decide)]
    simp only [List.map_cons, List.map_nil, sat, List.any_cons, List.any_nil, Z.neg, Bool.or_false]
    rcases hb with b | b <;> simp [b]
end
end M41

/-! # all numbers of the clauses have their places: no program here -/
namespace M41
open PySem M03
def Bd (L : Int) (x : Int) : Prop := 1 ≤ (x.natAbs : Int) ∧ (x.natAbs : Int) ≤ L
theorem Bd.neg {L x : Int} (h : Bd L x) : Bd L (-x) := by
  unfold Bd at *
  rwa [Int.natAbs_neg]
theorem Bd.of {L x : Int} (h0 : 1 ≤ x) (h1 : x ≤ L) : Bd L x := by
  unfold Bd
  omega
def Bds (L : Int) (cs : List Cl) : Prop := ∀ c ∈ cs, ∀ x ∈ c, Bd L x
theorem Bds.app {L : Int} {a b : List Cl} (ha : Bds L a) (hb : Bds L b) : Bds L (a ++ b) := fun c hc => by
  rcases List.mem_append.mp hc with hc | hc
  · exact ha c hc
  · exact hb c hc
theorem bds_xor {L z x y : Int} (hz : Bd L z) (hx : Bd L x) (hy : Bd L y) : Bds L (xorC z x y) := by
  intro c hc k hk
  unfold xorC at hc
  simp only [List.mem_cons, List.not_mem_nil, or_false] at hc
  rcases hc with rfl | rfl | rfl | rfl <;> simp only [List.mem_cons, List.not_mem_nil, or_false] at hk <;> rcases hk with rfl | rfl | rfl <;> first | exact hz | exact hx | exact hy | exact hz.neg | exact hx.neg | exact hy.neg
theorem bds_gate {L m z : Int} {ns : List Int} {g : Gate} (hg : okG m g = true) (hn : ∀ w, inR m w = true → Bd L (nth ns w)) (hz : Bd L z) : Bds L (gateC ns g z) := by
  have n0 : 0 < g.2.length := by rcases okG_word hg with ⟨_, h⟩ | ⟨_, h⟩ | ⟨_, h⟩ | ⟨_, h⟩ | ⟨_, h⟩ <;> omega
  have X := hn _ (okG_side hg (k := 0) n0)
  intro c hc k hk
  unfold gateC at hc
  rcases okG_word hg with ⟨e, hl⟩ | ⟨e, hl⟩ | ⟨e, hl⟩ | ⟨e, hl⟩ | ⟨e, hl⟩
  · have Y := hn _ (okG_side hg (k := 1) (by omega))
    simp only [e, show (("and" : Str) = "not") = False by decide, if_true, if_false, List.mem_cons, List.not_mem_nil, or_false] at hc
    rcases hc with rfl | rfl | rfl <;> simp only [List.mem_cons, List.not_mem_nil, or_false] at hk <;> (first | rcases hk with rfl | rfl | rfl | skip) <;> first | exact hz | exact X | exact Y | exact hz.neg | exact X.neg | exact Y.neg | (rcases hk with rfl | rfl <;> first | exact hz | exact X | exact Y | exact hz.neg | exact X.neg | exact Y.neg)
  · have Y := hn _ (okG_side hg (k := 1) (by omega))
    simp only [e, show (("or" : Str) = "not") = False by decide, show (("or" : Str) = "and") = False by decide, if_true, if_false, List.mem_cons, List.not_mem_nil, or_false] at hc
    rcases hc with rfl | rfl | rfl <;> simp only [List.mem_cons, List.not_mem_nil, or_false] at hk <;> (first | rcases hk with rfl | rfl | rfl | skip) <;> first | exact hz | exact X | exact Y | exact hz.neg | exact X.neg | exact Y.neg | (rcases hk with rfl | rfl <;> first | exact hz | exact X | exact Y | exact hz.neg | exact X.neg | exact Y.neg)
  · have Y := hn _ (okG_side hg (k := 1) (by omega))
    simp only [e, show (("xor" : Str) = "not") = False by decide, show (("xor" : Str) = "and") = False by decide, show (("xor" : Str) = "or") = False by decide, if_true, if_false] at hc
    exact bds_xor hz X Y c hc k hk
  · simp only [e, if_true, List.mem_cons, List.not_mem_nil, or_false] at hc
    rcases hc with rfl | rfl <;> simp only [List.mem_cons, List.not_mem_nil, or_false] at hk <;> rcases hk with rfl | rfl <;> first | exact hz | exact X | exact hz.neg | exact X.neg
  · have Y := hn _ (okG_side hg (k := 1) (by omega))
    have O := hn _ (okG_side hg (k := 2) (by omega))
    simp only [e, show (("mux" : Str) = "not") = False by decide, show (("mux" : Str) = "and") = False by decide, show (("mux" : Str) = "or") = False by decide, show (("mux" : Str) = "xor") = False by decide, if_true, if_false, List.mem_cons, List.not_mem_nil, or_false] at hc
    rcases hc with rfl | rfl | rfl | rfl <;> simp only [List.mem_cons, List.not_mem_nil, or_false] at hk <;> rcases hk with rfl | rfl | rfl <;> first | exact hz | exact X | exact Y | exact O | exact hz.neg | exact X.neg | exact Y.neg | exact O.neg
section
variable {f s : Net} {fl gl ins : List Int}
theorem nm_bd {vs : List Int} {u v L : Int} (h : Nm vs u v) (hl : (vs.length : Int) ≤ L + 1) : Bd L u := Bd.of (by have := h.1; omega) (by have := h.1; have := h.2.1; omega)
theorem given_bds (hf : Row f fl ins) (hs : Row s gl ins) (hi : f.inp = s.inp) {ps : List Pr} {g : Int × Int × Int} (hp : ∀ r ∈ ps, okPr f s r) (gx : inR (wn f) g.1 = true) (gy : inR (wn s) g.2.1 = true) : Bds (last f s) (givenC f s ps g) := by
  have vl := vals_len (xy := 0) hf hs
  have B1 : ∀ w, inR (wn f) w = true → Bd (last f s) (nth (one f) w) := fun w hw => nm_bd (one_nm (s := s) (gl := gl) (xy := 0) hf hw) (by omega)
  have B2 : ∀ w, inR (wn s) w = true → Bd (last f s) (nth (two f s) w) := fun w hw => nm_bd (two_nm (xy := 0) hf hs hw) (by omega)
  have BZ : Bd (last f s) (last f s) := nm_bd (last_nm (xy := 0) hf hs (.inl rfl)) (by omega)
  have i0 := (okNet_parts hf.ok).1
  have GB : ∀ {n : Net} {ns : List Int}, okNet n = true → (∀ w, inR (wn n) w = true → Bd (last f s) (nth ns w)) → Bds (last f s) (gatesC ns (w0 n) n.gates n.gates.length) := fun {n ns} ok hn c hc => by
    obtain ⟨l, hl, hc⟩ := List.mem_flatten.mp hc
    obtain ⟨k, hk, rfl⟩ := List.mem_map.mp hl
    have hk := List.mem_range.mp hk
    have j0 := (okNet_parts ok).1
    have hg := okGs_get (i := k) (okNet_parts ok).2.1 (List.getElem?_eq_getElem hk)
    have e : n.gates.getD k ("", []) = n.gates[k] := by rw [List.getD_eq_getElem?_getD, List.getElem?_eq_getElem hk]; rfl
    rw [e] at hc
    refine bds_gate hg (fun w hw => hn w ?_) (hn _ ?_) c hc
    · unfold inR wn at *
      simp only [Bool.and_eq_true, decide_eq_true_eq] at *
      omega
    · unfold inR wn w0
      simp only [Bool.and_eq_true, decide_eq_true_eq]
      omega
  unfold givenC headC
  refine Bds.app (Bds.app (Bds.app (Bds.app (Bds.app ?_ ?_) (GB hf.ok B1)) (GB hs.ok B2)) (bds_xor BZ (B1 _ gx) (B2 _ gy))) ?_
  · intro c hc x hx
    rw [List.mem_singleton.mp hc, List.mem_singleton] at hx
    rw [hx]
    have := B1 0 (by unfold inR wn w0; simp only [Bool.and_eq_true, decide_eq_true_eq]; omega)
    unfold Bd at BZ ⊢
    omega
  · intro c hc
    obtain ⟨l, hl, hc⟩ := List.mem_flatten.mp hc
    obtain ⟨r, hr, rfl⟩ := List.mem_map.mp hl
    obtain ⟨p0, p1, q0, q1, _⟩ := hp r hr
    have P := B1 (1 + f.inp + r.1) (by unfold inR wn w0; simp only [Bool.and_eq_true, decide_eq_true_eq]; omega)
    have Q := B2 (1 + f.inp + r.2.1) (by unfold inR wn w0; simp only [Bool.and_eq_true, decide_eq_true_eq]; omega)
    unfold pairC at hc
    dsimp only at hc
    intro x hx
    split at hc <;> simp only [List.mem_cons, List.not_mem_nil, or_false] at hc <;> rcases hc with rfl | rfl <;> simp only [List.mem_cons, List.not_mem_nil, or_false] at hx <;> rcases hx with rfl | rfl <;> first | exact P | exact Q | exact P.neg | exact Q.neg
  · intro c hc x hx
    rw [List.mem_singleton.mp hc] at hx
    split at hx <;> rw [List.mem_singleton] at hx <;> rw [hx]
    · exact BZ
    · exact BZ.neg
end
end M41



set_option pp.maxSteps 1500
namespace Q41
open PySem L2 G M03 M41
open C8 (Cal Met Mak pe_c pe_mk pe_mt pe_mt0 pe_gc pss_cut tCut)
def intsD (l : List Int) : List PyData := l.map PyData.int
def gateD (g : Gate) : PyData := .tuple (.str g.1 :: intsD g.2)
def netD (n : Net) : PyData := .tuple [.int n.inp, .list (intsD n.firsts), .list (intsD n.nexts), .list (n.gates.map gateD), .list (intsD n.outs)]
def clD (c : Cl) : PyData := .tuple (intsD c)
def Small (n : Net) : Prop := 0 ≤ n.inp ∧ n.inp ≤ 100 ∧ n.firsts.length ≤ 100 ∧ n.nexts.length ≤ 100 ∧ n.gates.length ≤ 100 ∧ n.outs.length ≤ 100
theorem ints_len (l : List Int) : (intsD l).length = l.length := by simp [intsD]
section
variable {P : Program} {w : World} {K : PySem.W.Frag} {mg : Str → Option Value} {base : Heap}
theorem net_dp {H : Hp} {v : V} {n : Net} (h : Dp K H v (netD n)) : ∃ (a af an ag ao : Addr) (xg : List V), v = .ref a ∧ SqT K H a [.int n.inp, .ref af, .ref an, .ref ag, .ref ao] ∧ SqL K H af (n.firsts.map V.int) ∧ SqL K H an (n.nexts.map V.int) ∧
    SqL K H ag xg ∧ DpAll K H xg (n.gates.map gateD) ∧ SqL K H ao (n.outs.map V.int) := by
  obtain ⟨a, xs, rfl, hx, hxs⟩ := dp_tup h
  obtain ⟨v0, v1, v2, v3, v4, rfl, d0, d1, d2, d3, d4⟩ := dps5 hxs
  cases dp_int d0
  obtain ⟨af, xf, rfl, hf, hfs⟩ := dp_lst d1
  obtain ⟨an, xn, rfl, hn, hns⟩ := dp_lst d2
  obtain ⟨ag, xg, rfl, hg, hgs⟩ := dp_lst d3
  obtain ⟨ao, xo, rfl, ho, hos⟩ := dp_lst d4
  cases dps_ints_of hfs
  cases dps_ints_of hns
  cases dps_ints_of hos
  exact ⟨a, af, an, ag, ao, xg, rfl, hx, hf, hn, hg, hgs, ho⟩
/-! ### put_in_order, _law_clause -/
def spOrd (K : PySem.W.Frag) : Sp := fun vs H Q _ => ∃ (v : V) (c : Cl), vs = [v] ∧ Dp K H v (clD c) ∧ c.length ≤ 60 ∧ ∀ (u : V) (H' : Hp), Same H H' → Dp K H' u (clD (ordC c)) → Q u H'
theorem ok_ord {f : Addr} {fd : FuncData} (F : Fun K "put_in_order" "put_in_order" s_put_in_order f fd) (T : Txt K mg) : FnOk P w K mg base CX0 1 f fd ["clause"] (spOrd K) := by
  refine F.ok sc_put_in_order (fun vs H Q E h => ?_) (fun cdv A outer s H vs Q E hr h => ?_)
  · obtain ⟨v, c, rfl, _⟩ := h
    rfl
  · obtain ⟨v, c, rfl, hd, hl, k⟩ := h
    obtain ⟨a, xs, rfl, hx, hxs⟩ := dp_tup hd
    cases dps_ints_of hxs
    refine ⟨_, (pss_one (ps_ret (pe_callTy call_tuple_of (by rfl) T.b_tuple boot_tuple' (pa_cons (pe_callB (cr_sortedSet rfl) (by rfl) T.b_sorted boot_sorted' (pa_cons (pe_callTy (cr_setT rfl) (by rfl) T.b_set boot_set' (pa_cons (pv 0) pa_nil)) pa_nil)) pa_nil)))), ?_⟩
    refine ⟨_, rfl, a, c, rfl, hx, by omega, fun m q hm hq => ⟨q, _, m, rfl, upd_same, by omega, fun ns p so mem ln hp => ⟨p, _, rfl, .inl ⟨SqL.of upd_same, fun t nt => ?_⟩⟩⟩⟩
    have e : ns = ordC c := ordC_eq so fun k => by rw [mem k, decide_eq_true_eq]
    subst e
    exact k _ _ (((same_new hq).trans (same_new hp)).trans (same_new nt)) (.tup (SqT.of upd_same) (dps_ints _))
theorem ok_lord {f : Addr} {fd : FuncData} (F : Fun K "_law_clause" "_law_clause" s__law_clause f fd) (T : Txt K mg) : FnOk P w K mg base CX0 1 f fd ["numbers"] (spOrd K) := by
  refine F.ok sc__law_clause (fun vs H Q E h => ?_) (fun cdv A outer s H vs Q E hr h => ?_)
  · obtain ⟨v, c, rfl, _⟩ := h
    rfl
  · obtain ⟨v, c, rfl, hd, hl, k⟩ := h
    obtain ⟨a, xs, rfl, hx, hxs⟩ := dp_tup hd
    cases dps_ints_of hxs
    refine ⟨_, (pss_one (ps_ret (pe_callTy call_tuple_of (by rfl) T.b_tuple boot_tuple' (pa_cons (pe_callB (cr_sortedSet rfl) (by rfl) T.b_sorted boot_sorted' (pa_cons (pe_callTy (cr_setT rfl) (by rfl) T.b_set boot_set' (pa_cons (pv 0) pa_nil)) pa_nil)) pa_nil)))), ?_⟩
    refine ⟨_, rfl, a, c, rfl, hx, by omega, fun m q hm hq => ⟨q, _, m, rfl, upd_same, by omega, fun ns p so mem ln hp => ⟨p, _, rfl, .inl ⟨SqL.of upd_same, fun t nt => ?_⟩⟩⟩⟩
    have e : ns = ordC c := ordC_eq so fun k => by rw [mem k, decide_eq_true_eq]
    subst e
    exact k _ _ (((same_new hq).trans (same_new hp)).trans (same_new nt)) (.tup (SqT.of upd_same) (dps_ints _))
/-! ### wires and names -/
def spWires (K : PySem.W.Frag) : Sp := fun vs H Q _ => ∃ (v : V) (n : Net), vs = [v] ∧ Dp K H v (netD n) ∧ Q (.int (wn n)) H
theorem ok_wires {f : Addr} {fd : FuncData} (F : Fun K "wires_of" "wires_of" s_wires_of f fd) (T : Txt K mg) : FnOk P w K mg base CX0 1 f fd ["net"] (spWires K) := by
  refine F.ok sc_wires_of (fun vs H Q E h => ?_) (fun cdv A outer s H vs Q E hr h => ?_)
  · obtain ⟨v, n, rfl, _⟩ := h
    rfl
  · obtain ⟨v, n, rfl, hd, k⟩ := h
    obtain ⟨a, af, an, ag, ao, xg, rfl, hx, hF, hN, hG, hGs, hO⟩ := net_dp hd
    have gl : xg.length = n.gates.length := by rw [dps_len hGs, List.length_map]
    refine ⟨_, (pss_one (ps_ret (pe_op op_add (pe_op op_add (pe_op op_add pe_int (pe_ix ix_tup (pv 0) pe_int (fun _ _ => rfl))) (pe_callB call_len_seq (by rfl) T.b_len boot_len' (pa_cons (pe_ix ix_tup (pv 0) pe_int (fun _ _ => rfl)) pa_nil))) (pe_callB call_len_seq (by rfl) T.b_len boot_len' (pa_cons (pe_ix ix_tup (pv 0) pe_int (fun _ _ => rfl)) pa_nil))))), ?_⟩
    refine ⟨_, rfl, a, _, 0, _, rfl, rfl, hx, atI_nat (j := 0) rfl, _, _, rfl, rfl, ?_⟩
    refine ⟨_, rfl, a, _, 1, _, rfl, rfl, hx, atI_nat (j := 1) rfl, af, _, rfl, .inl hF, _, _, rfl, rfl, ?_⟩
    refine ⟨_, rfl, a, _, 3, _, rfl, rfl, hx, atI_nat (j := 3) rfl, ag, _, rfl, .inl hG, _, _, rfl, rfl, ?_⟩
    rw [List.length_map, gl]
    exact k
theorem rgV_rg (a : Int) (b : Int) : rgV a b = (rg a (b - a).toNat).map V.int := by
  unfold rgV rg
  rw [List.map_map]
  rfl
def spNames (K : PySem.W.Frag) : Sp := fun vs H Q _ => ∃ (v : V) (n : Net), vs = [v] ∧ Dp K H v (netD n) ∧ Small n ∧ ∀ p, H p = none → Q (.ref p) (upd H p (.lst ((one n).map V.int)))
theorem wn_small {n : Net} (h : Small n) : 1 ≤ wn n ∧ wn n ≤ 301 := by
  obtain ⟨a, b, c, d, e, g⟩ := h
  unfold wn w0
  omega
theorem ok_names {f : Addr} {fd : FuncData} (F : Fun K "first_names" "first_names" s_first_names f fd) (T : Txt K mg) (c_wires_of : Cal P w K mg base 1 "wires_of" (spWires K) []) : FnOk P w K mg base CX0 2 f fd ["net"] (spNames K) := by
  refine F.ok sc_first_names (fun vs H Q E h => ?_) (fun cdv A outer s H vs Q E hr h => ?_)
  · obtain ⟨v, n, rfl, _⟩ := h
    rfl
  · obtain ⟨v, n, rfl, hd, hs, k⟩ := h
    refine ⟨_, (pss_one (ps_ret (pe_listRg rfl (by rfl) T.b_list (prg_2 (by rfl) T.b_range pe_int (pe_op op_add (pe_c c_wires_of hr (by omega) rfl (pa_cons (pv 0) pa_nil)) pe_int))))), ?_⟩
    obtain ⟨w1, w2⟩ := wn_small hs
    refine ⟨_, rfl, v, n, rfl, hd, _, _, rfl, rfl, _, _, rfl, rfl, RgOk.of_le (by decide) (by omega) (by decide) (by omega), fun q hq => ?_⟩
    rw [rgV_rg, show (wn n + 1 - 1) = wn n by omega]
    exact k q hq
def spNames2 (K : PySem.W.Frag) : Sp := fun vs H Q _ => ∃ (v u : V) (f s : Net), vs = [v, u] ∧ Dp K H v (netD f) ∧ Dp K H u (netD s) ∧ Small f ∧ Small s ∧ ∀ (p : Addr) (H' : Hp), Same H H' → H' p = some (.lst ((two f s).map V.int)) → Q (.ref p) H'
theorem ok_names2 {f : Addr} {fd : FuncData} (F : Fun K "second_names" "second_names" s_second_names f fd) (T : Txt K mg) (c_wires_of : Cal P w K mg base 1 "wires_of" (spWires K) []) : FnOk P w K mg base CX0 2 f fd ["first", "second"] (spNames2 K) := by
  refine F.ok sc_second_names (fun vs H Q E h => ?_) (fun cdv A outer s H vs Q E hr h => ?_)
  · obtain ⟨v, u, f, s, rfl, _⟩ := h
    rfl
  · obtain ⟨v, u, n, m, rfl, hd, he, hs, ht, k⟩ := h
    refine ⟨_, (pss_cons (ps_set (i := 2) sc_second_names.nd rfl (Or.inl rfl) (pe_op op_add pe_int (pe_ix ix_tup (pv 1) pe_int (fun _ _ => rfl))))
      (pss_cons (ps_set (i := 3) sc_second_names.nd rfl (Or.inl rfl) (pe_op op_sub (pe_c c_wires_of hr (by omega) rfl (pa_cons (pv 1) pa_nil)) (pv 2)))
      (pss_cons (ps_set (i := 4) sc_second_names.nd rfl (Or.inr rfl) (pe_c c_wires_of hr (by omega) rfl (pa_cons (pv 0) pa_nil)))
      (pss_one (ps_ret (pe_op op_cat (pe_listRg rfl (by rfl) T.b_list (prg_2 (by rfl) T.b_range pe_int (pe_op op_add (pv 2) pe_int))) (pe_lc (own := [("at", 5)]) rfl sc_second_names.nd (pi_range1 (by rfl) T.b_range (pa_cons (pv 3) pa_nil)) (blkOk_by (own := [("at", 5)]) (N := ["first", "second", "shared", "rest", "many", "at"]) (sc := defScope s_second_names) (by decide +kernel)) (fun _ _ _ _ _ => (pg_name (i := 5) sc_second_names.nd rfl (Or.inl rfl))) (fun _ _ _ _ _ => pts_nil) (fun _ _ _ _ _ => (pe_op op_add (pe_op op_add (pv 4) pe_int) (pv 5)))))))))), ?_⟩
    obtain ⟨w1, w2⟩ := wn_small hs
    obtain ⟨w3, w4⟩ := wn_small ht
    obtain ⟨i0, i1, _⟩ := id ht
    obtain ⟨a, _, _, _, _, _, rfl, hx, _⟩ := net_dp he
    refine ⟨_, rfl, a, _, 0, _, rfl, rfl, hx, atI_nat (j := 0) rfl, _, _, rfl, rfl, ?_⟩
    refine ⟨_, rfl, .ref a, m, rfl, he, _, rfl, _, _, rfl, rfl, ?_⟩
    refine ⟨_, rfl, v, n, rfl, hd, ?_⟩
    refine ⟨_, rfl, _, _, rfl, rfl, _, _, rfl, rfl, RgOk.of_le (by decide) (by omega) (by decide) (by omega), fun q hq => ?_⟩
    rw [rgV_rg, show (1 + m.inp + 1 - 1) = 1 + m.inp by omega]
    have s1 := same_new (o := HO.lst ((rg 1 (1 + m.inp).toNat).map V.int)) hq
    refine ⟨_, rfl, (wn m - (1 + m.inp)), rfl, by omega, by omega, fun D hD => ?_⟩
    refine lc_range (lo := 0) (n := (wn m - (1 + m.inp)).toNat) (fun j H' => H' = upd (upd H q (.lst ((rg 1 (1 + m.inp).toNat).map V.int))) D (.lst ((rg (wn n + 1) j).map V.int))) rfl ?_ ?_
    · rintro j H' hj rfl
      refine ⟨rfl, _, rfl, _, _, rfl, rfl, _, rfl, _, _, rfl, rfl, _, upd_same, size_lt (by rw [List.length_map, rg_len]; omega), ?_⟩
      rw [upd_app]
      unfold rg
      rw [List.range_succ, List.map_append, List.map_append, Int.zero_add]
      rfl
    rintro H' rfl
    refine ⟨q, D, _, _, rfl, rfl, same_new hD _ _ upd_same, upd_same, size_of (by rw [List.length_map, List.length_map, rg_len, rg_len]; omega), fun p hp => ?_⟩
    refine k p _ ((s1.trans (same_new hD)).trans (same_new hp)) ?_
    rw [upd_same, ← List.map_append]
    rfl
def spLast (K : PySem.W.Frag) : Sp := fun vs H Q _ => ∃ (v u : V) (f s : Net), vs = [v, u] ∧ Dp K H v (netD f) ∧ Dp K H u (netD s) ∧ Q (.int (last f s)) H
theorem ok_last {f : Addr} {fd : FuncData} (F : Fun K "last_name" "last_name" s_last_name f fd) (T : Txt K mg) (c_wires_of : Cal P w K mg base 1 "wires_of" (spWires K) []) : FnOk P w K mg base CX0 2 f fd ["first", "second"] (spLast K) := by
  refine F.ok sc_last_name (fun vs H Q E h => ?_) (fun cdv A outer s H vs Q E hr h => ?_)
  · obtain ⟨v, u, f, s, rfl, _⟩ := h
    rfl
  · obtain ⟨v, u, n, m, rfl, hd, he, k⟩ := h
    refine ⟨_, (pss_one (ps_ret (pe_op op_add (pe_op op_add (pe_op op_add (pe_c c_wires_of hr (by omega) rfl (pa_cons (pv 0) pa_nil)) pe_int) (pe_callB call_len_seq (by rfl) T.b_len boot_len' (pa_cons (pe_ix ix_tup (pv 1) pe_int (fun _ _ => rfl)) pa_nil))) (pe_callB call_len_seq (by rfl) T.b_len boot_len' (pa_cons (pe_ix ix_tup (pv 1) pe_int (fun _ _ => rfl)) pa_nil))))), ?_⟩
    obtain ⟨a, af, an, ag, ao, xg, rfl, hx, hF, hN, hG, hGs, hO⟩ := net_dp he
    have gl : xg.length = m.gates.length := by rw [dps_len hGs, List.length_map]
    refine ⟨_, rfl, v, n, rfl, hd, _, _, rfl, rfl, ?_⟩
    refine ⟨_, rfl, a, _, 1, _, rfl, rfl, hx, atI_nat (j := 1) rfl, af, _, rfl, .inl hF, _, _, rfl, rfl, ?_⟩
    refine ⟨_, rfl, a, _, 3, _, rfl, rfl, hx, atI_nat (j := 3) rfl, ag, _, rfl, .inl hG, _, _, rfl, rfl, ?_⟩
    rw [List.length_map, gl]
    exact k
end
end Q41



set_option pp.maxSteps 1500
namespace Q41
open PySem L2 G M03 M41
open C8 (Cal Met Mak pe_c pe_mk pe_mt pe_mt0 pe_gc pss_cut tCut)
theorem side_at {g : Gate} {k : Nat} (h : k < g.2.length) : (V.str g.1 :: g.2.map V.int)[k + 1]? = some (.int (side g k)) := by
  show (g.2.map V.int)[k]? = _
  exact int_at h
theorem nth_at {xs : List Int} {a : Int} (h : inR xs.length a = true) : atI (xs.map V.int) a = some (.int (nth xs a)) := by
  unfold inR at h
  simp only [Bool.and_eq_true, decide_eq_true_eq] at h
  exact int_atI h.1 (by omega)
theorem words_ne : ("or" : Str) ≠ "not" ∧ ("and" : Str) ≠ "not" ∧ ("xor" : Str) ≠ "not" ∧ ("mux" : Str) ≠ "not" ∧ ("or" : Str) ≠ "and" ∧ ("xor" : Str) ≠ "and" ∧ ("mux" : Str) ≠ "and" ∧ ("xor" : Str) ≠ "or" ∧ ("mux" : Str) ≠ "or" ∧ ("mux" : Str) ≠ "xor" := by decide +kernel
section
variable {P : Program} {w : World} {K : PySem.W.Frag} {mg : Str → Option Value} {base : Heap}
theorem gate_dp {H : Hp} {x : V} {g : Gate} (h : Dp K H x (gateD g)) : ∃ a, x = .ref a ∧ SqT K H a (.str g.1 :: g.2.map V.int) := by
  obtain ⟨a, xs, rfl, hx, hxs⟩ := dp_tup h
  cases hxs with
  | cons h0 hs =>
    cases dp_str h0
    cases dps_ints_of hs
    exact ⟨a, rfl, hx⟩
/-- a new list of clauses -/
def KCl (K : PySem.W.Frag) (H : Hp) (cs : List Cl) (Q : VK) : Prop := ∀ (p : Addr) (xs : List V) (H' : Hp), Same H H' → H p = none → H' p = some (.lst xs) → DpAll K H' xs (cs.map clD) → Q (.ref p) H'
def spXor (K : PySem.W.Frag) : Sp := fun vs H Q _ => ∃ z x y : Int, vs = [.int z, .int x, .int y] ∧ KCl K H (xorC z x y) Q
theorem ok_xor {f : Addr} {fd : FuncData} (F : Fun K "xor_clauses" "xor_clauses" s_xor_clauses f fd) (T : Txt K mg) : FnOk P w K mg base CX0 1 f fd ["z", "x", "y"] (spXor K) := by
  refine F.ok sc_xor_clauses (fun vs H Q E h => ?_) (fun cdv A outer s H vs Q E hr h => ?_)
  · obtain ⟨z, x, y, rfl, _⟩ := h
    rfl
  · obtain ⟨z, x, y, rfl, k⟩ := h
    refine ⟨_, (pss_one (ps_ret (pe_lst (pa_cons (pe_tup (pa_cons (pe_un un_neg (pv 0)) (pa_cons (pv 1) (pa_cons (pv 2) pa_nil)))) (pa_cons (pe_tup (pa_cons (pe_un un_neg (pv 0)) (pa_cons (pe_un un_neg (pv 1)) (pa_cons (pe_un un_neg (pv 2)) pa_nil)))) (pa_cons (pe_tup (pa_cons (pv 0) (pa_cons (pe_un un_neg (pv 1)) (pa_cons (pv 2) pa_nil)))) (pa_cons (pe_tup (pa_cons (pv 0) (pa_cons (pv 1) (pa_cons (pe_un un_neg (pv 2)) pa_nil)))) pa_nil))))))), ?_⟩
    refine ⟨_, rfl, _, rfl, _, rfl, _, rfl, (show 3 ≤ sizeLine by decide), fun p0 m0 => ?_⟩
    have s0 := same_new (o := HO.tup [V.int (-z), V.int x, V.int y]) m0
    refine ⟨_, rfl, _, rfl, _, rfl, _, rfl, _, rfl, _, rfl, (show 3 ≤ sizeLine by decide), fun p1 m1 => ?_⟩
    have s1 := same_new (o := HO.tup [V.int (-z), V.int (-x), V.int (-y)]) m1
    refine ⟨_, rfl, _, rfl, _, rfl, _, rfl, (show 3 ≤ sizeLine by decide), fun p2 m2 => ?_⟩
    have s2 := same_new (o := HO.tup [V.int z, V.int (-x), V.int y]) m2
    refine ⟨_, rfl, _, rfl, _, rfl, _, rfl, (show 3 ≤ sizeLine by decide), fun p3 m3 => ?_⟩
    have s3 := same_new (o := HO.tup [V.int z, V.int x, V.int (-y)]) m3
    refine ⟨(show 4 ≤ sizeLine by decide), fun q mq => ?_⟩
    have sq := same_new (o := HO.lst [V.ref p0, V.ref p1, V.ref p2, V.ref p3]) mq
    exact k q _ _ ((((s0.trans s1).trans s2).trans s3).trans sq) (none_of_same (((s0.trans s1).trans s2).trans s3) mq) upd_same (.cons (.tup (SqT.of ((((s1.trans s2).trans s3).trans sq) _ _ upd_same)) (dps_ints [(-z), x, y])) (.cons (.tup (SqT.of (((s2.trans s3).trans sq) _ _ upd_same)) (dps_ints [(-z), (-x), (-y)])) (.cons (.tup (SqT.of ((s3.trans sq) _ _ upd_same)) (dps_ints [z, (-x), y])) (.cons (.tup (SqT.of (sq _ _ upd_same)) (dps_ints [z, x, (-y)])) .nil))))
/-! ### gate_clauses -/
def spGateC (K : PySem.W.Frag) : Sp := fun vs H Q _ => ∃ (v : V) (l : Addr) (g : Gate) (z : Int) (ns : List Int), vs = [v, .int z, .ref l] ∧ Dp K H v (gateD g) ∧ SqL K H l (ns.map V.int) ∧ okG ns.length g = true ∧ KCl K H (gateC ns g z) Q
theorem ok_gateC {f : Addr} {fd : FuncData} (F : Fun K "gate_clauses" "gate_clauses" s_gate_clauses f fd) (T : Txt K mg) (c_xor_clauses : Cal P w K mg base 1 "xor_clauses" (spXor K) []) : FnOk P w K mg base CX0 2 f fd ["gate", "z", "names"] (spGateC K) := by
  refine F.ok sc_gate_clauses (fun vs H Q E h => ?_) (fun cdv A outer s H vs Q E hr h => ?_)
  · obtain ⟨v, l, g, z, ns, rfl, _⟩ := h
    rfl
  · obtain ⟨v, l, g, z, ns, rfl, hd, hl, hg, k⟩ := h
    refine ⟨_, (pss_cons (ps_set (i := 3) sc_gate_clauses.nd rfl (Or.inl rfl) (pe_ix ix_tup (pv 0) pe_int (fun _ _ => rfl)))
      (pss_cons (ps_set (i := 4) sc_gate_clauses.nd rfl (Or.inl rfl) (pe_ix ix_list (pv 2) (pe_ix ix_tup (pv 0) pe_int (fun _ _ => rfl)) (fun _ _ => rfl)))
      (pss_cons (ps_if (pt_cmpR op_eq (pv 3) pe_str (nomark _)) (pss_one (ps_ret (pe_lst (pa_cons (pe_tup (pa_cons (pv 1) (pa_cons (pv 4) pa_nil))) (pa_cons (pe_tup (pa_cons (pe_un un_neg (pv 1)) (pa_cons (pe_un un_neg (pv 4)) pa_nil))) pa_nil))))) pss_nil)
      (pss_cons (ps_set (i := 5) sc_gate_clauses.nd rfl (Or.inl rfl) (pe_ix ix_list (pv 2) (pe_ix ix_tup (pv 0) pe_int (fun _ _ => rfl)) (fun _ _ => rfl)))
      (pss_cons (ps_if (pt_cmpR op_eq (pv 3) pe_str (nomark _)) (pss_one (ps_ret (pe_lst (pa_cons (pe_tup (pa_cons (pe_un un_neg (pv 1)) (pa_cons (pv 4) pa_nil))) (pa_cons (pe_tup (pa_cons (pe_un un_neg (pv 1)) (pa_cons (pv 5) pa_nil))) (pa_cons (pe_tup (pa_cons (pv 1) (pa_cons (pe_un un_neg (pv 4)) (pa_cons (pe_un un_neg (pv 5)) pa_nil)))) pa_nil)))))) pss_nil)
      (pss_cons (ps_if (pt_cmpR op_eq (pv 3) pe_str (nomark _)) (pss_one (ps_ret (pe_lst (pa_cons (pe_tup (pa_cons (pv 1) (pa_cons (pe_un un_neg (pv 4)) pa_nil))) (pa_cons (pe_tup (pa_cons (pv 1) (pa_cons (pe_un un_neg (pv 5)) pa_nil))) (pa_cons (pe_tup (pa_cons (pe_un un_neg (pv 1)) (pa_cons (pv 4) (pa_cons (pv 5) pa_nil)))) pa_nil)))))) pss_nil)
      (pss_cons (ps_if (pt_cmpR op_eq (pv 3) pe_str (nomark _)) (pss_one (ps_ret (pe_c c_xor_clauses hr (by omega) rfl (pa_cons (pv 1) (pa_cons (pv 4) (pa_cons (pv 5) pa_nil)))))) pss_nil)
      (pss_cons (ps_set (i := 6) sc_gate_clauses.nd rfl (Or.inl rfl) (pe_ix ix_list (pv 2) (pe_ix ix_tup (pv 0) pe_int (fun _ _ => rfl)) (fun _ _ => rfl)))
      (pss_one (ps_ret (pe_lst (pa_cons (pe_tup (pa_cons (pe_un un_neg (pv 4)) (pa_cons (pe_un un_neg (pv 5)) (pa_cons (pv 1) pa_nil)))) (pa_cons (pe_tup (pa_cons (pe_un un_neg (pv 4)) (pa_cons (pv 5) (pa_cons (pe_un un_neg (pv 1)) pa_nil)))) (pa_cons (pe_tup (pa_cons (pv 4) (pa_cons (pe_un un_neg (pv 6)) (pa_cons (pv 1) pa_nil)))) (pa_cons (pe_tup (pa_cons (pv 4) (pa_cons (pv 6) (pa_cons (pe_un un_neg (pv 1)) pa_nil)))) pa_nil))))))))))))))), ?_⟩
    obtain ⟨a, rfl, hx⟩ := gate_dp hd
    have n0 : 0 < g.2.length := by rcases okG_word hg with ⟨_, h⟩ | ⟨_, h⟩ | ⟨_, h⟩ | ⟨_, h⟩ | ⟨_, h⟩ <;> omega
    refine ⟨_, rfl, a, _, 0, _, rfl, rfl, hx, atI_nat (j := 0) rfl, ?_⟩
    refine ⟨_, rfl, _, rfl, a, _, 1, _, rfl, rfl, hx, atI_nat (j := 1) (side_at (k := 0) n0), l, _, _, _, rfl, rfl, hl, nth_at (okG_side hg n0), ?_⟩
    unfold gateC at k
    dsimp only at k
    generalize nth ns (side g 0) = x at k
    refine ⟨_, rfl, rfl, _, rfl, ?_⟩
    rcases okG_word hg with ⟨e, hw⟩ | ⟨e, hw⟩ | ⟨e, hw⟩ | ⟨e, hw⟩ | ⟨e, hw⟩
    · have e2 : g.1 ≠ "not" := by rw [e]; decide
      simp only [e, words_ne, if_true, if_false] at k
      refine ifF (by rw [e]; decide) ?_
      refine ⟨_, rfl, _, rfl, a, _, 2, _, rfl, rfl, hx, atI_nat (j := 2) (side_at (k := 1) (by omega)), l, _, _, _, rfl, rfl, hl, nth_at (okG_side hg (k := 1) (by omega)), ?_⟩
      generalize nth ns (side g 1) = y at k
      refine ⟨_, rfl, rfl, _, rfl, ifT (by rw [e]; decide) ?_⟩
      refine ⟨_, rfl, _, rfl, _, rfl, (show 2 ≤ sizeLine by decide), fun p0 m0 => ?_⟩
      have s0 := same_new (o := HO.tup [V.int (-z), V.int x]) m0
      refine ⟨_, rfl, _, rfl, _, rfl, (show 2 ≤ sizeLine by decide), fun p1 m1 => ?_⟩
      have s1 := same_new (o := HO.tup [V.int (-z), V.int y]) m1
      refine ⟨_, rfl, _, rfl, _, rfl, _, rfl, _, rfl, (show 3 ≤ sizeLine by decide), fun p2 m2 => ?_⟩
      have s2 := same_new (o := HO.tup [V.int z, V.int (-x), V.int (-y)]) m2
      refine ⟨(show 3 ≤ sizeLine by decide), fun q mq => ?_⟩
      have sq := same_new (o := HO.lst [V.ref p0, V.ref p1, V.ref p2]) mq
      exact k q _ _ (((s0.trans s1).trans s2).trans sq) (none_of_same ((s0.trans s1).trans s2) mq) upd_same (.cons (.tup (SqT.of (((s1.trans s2).trans sq) _ _ upd_same)) (dps_ints [(-z), x])) (.cons (.tup (SqT.of ((s2.trans sq) _ _ upd_same)) (dps_ints [(-z), y])) (.cons (.tup (SqT.of (sq _ _ upd_same)) (dps_ints [z, (-x), (-y)])) .nil)))
    · have e2 : g.1 ≠ "not" := by rw [e]; decide
      simp only [e, words_ne, if_true, if_false] at k
      refine ifF (by rw [e]; decide) ?_
      refine ⟨_, rfl, _, rfl, a, _, 2, _, rfl, rfl, hx, atI_nat (j := 2) (side_at (k := 1) (by omega)), l, _, _, _, rfl, rfl, hl, nth_at (okG_side hg (k := 1) (by omega)), ?_⟩
      generalize nth ns (side g 1) = y at k
      refine ⟨_, rfl, rfl, _, rfl, ifF (by rw [e]; decide) ?_⟩
      refine ⟨_, rfl, rfl, _, rfl, ifT (by rw [e]; decide) ?_⟩
      refine ⟨_, rfl, _, rfl, _, rfl, (show 2 ≤ sizeLine by decide), fun p0 m0 => ?_⟩
      have s0 := same_new (o := HO.tup [V.int z, V.int (-x)]) m0
      refine ⟨_, rfl, _, rfl, _, rfl, (show 2 ≤ sizeLine by decide), fun p1 m1 => ?_⟩
      have s1 := same_new (o := HO.tup [V.int z, V.int (-y)]) m1
      refine ⟨_, rfl, _, rfl, _, rfl, _, rfl, (show 3 ≤ sizeLine by decide), fun p2 m2 => ?_⟩
      have s2 := same_new (o := HO.tup [V.int (-z), V.int x, V.int y]) m2
      refine ⟨(show 3 ≤ sizeLine by decide), fun q mq => ?_⟩
      have sq := same_new (o := HO.lst [V.ref p0, V.ref p1, V.ref p2]) mq
      exact k q _ _ (((s0.trans s1).trans s2).trans sq) (none_of_same ((s0.trans s1).trans s2) mq) upd_same (.cons (.tup (SqT.of (((s1.trans s2).trans sq) _ _ upd_same)) (dps_ints [z, (-x)])) (.cons (.tup (SqT.of ((s2.trans sq) _ _ upd_same)) (dps_ints [z, (-y)])) (.cons (.tup (SqT.of (sq _ _ upd_same)) (dps_ints [(-z), x, y])) .nil)))
    · have e2 : g.1 ≠ "not" := by rw [e]; decide
      simp only [e, words_ne, if_true, if_false] at k
      refine ifF (by rw [e]; decide) ?_
      refine ⟨_, rfl, _, rfl, a, _, 2, _, rfl, rfl, hx, atI_nat (j := 2) (side_at (k := 1) (by omega)), l, _, _, _, rfl, rfl, hl, nth_at (okG_side hg (k := 1) (by omega)), ?_⟩
      generalize nth ns (side g 1) = y at k
      refine ⟨_, rfl, rfl, _, rfl, ifF (by rw [e]; decide) ?_⟩
      refine ⟨_, rfl, rfl, _, rfl, ifF (by rw [e]; decide) ?_⟩
      refine ⟨_, rfl, rfl, _, rfl, ifT (by rw [e]; decide) ?_⟩
      exact ⟨_, rfl, _, rfl, _, rfl, z, x, y, rfl, k⟩
    · rw [if_pos e] at k
      refine ifT (by rw [e]; decide) ?_
      refine ⟨_, rfl, _, rfl, (show 2 ≤ sizeLine by decide), fun p0 m0 => ?_⟩
      have s0 := same_new (o := HO.tup [V.int z, V.int x]) m0
      refine ⟨_, rfl, _, rfl, _, rfl, _, rfl, (show 2 ≤ sizeLine by decide), fun p1 m1 => ?_⟩
      have s1 := same_new (o := HO.tup [V.int (-z), V.int (-x)]) m1
      refine ⟨(show 2 ≤ sizeLine by decide), fun q mq => ?_⟩
      have sq := same_new (o := HO.lst [V.ref p0, V.ref p1]) mq
      exact k q _ _ ((s0.trans s1).trans sq) (none_of_same (s0.trans s1) mq) upd_same (.cons (.tup (SqT.of ((s1.trans sq) _ _ upd_same)) (dps_ints [z, x])) (.cons (.tup (SqT.of (sq _ _ upd_same)) (dps_ints [(-z), (-x)])) .nil))
    · have e2 : g.1 ≠ "not" := by rw [e]; decide
      simp only [e, words_ne, if_true, if_false] at k
      refine ifF (by rw [e]; decide) ?_
      refine ⟨_, rfl, _, rfl, a, _, 2, _, rfl, rfl, hx, atI_nat (j := 2) (side_at (k := 1) (by omega)), l, _, _, _, rfl, rfl, hl, nth_at (okG_side hg (k := 1) (by omega)), ?_⟩
      generalize nth ns (side g 1) = y at k
      refine ⟨_, rfl, rfl, _, rfl, ifF (by rw [e]; decide) ?_⟩
      refine ⟨_, rfl, rfl, _, rfl, ifF (by rw [e]; decide) ?_⟩
      refine ⟨_, rfl, rfl, _, rfl, ifF (by rw [e]; decide) ?_⟩
      refine ⟨_, rfl, _, rfl, a, _, 3, _, rfl, rfl, hx, atI_nat (j := 3) (side_at (k := 2) (by omega)), l, _, _, _, rfl, rfl, hl, nth_at (okG_side hg (k := 2) (by omega)), ?_⟩
      generalize nth ns (side g 2) = o at k
      refine ⟨_, rfl, _, rfl, _, rfl, _, rfl, _, rfl, (show 3 ≤ sizeLine by decide), fun p0 m0 => ?_⟩
      have s0 := same_new (o := HO.tup [V.int (-x), V.int (-y), V.int z]) m0
      refine ⟨_, rfl, _, rfl, _, rfl, _, rfl, _, rfl, (show 3 ≤ sizeLine by decide), fun p1 m1 => ?_⟩
      have s1 := same_new (o := HO.tup [V.int (-x), V.int y, V.int (-z)]) m1
      refine ⟨_, rfl, _, rfl, _, rfl, _, rfl, (show 3 ≤ sizeLine by decide), fun p2 m2 => ?_⟩
      have s2 := same_new (o := HO.tup [V.int x, V.int (-o), V.int z]) m2
      refine ⟨_, rfl, _, rfl, _, rfl, _, rfl, (show 3 ≤ sizeLine by decide), fun p3 m3 => ?_⟩
      have s3 := same_new (o := HO.tup [V.int x, V.int o, V.int (-z)]) m3
      refine ⟨(show 4 ≤ sizeLine by decide), fun q mq => ?_⟩
      have sq := same_new (o := HO.lst [V.ref p0, V.ref p1, V.ref p2, V.ref p3]) mq
      exact k q _ _ ((((s0.trans s1).trans s2).trans s3).trans sq) (none_of_same (((s0.trans s1).trans s2).trans s3) mq) upd_same (.cons (.tup (SqT.of ((((s1.trans s2).trans s3).trans sq) _ _ upd_same)) (dps_ints [(-x), (-y), z])) (.cons (.tup (SqT.of (((s2.trans s3).trans sq) _ _ upd_same)) (dps_ints [(-x), y, (-z)])) (.cons (.tup (SqT.of ((s3.trans sq) _ _ upd_same)) (dps_ints [x, (-o), z])) (.cons (.tup (SqT.of (sq _ _ upd_same)) (dps_ints [x, o, (-z)])) .nil))))
/-! ### pair_clauses -/
def prD (r : Pr) : PyData := .tuple [.int r.1, .int r.2.1, .int r.2.2]
def spPairC (K : PySem.W.Frag) : Sp := fun vs H Q _ => ∃ (v u : V) (l1 l2 : Addr) (r : Pr) (f s : Net), vs = [v, u, .ref l1, .ref l2] ∧ Dp K H v (prD r) ∧ Dp K H u (netD f) ∧ SqL K H l1 ((one f).map V.int) ∧ SqL K H l2 ((two f s).map V.int) ∧
  inR (one f).length (1 + f.inp + r.1) = true ∧ inR (two f s).length (1 + f.inp + r.2.1) = true ∧ KCl K H (pairC f s r) Q
theorem pr_dp {H : Hp} {x : V} {r : Pr} (h : Dp K H x (prD r)) : ∃ a, x = .ref a ∧ SqT K H a [.int r.1, .int r.2.1, .int r.2.2] := by
  obtain ⟨a, xs, rfl, hx, hxs⟩ := dp_tup h
  cases dps_ints_of (ns := [r.1, r.2.1, r.2.2]) hxs
  exact ⟨a, rfl, hx⟩
theorem ok_pairC {f : Addr} {fd : FuncData} (F : Fun K "pair_clauses" "pair_clauses" s_pair_clauses f fd) (T : Txt K mg) : FnOk P w K mg base CX0 1 f fd ["pair", "first", "one", "two"] (spPairC K) := by
  refine F.ok sc_pair_clauses (fun vs H Q E h => ?_) (fun cdv A outer s H vs Q E hr h => ?_)
  · obtain ⟨v, u, l1, l2, r, n, m, rfl, _⟩ := h
    rfl
  · obtain ⟨v, u, l1, l2, r, n, m, rfl, hv, hu, h1, h2, i1, i2, k⟩ := h
    refine ⟨_, (pss_cons (ps_par (i := 4) (j := 5) (by rfl) sc_pair_clauses.nd rfl rfl (by decide) rfl rfl (pa_cons (pe_ix ix_list (pv 2) (pe_op op_add (pe_op op_add pe_int (pe_ix ix_tup (pv 1) pe_int (fun _ _ => rfl))) (pe_ix ix_tup (pv 0) pe_int (fun _ _ => rfl))) (fun _ _ => rfl)) (pa_cons (pe_ix ix_list (pv 3) (pe_op op_add (pe_op op_add pe_int (pe_ix ix_tup (pv 1) pe_int (fun _ _ => rfl))) (pe_ix ix_tup (pv 0) pe_int (fun _ _ => rfl))) (fun _ _ => rfl)) pa_nil)) (by rfl))
      (pss_cons (ps_if (pt_cmpR op_eq (pe_ix ix_tup (pv 0) pe_int (fun _ _ => rfl)) pe_int (nomark _)) (pss_one (ps_ret (pe_lst (pa_cons (pe_tup (pa_cons (pe_un un_neg (pv 4)) (pa_cons (pv 5) pa_nil))) (pa_cons (pe_tup (pa_cons (pv 4) (pa_cons (pe_un un_neg (pv 5)) pa_nil))) pa_nil))))) pss_nil)
      (pss_one (ps_ret (pe_lst (pa_cons (pe_tup (pa_cons (pv 4) (pa_cons (pv 5) pa_nil))) (pa_cons (pe_tup (pa_cons (pe_un un_neg (pv 4)) (pa_cons (pe_un un_neg (pv 5)) pa_nil))) pa_nil))))))), ?_⟩
    obtain ⟨a, _, _, _, _, _, rfl, hx, _⟩ := net_dp hu
    obtain ⟨b, rfl, hb⟩ := pr_dp hv
    refine ⟨_, rfl, _, rfl, a, _, 0, _, rfl, rfl, hx, atI_nat (j := 0) rfl, _, _, rfl, rfl, _, rfl, b, _, 0, _, rfl, rfl, hb, atI_nat (j := 0) rfl, _, _, rfl, rfl, l1, _, _, _, rfl, rfl, h1, nth_at i1, ?_⟩
    refine ⟨_, rfl, _, rfl, a, _, 0, _, rfl, rfl, hx, atI_nat (j := 0) rfl, _, _, rfl, rfl, _, rfl, b, _, 1, _, rfl, rfl, hb, atI_nat (j := 1) rfl, _, _, rfl, rfl, l2, _, _, _, rfl, rfl, h2, nth_at i2, ?_⟩
    unfold pairC at k
    dsimp only at k
    generalize nth (one n) (1 + n.inp + r.1) = p at k
    generalize nth (two n m) (1 + n.inp + r.2.1) = q at k
    refine ⟨_, _, rfl, ?_⟩
    refine ⟨_, rfl, b, _, 2, _, rfl, rfl, hb, atI_nat (j := 2) rfl, rfl, _, rfl, ?_⟩
    refine ite2 (fun hz => ?_) (fun hz => ?_)
    · rw [if_pos (by simpa using hz)] at k
      refine ⟨_, rfl, _, rfl, _, rfl, (show 2 ≤ sizeLine by decide), fun p0 m0 => ?_⟩
      have s0 := same_new (o := HO.tup [V.int (-p), V.int q]) m0
      refine ⟨_, rfl, _, rfl, _, rfl, (show 2 ≤ sizeLine by decide), fun p1 m1 => ?_⟩
      have s1 := same_new (o := HO.tup [V.int p, V.int (-q)]) m1
      refine ⟨(show 2 ≤ sizeLine by decide), fun qq mq => ?_⟩
      have sq := same_new (o := HO.lst [V.ref p0, V.ref p1]) mq
      exact k qq _ _ ((s0.trans s1).trans sq) (none_of_same (s0.trans s1) mq) upd_same (.cons (.tup (SqT.of ((s1.trans sq) _ _ upd_same)) (dps_ints [(-p), q])) (.cons (.tup (SqT.of (sq _ _ upd_same)) (dps_ints [p, (-q)])) .nil))
    · rw [if_neg (by simpa using hz)] at k
      refine ⟨_, rfl, _, rfl, (show 2 ≤ sizeLine by decide), fun p0 m0 => ?_⟩
      have s0 := same_new (o := HO.tup [V.int p, V.int q]) m0
      refine ⟨_, rfl, _, rfl, _, rfl, _, rfl, (show 2 ≤ sizeLine by decide), fun p1 m1 => ?_⟩
      have s1 := same_new (o := HO.tup [V.int (-p), V.int (-q)]) m1
      refine ⟨(show 2 ≤ sizeLine by decide), fun qq mq => ?_⟩
      have sq := same_new (o := HO.lst [V.ref p0, V.ref p1]) mq
      exact k qq _ _ ((s0.trans s1).trans sq) (none_of_same (s0.trans s1) mq) upd_same (.cons (.tup (SqT.of ((s1.trans sq) _ _ upd_same)) (dps_ints [p, q])) (.cons (.tup (SqT.of (sq _ _ upd_same)) (dps_ints [(-p), (-q)])) .nil))
end
end Q41



set_option pp.maxSteps 1500
namespace Q41
open PySem L2 G M03 M41
open C8 (Cal Met Mak pe_c pe_mk pe_mt pe_mt0 pe_gc pss_cut tCut)
theorem zero_one (t : Int) : ([PyData.int 0, .int 1].any fun z => PyData.eqv z (.int t)) = (decide (t = 0) || decide (t = 1)) := by
  have e : ∀ a : Int, PyData.eqv (.int a) (.int t) = decide (t = a) := fun a => by
    show decide (a = t) = _
    exact decide_eq_decide.mpr eq_comm
  rw [List.any_cons, List.any_cons, List.any_nil, e, e, Bool.or_false]
theorem take_snoc {α : Type} {l : List α} {i : Nat} {x : α} (h : l[i]? = some x) : l.take (i + 1) = l.take i ++ [x] := by
  rw [List.take_add_one, h]
  rfl
section
variable {P : Program} {w : World} {K : PySem.W.Frag} {mg : Str → Option Value} {base : Heap}
/-! ### check_sizes -/
def sameSz (f s : Net) : Prop := f.inp = s.inp ∧ f.outs.length = s.outs.length
def spSizes (K : PySem.W.Frag) (C : Addr) : Sp := fun vs H Q E => ∃ (v u : V) (f s : Net), vs = [v, u] ∧ Dp K H v (netD f) ∧ Dp K H u (netD s) ∧ (sameSz f s → Q .non H) ∧ (¬ sameSz f s → RaiseF C "sizes" H E)
theorem ok_sizes {C : Addr} {f : Addr} {fd : FuncData} (F : Fun K "check_sizes" "check_sizes" s_check_sizes f fd) (T : Txt K mg) (c_InvalidNet : Erm P w K mg base 1 "InvalidNet" C "what") : FnOk P w K mg base (L2.CX P w) 3 f fd ["first", "second"] (spSizes K C) := by
  refine F.okX sc_check_sizes (fun vs H Q E h => ?_) (fun cdv A outer s H vs Q E hr h => ?_)
  · obtain ⟨v, u, n, m, rfl, _⟩ := h
    rfl
  · obtain ⟨v, u, n, m, rfl, hv, hu, ky, kn⟩ := h
    refine ⟨_, (pss_one (ps_if (PW.pt (pw_or (pt_cmpR op_ne (pe_ix ix_tup (pv 0) pe_int (fun _ _ => rfl)) (pe_ix ix_tup (pv 1) pe_int (fun _ _ => rfl)) (nomark _)) (pw_or1 (pt_cmpR op_ne (pe_callB call_len_seq (by rfl) T.b_len boot_len' (pa_cons (pe_ix ix_tup (pv 0) pe_int (fun _ _ => rfl)) pa_nil)) (pe_callB call_len_seq (by rfl) T.b_len boot_len' (pa_cons (pe_ix ix_tup (pv 1) pe_int (fun _ _ => rfl)) pa_nil)) (nomark _))))) (pss_one (ps_raise rfl (takes_of rfl rfl rfl rfl) (pmk_e c_InvalidNet hr (by omega) rfl (pa_cons pe_str pa_nil)))) pss_nil)), ?_⟩
    obtain ⟨a, _, _, _, ao, _, rfl, hx, _, _, _, _, hO⟩ := net_dp hv
    obtain ⟨b, _, _, _, bo, _, rfl, hy, _, _, _, _, hP⟩ := net_dp hu
    refine ⟨_, rfl, a, _, 0, _, rfl, rfl, hx, atI_nat (j := 0) rfl, _, rfl, b, _, 0, _, rfl, rfl, hy, atI_nat (j := 0) rfl, rfl, _, rfl, ?_⟩
    by_cases e1 : n.inp = m.inp
    · refine ifF (ne_int0 e1) ?_
      refine ⟨_, rfl, a, _, 4, _, rfl, rfl, hx, atI_nat (j := 4) rfl, ao, _, rfl, .inl hO, _, rfl, b, _, 4, _, rfl, rfl, hy, atI_nat (j := 4) rfl, bo, _, rfl, .inl hP, rfl, _, rfl, ?_⟩
      rw [List.length_map, List.length_map]
      by_cases e2 : n.outs.length = m.outs.length
      · refine ifF (ne_int0 (by rw [e2])) ?_
        exact ky ⟨e1, e2⟩
      · refine ifT (ne_int (by omega)) ?_
        exact ⟨_, rfl, fun d hd => (kn fun z => e2 z.2).here (Same.refl _) hd⟩
    · refine ifT (ne_int e1) ?_
      exact ⟨_, rfl, fun d hd => (kn fun z => e1 z.1).here (Same.refl _) hd⟩
/-! ### check_pairs -/
def okPrB (f s : Net) (r : Pr) : Bool := decide (0 ≤ r.1) && decide (r.1 < f.firsts.length) && decide (0 ≤ r.2.1) && decide (r.2.1 < s.firsts.length) && (decide (r.2.2 = 0) || decide (r.2.2 = 1))
/-- a list or a tuple of pairs -/
def Prs (K : PySem.W.Frag) (H : Hp) (v : V) (ps : List Pr) : Prop := Dp K H v (.list (ps.map prD)) ∨ Dp K H v (.tuple (ps.map prD))
theorem Prs.same {H H' : Hp} {v : V} {ps : List Pr} (s : Same H H') (h : Prs K H v ps) : Prs K H' v ps := h.imp (dp_same s) (dp_same s)
def spPairs (K : PySem.W.Frag) (C : Addr) : Sp := fun vs H Q E => ∃ (v u x : V) (f s : Net) (ps : List Pr), vs = [v, u, x] ∧ Dp K H v (netD f) ∧ Dp K H u (netD s) ∧ Prs K H x ps ∧ ps.length ≤ 1000 ∧
  (ps.all (okPrB f s) = true → ∀ H', Same H H' → Q .non H') ∧ (ps.all (okPrB f s) = false → RaiseF C "goal" H E)
theorem ok_pairs {C : Addr} {f : Addr} {fd : FuncData} (F : Fun K "check_pairs" "check_pairs" s_check_pairs f fd) (T : Txt K mg) (c_InvalidProof : Erm P w K mg base 1 "InvalidProof" C "what") : FnOk P w K mg base (L2.CX P w) 3 f fd ["first", "second", "pairs"] (spPairs K C) := by
  refine F.okX sc_check_pairs (fun vs H Q E h => ?_) (fun cdv A outer s H vs Q E hr h => ?_)
  · obtain ⟨v, u, x, n, m, ps, rfl, _⟩ := h
    rfl
  · obtain ⟨v, u, x, n, m, ps, rfl, hv, hu, hx, hl, ky, kn⟩ := h
    have hu65 := hu65_of hr
    obtain ⟨a, af, _, _, _, _, rfl, ha, haf, _⟩ := net_dp hv
    obtain ⟨b, bf, _, _, _, _, rfl, hb, hbf, _⟩ := net_dp hu
    rcases hx with hx | hx
    · refine ⟨_, (pss_one (ps_for (passes_of rfl) rfl (pi_list (pv 2)) (pg_tup rfl (pgs_cons (pg_name (i := 3) sc_check_pairs.nd rfl (Or.inl rfl)) (pgs_cons (pg_name (i := 4) sc_check_pairs.nd rfl (Or.inl rfl)) (pgs_cons (pg_name (i := 5) sc_check_pairs.nd rfl (Or.inl rfl)) pgs_nil)))) (pss_one (ps_if (PW.pt (pw_or (pt_not (pt_chain op_le op_lt pe_int (pv 3) (pe_callB call_len_seq (by rfl) T.b_len boot_len' (pa_cons (pe_ix ix_tup (pv 0) pe_int (fun _ _ => rfl)) pa_nil)))) (pw_or (pt_not (pt_chain op_le op_lt pe_int (pv 4) (pe_callB call_len_seq (by rfl) T.b_len boot_len' (pa_cons (pe_ix ix_tup (pv 1) pe_int (fun _ _ => rfl)) pa_nil)))) (pw_or1 (pt_cmpR (op_notInT hu65) (pv 5) (pe_tup (pa_cons pe_int (pa_cons pe_int pa_nil))) rfl))))) (pss_one (ps_raise rfl (takes_of rfl rfl rfl rfl) (pmk_e c_InvalidProof hr (by omega) rfl (pa_cons pe_str pa_nil)))) pss_nil)))), ?_⟩
      obtain ⟨c, xs, rfl, hc, hxs⟩ := dp_lst hx
      have xl : xs.length = ps.length := by rw [dps_len hxs, List.length_map]
      refine ⟨_, rfl, c, rfl, ⟨_, hc⟩, ?_⟩
      refine for_list (K := K) (a := c) (xs := xs) (fun i σ H' => ∃ (o3 o4 o5 : Option V), σ = [some (.ref a), some (.ref b), some (.ref c), o3, o4, o5] ∧ Same H H' ∧ (ps.take i).all (okPrB n m) = true) ⟨none, none, none, rfl, Same.refl _, rfl⟩ ?_ ?_ ?_
      · rintro i σ H' _ ⟨_, _, _, _, s1, _⟩
        exact s1.seq hc
      · rintro i y σ H' hi ⟨o3, o4, o5, rfl, s1, hal⟩
        obtain ⟨d, hdi, dx⟩ := dps_getv hxs hi
        rw [List.getElem?_map] at hdi
        obtain ⟨r, hr', rfl⟩ := Option.map_eq_some_iff.mp hdi
        obtain ⟨pa, rfl, hpa⟩ := pr_dp (dp_same s1 dx)
        have bad : okPrB n m r = false → RaiseF C "goal" H E := fun e => kn (by
          rw [Bool.eq_false_iff]
          intro z
          have q := List.all_eq_true.mp z r (List.mem_of_getElem? hr')
          rw [e] at q
          cases q)
        refine ⟨pa, _, rfl, hpa, rfl, ?_⟩
        refine ⟨_, _, rfl, _, _, rfl, _, _, rfl, rfl, ?_⟩
        refine ⟨_, rfl, _, _, rfl, rfl, _, rfl, ?_⟩
        by_cases p0 : 0 ≤ r.1
        · refine ifT (decide_eq_true p0) ⟨_, rfl, a, _, 1, _, rfl, rfl, Same.tup s1 ha, atI_nat (j := 1) rfl, af, _, rfl, .inl (s1.seq haf), _, _, rfl, rfl, _, rfl, ?_⟩
          rw [List.length_map]
          by_cases p1 : r.1 < n.firsts.length
          · refine ifF (by rw [decide_eq_true p1]; rfl) ?_
            refine ⟨_, rfl, _, _, rfl, rfl, _, rfl, ?_⟩
            by_cases q0 : 0 ≤ r.2.1
            · refine ifT (decide_eq_true q0) ⟨_, rfl, b, _, 1, _, rfl, rfl, Same.tup s1 hb, atI_nat (j := 1) rfl, bf, _, rfl, .inl (s1.seq hbf), _, _, rfl, rfl, _, rfl, ?_⟩
              rw [List.length_map]
              by_cases q1 : r.2.1 < m.firsts.length
              · refine ifF (by rw [decide_eq_true q1]; rfl) ?_
                refine ⟨_, rfl, (show 2 ≤ sizeLine by decide), fun tp ntp => ?_⟩
                have s2 := same_new (o := HO.tup [V.int 0, V.int 1]) ntp
                refine ⟨.int r.2.2, [.int 0, .int 1], .int _, .tup (SqT.of upd_same) (.cons (.int _) (.cons (.int _) .nil)), rfl, by decide +kernel, _, rfl, ?_⟩
                have et : (([PyData.int 0, .int 1].any fun z => PyData.eqv z (.int r.2.2))) = (decide (r.2.2 = 0) || decide (r.2.2 = 1)) := zero_one r.2.2
                rw [et]
                by_cases tt : (decide (r.2.2 = 0) || decide (r.2.2 = 1)) = true
                · refine ifF (by rw [tt]; rfl) ?_
                  refine ⟨_, _, _, rfl, s1.trans s2, ?_⟩
                  rw [take_snoc hr', List.all_append, hal, List.all_cons, List.all_nil]
                  unfold okPrB
                  rw [decide_eq_true p0, decide_eq_true p1, decide_eq_true q0, decide_eq_true q1, tt]
                  rfl
                · have tt := Bool.eq_false_iff.mpr tt
                  refine ifT (by rw [tt]; rfl) ?_
                  exact ⟨_, rfl, fun d hd => (bad (by unfold okPrB; rw [tt, Bool.and_false])).here (s1.trans s2) hd⟩
              · refine ifT (by rw [decide_eq_false q1]; rfl) ?_
                exact ⟨_, rfl, fun d hd => (bad (by unfold okPrB; rw [decide_eq_false q1]; simp)).here s1 hd⟩
            · refine ifF (decide_eq_false q0) ⟨_, rfl, ifT rfl ?_⟩
              exact ⟨_, rfl, fun d hd => (bad (by unfold okPrB; rw [decide_eq_false q0]; simp)).here s1 hd⟩
          · refine ifT (by rw [decide_eq_false p1]; rfl) ?_
            exact ⟨_, rfl, fun d hd => (bad (by unfold okPrB; rw [decide_eq_false p1]; simp)).here s1 hd⟩
        · refine ifF (decide_eq_false p0) ⟨_, rfl, ifT rfl ?_⟩
          exact ⟨_, rfl, fun d hd => (bad (by unfold okPrB; rw [decide_eq_false p0]; simp)).here s1 hd⟩
      · rintro σ H' ⟨o3, o4, o5, rfl, s1, hal⟩
        rw [xl, List.take_length] at hal
        exact ky hal _ s1
    · refine ⟨_, (pss_one (ps_for (passes_of rfl) rfl (pi_tup (pv 2)) (pg_tup rfl (pgs_cons (pg_name (i := 3) sc_check_pairs.nd rfl (Or.inl rfl)) (pgs_cons (pg_name (i := 4) sc_check_pairs.nd rfl (Or.inl rfl)) (pgs_cons (pg_name (i := 5) sc_check_pairs.nd rfl (Or.inl rfl)) pgs_nil)))) (pss_one (ps_if (PW.pt (pw_or (pt_not (pt_chain op_le op_lt pe_int (pv 3) (pe_callB call_len_seq (by rfl) T.b_len boot_len' (pa_cons (pe_ix ix_tup (pv 0) pe_int (fun _ _ => rfl)) pa_nil)))) (pw_or (pt_not (pt_chain op_le op_lt pe_int (pv 4) (pe_callB call_len_seq (by rfl) T.b_len boot_len' (pa_cons (pe_ix ix_tup (pv 1) pe_int (fun _ _ => rfl)) pa_nil)))) (pw_or1 (pt_cmpR (op_notInT hu65) (pv 5) (pe_tup (pa_cons pe_int (pa_cons pe_int pa_nil))) rfl))))) (pss_one (ps_raise rfl (takes_of rfl rfl rfl rfl) (pmk_e c_InvalidProof hr (by omega) rfl (pa_cons pe_str pa_nil)))) pss_nil)))), ?_⟩
      obtain ⟨c, xs, rfl, hc, hxs⟩ := dp_tup hx
      have xl : xs.length = ps.length := by rw [dps_len hxs, List.length_map]
      refine ⟨_, rfl, c, rfl, ⟨_, hc⟩, ?_⟩
      refine for_tup (K := K) (a := c) (xs := xs) (fun i σ H' => ∃ (o3 o4 o5 : Option V), σ = [some (.ref a), some (.ref b), some (.ref c), o3, o4, o5] ∧ Same H H' ∧ (ps.take i).all (okPrB n m) = true) ⟨none, none, none, rfl, Same.refl _, rfl⟩ ?_ ?_ ?_
      · rintro i σ H' _ ⟨_, _, _, _, s1, _⟩
        exact Same.tup s1 hc
      · rintro i y σ H' hi ⟨o3, o4, o5, rfl, s1, hal⟩
        obtain ⟨d, hdi, dx⟩ := dps_getv hxs hi
        rw [List.getElem?_map] at hdi
        obtain ⟨r, hr', rfl⟩ := Option.map_eq_some_iff.mp hdi
        obtain ⟨pa, rfl, hpa⟩ := pr_dp (dp_same s1 dx)
        have bad : okPrB n m r = false → RaiseF C "goal" H E := fun e => kn (by
          rw [Bool.eq_false_iff]
          intro z
          have q := List.all_eq_true.mp z r (List.mem_of_getElem? hr')
          rw [e] at q
          cases q)
        refine ⟨pa, _, rfl, hpa, rfl, ?_⟩
        refine ⟨_, _, rfl, _, _, rfl, _, _, rfl, rfl, ?_⟩
        refine ⟨_, rfl, _, _, rfl, rfl, _, rfl, ?_⟩
        by_cases p0 : 0 ≤ r.1
        · refine ifT (decide_eq_true p0) ⟨_, rfl, a, _, 1, _, rfl, rfl, Same.tup s1 ha, atI_nat (j := 1) rfl, af, _, rfl, .inl (s1.seq haf), _, _, rfl, rfl, _, rfl, ?_⟩
          rw [List.length_map]
          by_cases p1 : r.1 < n.firsts.length
          · refine ifF (by rw [decide_eq_true p1]; rfl) ?_
            refine ⟨_, rfl, _, _, rfl, rfl, _, rfl, ?_⟩
            by_cases q0 : 0 ≤ r.2.1
            · refine ifT (decide_eq_true q0) ⟨_, rfl, b, _, 1, _, rfl, rfl, Same.tup s1 hb, atI_nat (j := 1) rfl, bf, _, rfl, .inl (s1.seq hbf), _, _, rfl, rfl, _, rfl, ?_⟩
              rw [List.length_map]
              by_cases q1 : r.2.1 < m.firsts.length
              · refine ifF (by rw [decide_eq_true q1]; rfl) ?_
                refine ⟨_, rfl, (show 2 ≤ sizeLine by decide), fun tp ntp => ?_⟩
                have s2 := same_new (o := HO.tup [V.int 0, V.int 1]) ntp
                refine ⟨.int r.2.2, [.int 0, .int 1], .int _, .tup (SqT.of upd_same) (.cons (.int _) (.cons (.int _) .nil)), rfl, by decide +kernel, _, rfl, ?_⟩
                have et : (([PyData.int 0, .int 1].any fun z => PyData.eqv z (.int r.2.2))) = (decide (r.2.2 = 0) || decide (r.2.2 = 1)) := zero_one r.2.2
                rw [et]
                by_cases tt : (decide (r.2.2 = 0) || decide (r.2.2 = 1)) = true
                · refine ifF (by rw [tt]; rfl) ?_
                  refine ⟨_, _, _, rfl, s1.trans s2, ?_⟩
                  rw [take_snoc hr', List.all_append, hal, List.all_cons, List.all_nil]
                  unfold okPrB
                  rw [decide_eq_true p0, decide_eq_true p1, decide_eq_true q0, decide_eq_true q1, tt]
                  rfl
                · have tt := Bool.eq_false_iff.mpr tt
                  refine ifT (by rw [tt]; rfl) ?_
                  exact ⟨_, rfl, fun d hd => (bad (by unfold okPrB; rw [tt, Bool.and_false])).here (s1.trans s2) hd⟩
              · refine ifT (by rw [decide_eq_false q1]; rfl) ?_
                exact ⟨_, rfl, fun d hd => (bad (by unfold okPrB; rw [decide_eq_false q1]; simp)).here s1 hd⟩
            · refine ifF (decide_eq_false q0) ⟨_, rfl, ifT rfl ?_⟩
              exact ⟨_, rfl, fun d hd => (bad (by unfold okPrB; rw [decide_eq_false q0]; simp)).here s1 hd⟩
          · refine ifT (by rw [decide_eq_false p1]; rfl) ?_
            exact ⟨_, rfl, fun d hd => (bad (by unfold okPrB; rw [decide_eq_false p1]; simp)).here s1 hd⟩
        · refine ifF (decide_eq_false p0) ⟨_, rfl, ifT rfl ?_⟩
          exact ⟨_, rfl, fun d hd => (bad (by unfold okPrB; rw [decide_eq_false p0]; simp)).here s1 hd⟩
      · rintro σ H' ⟨o3, o4, o5, rfl, s1, hal⟩
        rw [xl, List.take_length] at hal
        exact ky hal _ s1
end
end Q41



set_option pp.maxSteps 1500
namespace Q41
open PySem L2 G M03 M41
open C8 (Cal Met Mak pe_c pe_mk pe_mt pe_mt0 pe_gc pss_cut tCut)
theorem eqv_str (a b : Str) (ha : PyData.strOk a = true) (hb : PyData.strOk b = true) : PyData.eqv (.str a) (.str b) = decide (b = a) := by
  rw [Bool.eq_iff_iff, eqv_iff rfl rfl (by simp [SeqAt.shaped, PyData.canLay0, PyData.depth, ha]), decide_eq_true_iff, PyData.str.injEq]
  exact eq_comm
theorem out_pair (t : Str) (h : PyData.strOk t = true) : ([PyData.str "output", .str "pair"].any fun z => PyData.eqv z (.str t)) = (decide (t = "output") || decide (t = "pair")) := by
  rw [List.any_cons, List.any_cons, List.any_nil, eqv_str _ _ (by decide +kernel) h, eqv_str _ _ (by decide +kernel) h, Bool.or_false]
def okGoal (f : Net) (ps : List Pr) (wd : Str) (k : Int) : Bool := if wd = "output" then decide (0 ≤ k) && decide (k < f.outs.length) else decide (wd = "pair") && (decide (0 ≤ k) && decide (k < ps.length))
def goalD (wd : Str) (k : Int) : PyData := .tuple [.str wd, .int k]
def wiresD (g : Int × Int × Int) : PyData := .tuple [.int g.1, .int g.2.1, .int g.2.2]
section
variable {P : Program} {w : World} {K : PySem.W.Frag} {mg : Str → Option Value} {base : Heap}
def spGoal (K : PySem.W.Frag) (C : Addr) : Sp := fun vs H Q E => ∃ (v u x g : V) (f s : Net) (ps : List Pr) (wd : Str) (k : Int), vs = [v, u, x, g] ∧ Dp K H v (netD f) ∧ Dp K H u (netD s) ∧ Prs K H x ps ∧ Dp K H g (goalD wd k) ∧ PyData.strOk wd = true ∧
  sameSz f s ∧ ps.all (okPrB f s) = true ∧ f.nexts.length = f.firsts.length ∧ s.nexts.length = s.firsts.length ∧ (okGoal f ps wd k = true → ∀ (z : V) (H' : Hp), Same H H' → Dp K H' z (wiresD (goalW f s ps wd k)) → Q z H') ∧ (okGoal f ps wd k = false → RaiseF C "goal" H E)
theorem ok_goal {C : Addr} {f : Addr} {fd : FuncData} (F : Fun K "goal_wires" "goal_wires" s_goal_wires f fd) (T : Txt K mg) (c_InvalidProof : Erm P w K mg base 1 "InvalidProof" C "what") : FnOk P w K mg base (L2.CX P w) 3 f fd ["first", "second", "pairs", "goal"] (spGoal K C) := by
  refine F.okX sc_goal_wires (fun vs H Q E h => ?_) (fun cdv A outer s H vs Q E hr h => ?_)
  · obtain ⟨v, u, x, g, n, m, ps, wd, k, rfl, _⟩ := h
    rfl
  · obtain ⟨v, u, x, g, n, m, ps, wd, k, rfl, hv, hu, hx, hg, hw, hsz, hps, hn1, hn2, ky, kn⟩ := h
    have hu65 := hu65_of hr
    obtain ⟨a, _, an, _, ao, _, rfl, ha, _, hN, _, _, hO⟩ := net_dp hv
    obtain ⟨b, _, bn, _, bo, _, rfl, hb, _, hN2, _, _, hO2⟩ := net_dp hu
    obtain ⟨ga, gs, rfl, hga, hgs⟩ := dp_tup hg
    cases hgs with
    | cons g0 hgs =>
      cases hgs with
      | cons g1 hgs =>
        cases hgs
        cases dp_str g0
        cases dp_int g1
        rcases hx with hx | hx
        · refine ⟨_, (pss_cons (ps_asg (pv 3) (pg_tup rfl (pgs_cons (pg_name (i := 4) sc_goal_wires.nd rfl (Or.inl rfl)) (pgs_cons (pg_name (i := 5) sc_goal_wires.nd rfl (Or.inl rfl)) pgs_nil))))
      (pss_cons (ps_set (i := 6) sc_goal_wires.nd rfl (Or.inl rfl) (pe_ifExp (pt_cmpR op_eq (pv 4) pe_str (nomark _)) (pe_callB call_len_seq (by rfl) T.b_len boot_len' (pa_cons (pe_ix ix_tup (pv 0) pe_int (fun _ _ => rfl)) pa_nil)) (pe_callB call_len_seq (by rfl) T.b_len boot_len' (pa_cons (pv 2) pa_nil))))
      (pss_cons (ps_if (PW.pt (pw_or (pt_cmpR (op_notInT hu65) (pv 4) (pe_tup (pa_cons pe_str (pa_cons pe_str pa_nil))) rfl) (pw_or1 (pt_not (pt_chain op_le op_lt pe_int (pv 5) (pv 6)))))) (pss_one (ps_raise rfl (takes_of rfl rfl rfl rfl) (pmk_e c_InvalidProof hr (by omega) rfl (pa_cons pe_str pa_nil)))) pss_nil)
      (pss_cons (ps_if (pt_cmpR op_eq (pv 4) pe_str (nomark _)) (pss_one (ps_ret (pe_tup (pa_cons (pe_ix ix_list (pe_ix ix_tup (pv 0) pe_int (fun _ _ => rfl)) (pv 5) (fun _ _ => rfl)) (pa_cons (pe_ix ix_list (pe_ix ix_tup (pv 1) pe_int (fun _ _ => rfl)) (pv 5) (fun _ _ => rfl)) (pa_cons pe_int pa_nil)))))) pss_nil)
      (pss_cons (ps_asg (pe_ix ix_list (pv 2) (pv 5) (fun _ _ => rfl)) (pg_tup rfl (pgs_cons (pg_name (i := 7) sc_goal_wires.nd rfl (Or.inl rfl)) (pgs_cons (pg_name (i := 8) sc_goal_wires.nd rfl (Or.inl rfl)) (pgs_cons (pg_name (i := 9) sc_goal_wires.nd rfl (Or.inl rfl)) pgs_nil)))))
      (pss_one (ps_ret (pe_tup (pa_cons (pe_ix ix_list (pe_ix ix_tup (pv 0) pe_int (fun _ _ => rfl)) (pv 7) (fun _ _ => rfl)) (pa_cons (pe_ix ix_list (pe_ix ix_tup (pv 1) pe_int (fun _ _ => rfl)) (pv 8) (fun _ _ => rfl)) (pa_cons (pv 9) pa_nil))))))))))), ?_⟩
          obtain ⟨c, xs, rfl, hc, hxs⟩ := dp_lst hx
          have xl : xs.length = ps.length := by rw [dps_len hxs, List.length_map]
          have shw : SeqAt.shaped (.str wd) = true := by simp [SeqAt.shaped, PyData.canLay0, PyData.depth, hw]
          refine ⟨_, rfl, ga, _, rfl, hga, rfl, ?_⟩
          refine ⟨_, _, rfl, _, _, rfl, rfl, ?_⟩
          by_cases e : wd = "output"
          · refine ⟨_, rfl, rfl, _, rfl, ifT (by rw [e]; decide) ⟨_, rfl, a, _, 4, _, rfl, rfl, ha, atI_nat (j := 4) rfl, ao, _, rfl, .inl hO, ?_⟩⟩
            rw [List.length_map]
            have ok : okGoal n ps wd k = (decide (0 ≤ k) && decide (k < n.outs.length)) := by unfold okGoal; rw [if_pos e]
            refine ⟨_, rfl, (show 2 ≤ sizeLine by decide), fun tp ntp => ?_⟩
            have s1 := same_new (o := HO.tup [V.str "output", V.str "pair"]) ntp
            refine ⟨.str wd, [.str "output", .str "pair"], .str _, .tup (SqT.of upd_same) (.cons (.str _) (.cons (.str _) .nil)), shw, by decide +kernel, _, rfl, ?_⟩
            refine ifF (by rw [out_pair wd hw, decide_eq_true e]; rfl) ?_
            refine ⟨_, rfl, _, _, rfl, rfl, _, rfl, ?_⟩
            by_cases k0 : 0 ≤ k
            · refine ifT (decide_eq_true k0) ⟨_, rfl, _, _, rfl, rfl, _, rfl, ?_⟩
              by_cases k1 : k < n.outs.length
              · refine ifF (by rw [decide_eq_true k1]; rfl) ?_
                refine ⟨_, rfl, rfl, _, rfl, ifT (by rw [e]; decide) ?_⟩
                have i1 : inR n.outs.length k = true := by unfold inR; rw [decide_eq_true k0, decide_eq_true k1]; rfl
                have i2 : inR m.outs.length k = true := by rw [← hsz.2]; exact i1
                refine ⟨_, rfl, a, _, 4, _, rfl, rfl, Same.tup s1 ha, atI_nat (j := 4) rfl, _, rfl, ao, _, _, _, rfl, rfl, s1.seq hO, nth_at i1, ?_⟩
                refine ⟨_, rfl, b, _, 4, _, rfl, rfl, Same.tup s1 hb, atI_nat (j := 4) rfl, _, rfl, bo, _, _, _, rfl, rfl, s1.seq hO2, nth_at i2, (show 3 ≤ sizeLine by decide), fun t nt => ?_⟩
                refine ky (by rw [ok, decide_eq_true k0, decide_eq_true k1]; rfl) _ _ (s1.trans (same_new nt)) ?_
                unfold goalW
                rw [if_pos e]
                exact .tup (SqT.of upd_same) (.cons (.int _) (.cons (.int _) (.cons (.int _) .nil)))
              · refine ifT (by rw [decide_eq_false k1]; rfl) ?_
                exact ⟨_, rfl, fun d hd => (kn (by rw [ok, decide_eq_false k1, Bool.and_false])).here s1 hd⟩
            · refine ifF (decide_eq_false k0) ⟨_, rfl, ifT rfl ?_⟩
              exact ⟨_, rfl, fun d hd => (kn (by rw [ok, decide_eq_false k0, Bool.false_and])).here s1 hd⟩
          · have ok : okGoal n ps wd k = (decide (wd = "pair") && (decide (0 ≤ k) && decide (k < ps.length))) := by unfold okGoal; rw [if_neg e]
            have ne : decide (V.str wd = V.str "output") = false := decide_eq_false fun z => e (V.str.inj z)
            refine ⟨_, rfl, rfl, _, rfl, ifF ne ⟨_, rfl, c, _, rfl, .inl hc, ?_⟩⟩
            rw [xl]
            refine ⟨_, rfl, (show 2 ≤ sizeLine by decide), fun tp ntp => ?_⟩
            have s1 := same_new (o := HO.tup [V.str "output", V.str "pair"]) ntp
            refine ⟨.str wd, [.str "output", .str "pair"], .str _, .tup (SqT.of upd_same) (.cons (.str _) (.cons (.str _) .nil)), shw, by decide +kernel, _, rfl, ?_⟩
            by_cases e2 : wd = "pair"
            · refine ifF (by rw [out_pair wd hw, decide_eq_true e2, Bool.or_true]; rfl) ?_
              refine ⟨_, rfl, _, _, rfl, rfl, _, rfl, ?_⟩
              by_cases k0 : 0 ≤ k
              · refine ifT (decide_eq_true k0) ⟨_, rfl, _, _, rfl, rfl, _, rfl, ?_⟩
                by_cases k1 : k < ps.length
                · refine ifF (by rw [decide_eq_true k1]; rfl) ?_
                  refine ⟨_, rfl, rfl, _, rfl, ifF ne ?_⟩
                  have kl : k.toNat < ps.length := by omega
                  obtain ⟨y, hy, dy⟩ := dps_get (i := k.toNat) (d := prD ps[k.toNat]) hxs (by rw [List.getElem?_map, List.getElem?_eq_getElem kl]; rfl)
                  obtain ⟨pa, rfl, hpa⟩ := pr_dp dy
                  have hat : atI xs k = some (.ref pa) := by
                    obtain ⟨kn, rfl⟩ := Int.eq_ofNat_of_zero_le k0
                    exact atI_nat hy
                  have hr1 := List.all_eq_true.mp hps _ (List.getElem_mem kl)
                  unfold okPrB at hr1
                  simp only [Bool.and_eq_true, decide_eq_true_eq] at hr1
                  obtain ⟨⟨⟨⟨p0, p1⟩, q0⟩, q1⟩, _⟩ := hr1
                  refine ⟨_, rfl, _, rfl, c, _, _, _, rfl, rfl, (s1.seq hc), hat, pa, _, rfl, Same.tup s1 hpa, rfl, ?_⟩
                  refine ⟨_, _, rfl, _, _, rfl, _, _, rfl, rfl, ?_⟩
                  refine ⟨_, rfl, a, _, 2, _, rfl, rfl, Same.tup s1 ha, atI_nat (j := 2) rfl, _, rfl, an, _, _, _, rfl, rfl, s1.seq hN, nth_at (by unfold inR; rw [hn1, decide_eq_true p0, decide_eq_true p1]; rfl), ?_⟩
                  refine ⟨_, rfl, b, _, 2, _, rfl, rfl, Same.tup s1 hb, atI_nat (j := 2) rfl, _, rfl, bn, _, _, _, rfl, rfl, s1.seq hN2, nth_at (by unfold inR; rw [hn2, decide_eq_true q0, decide_eq_true q1]; rfl), _, rfl, (show 3 ≤ sizeLine by decide), fun t nt => ?_⟩
                  refine ky (by rw [ok, decide_eq_true e2, decide_eq_true k0, decide_eq_true k1]; rfl) _ _ (s1.trans (same_new nt)) ?_
                  have eg : ps.getD k.toNat (0, 0, 0) = ps[k.toNat] := by rw [List.getD_eq_getElem?_getD, List.getElem?_eq_getElem kl]; rfl
                  unfold goalW
                  rw [if_neg e, eg]
                  exact .tup (SqT.of upd_same) (.cons (.int _) (.cons (.int _) (.cons (.int _) .nil)))
                · refine ifT (by rw [decide_eq_false k1]; rfl) ?_
                  exact ⟨_, rfl, fun d hd => (kn (by rw [ok, decide_eq_false k1, Bool.and_false, Bool.and_false])).here s1 hd⟩
              · refine ifF (decide_eq_false k0) ⟨_, rfl, ifT rfl ?_⟩
                exact ⟨_, rfl, fun d hd => (kn (by rw [ok, decide_eq_false k0, Bool.false_and, Bool.and_false])).here s1 hd⟩
            · refine ifT (by rw [out_pair wd hw, decide_eq_false e, decide_eq_false e2]; rfl) ?_
              exact ⟨_, rfl, fun d hd => (kn (by rw [ok, decide_eq_false e2, Bool.false_and])).here s1 hd⟩
        · refine ⟨_, (pss_cons (ps_asg (pv 3) (pg_tup rfl (pgs_cons (pg_name (i := 4) sc_goal_wires.nd rfl (Or.inl rfl)) (pgs_cons (pg_name (i := 5) sc_goal_wires.nd rfl (Or.inl rfl)) pgs_nil))))
      (pss_cons (ps_set (i := 6) sc_goal_wires.nd rfl (Or.inl rfl) (pe_ifExp (pt_cmpR op_eq (pv 4) pe_str (nomark _)) (pe_callB call_len_seq (by rfl) T.b_len boot_len' (pa_cons (pe_ix ix_tup (pv 0) pe_int (fun _ _ => rfl)) pa_nil)) (pe_callB call_len_seq (by rfl) T.b_len boot_len' (pa_cons (pv 2) pa_nil))))
      (pss_cons (ps_if (PW.pt (pw_or (pt_cmpR (op_notInT hu65) (pv 4) (pe_tup (pa_cons pe_str (pa_cons pe_str pa_nil))) rfl) (pw_or1 (pt_not (pt_chain op_le op_lt pe_int (pv 5) (pv 6)))))) (pss_one (ps_raise rfl (takes_of rfl rfl rfl rfl) (pmk_e c_InvalidProof hr (by omega) rfl (pa_cons pe_str pa_nil)))) pss_nil)
      (pss_cons (ps_if (pt_cmpR op_eq (pv 4) pe_str (nomark _)) (pss_one (ps_ret (pe_tup (pa_cons (pe_ix ix_list (pe_ix ix_tup (pv 0) pe_int (fun _ _ => rfl)) (pv 5) (fun _ _ => rfl)) (pa_cons (pe_ix ix_list (pe_ix ix_tup (pv 1) pe_int (fun _ _ => rfl)) (pv 5) (fun _ _ => rfl)) (pa_cons pe_int pa_nil)))))) pss_nil)
      (pss_cons (ps_asg (pe_ix ix_tup (pv 2) (pv 5) (fun _ _ => rfl)) (pg_tup rfl (pgs_cons (pg_name (i := 7) sc_goal_wires.nd rfl (Or.inl rfl)) (pgs_cons (pg_name (i := 8) sc_goal_wires.nd rfl (Or.inl rfl)) (pgs_cons (pg_name (i := 9) sc_goal_wires.nd rfl (Or.inl rfl)) pgs_nil)))))
      (pss_one (ps_ret (pe_tup (pa_cons (pe_ix ix_list (pe_ix ix_tup (pv 0) pe_int (fun _ _ => rfl)) (pv 7) (fun _ _ => rfl)) (pa_cons (pe_ix ix_list (pe_ix ix_tup (pv 1) pe_int (fun _ _ => rfl)) (pv 8) (fun _ _ => rfl)) (pa_cons (pv 9) pa_nil))))))))))), ?_⟩
          obtain ⟨c, xs, rfl, hc, hxs⟩ := dp_tup hx
          have xl : xs.length = ps.length := by rw [dps_len hxs, List.length_map]
          have shw : SeqAt.shaped (.str wd) = true := by simp [SeqAt.shaped, PyData.canLay0, PyData.depth, hw]
          refine ⟨_, rfl, ga, _, rfl, hga, rfl, ?_⟩
          refine ⟨_, _, rfl, _, _, rfl, rfl, ?_⟩
          by_cases e : wd = "output"
          · refine ⟨_, rfl, rfl, _, rfl, ifT (by rw [e]; decide) ⟨_, rfl, a, _, 4, _, rfl, rfl, ha, atI_nat (j := 4) rfl, ao, _, rfl, .inl hO, ?_⟩⟩
            rw [List.length_map]
            have ok : okGoal n ps wd k = (decide (0 ≤ k) && decide (k < n.outs.length)) := by unfold okGoal; rw [if_pos e]
            refine ⟨_, rfl, (show 2 ≤ sizeLine by decide), fun tp ntp => ?_⟩
            have s1 := same_new (o := HO.tup [V.str "output", V.str "pair"]) ntp
            refine ⟨.str wd, [.str "output", .str "pair"], .str _, .tup (SqT.of upd_same) (.cons (.str _) (.cons (.str _) .nil)), shw, by decide +kernel, _, rfl, ?_⟩
            refine ifF (by rw [out_pair wd hw, decide_eq_true e]; rfl) ?_
            refine ⟨_, rfl, _, _, rfl, rfl, _, rfl, ?_⟩
            by_cases k0 : 0 ≤ k
            · refine ifT (decide_eq_true k0) ⟨_, rfl, _, _, rfl, rfl, _, rfl, ?_⟩
              by_cases k1 : k < n.outs.length
              · refine ifF (by rw [decide_eq_true k1]; rfl) ?_
                refine ⟨_, rfl, rfl, _, rfl, ifT (by rw [e]; decide) ?_⟩
                have i1 : inR n.outs.length k = true := by unfold inR; rw [decide_eq_true k0, decide_eq_true k1]; rfl
                have i2 : inR m.outs.length k = true := by rw [← hsz.2]; exact i1
                refine ⟨_, rfl, a, _, 4, _, rfl, rfl, Same.tup s1 ha, atI_nat (j := 4) rfl, _, rfl, ao, _, _, _, rfl, rfl, s1.seq hO, nth_at i1, ?_⟩
                refine ⟨_, rfl, b, _, 4, _, rfl, rfl, Same.tup s1 hb, atI_nat (j := 4) rfl, _, rfl, bo, _, _, _, rfl, rfl, s1.seq hO2, nth_at i2, (show 3 ≤ sizeLine by decide), fun t nt => ?_⟩
                refine ky (by rw [ok, decide_eq_true k0, decide_eq_true k1]; rfl) _ _ (s1.trans (same_new nt)) ?_
                unfold goalW
                rw [if_pos e]
                exact .tup (SqT.of upd_same) (.cons (.int _) (.cons (.int _) (.cons (.int _) .nil)))
              · refine ifT (by rw [decide_eq_false k1]; rfl) ?_
                exact ⟨_, rfl, fun d hd => (kn (by rw [ok, decide_eq_false k1, Bool.and_false])).here s1 hd⟩
            · refine ifF (decide_eq_false k0) ⟨_, rfl, ifT rfl ?_⟩
              exact ⟨_, rfl, fun d hd => (kn (by rw [ok, decide_eq_false k0, Bool.false_and])).here s1 hd⟩
          · have ok : okGoal n ps wd k = (decide (wd = "pair") && (decide (0 ≤ k) && decide (k < ps.length))) := by unfold okGoal; rw [if_neg e]
            have ne : decide (V.str wd = V.str "output") = false := decide_eq_false fun z => e (V.str.inj z)
            refine ⟨_, rfl, rfl, _, rfl, ifF ne ⟨_, rfl, c, _, rfl, .inr hc, ?_⟩⟩
            rw [xl]
            refine ⟨_, rfl, (show 2 ≤ sizeLine by decide), fun tp ntp => ?_⟩
            have s1 := same_new (o := HO.tup [V.str "output", V.str "pair"]) ntp
            refine ⟨.str wd, [.str "output", .str "pair"], .str _, .tup (SqT.of upd_same) (.cons (.str _) (.cons (.str _) .nil)), shw, by decide +kernel, _, rfl, ?_⟩
            by_cases e2 : wd = "pair"
            · refine ifF (by rw [out_pair wd hw, decide_eq_true e2, Bool.or_true]; rfl) ?_
              refine ⟨_, rfl, _, _, rfl, rfl, _, rfl, ?_⟩
              by_cases k0 : 0 ≤ k
              · refine ifT (decide_eq_true k0) ⟨_, rfl, _, _, rfl, rfl, _, rfl, ?_⟩
                by_cases k1 : k < ps.length
                · refine ifF (by rw [decide_eq_true k1]; rfl) ?_
                  refine ⟨_, rfl, rfl, _, rfl, ifF ne ?_⟩
                  have kl : k.toNat < ps.length := by omega
                  obtain ⟨y, hy, dy⟩ := dps_get (i := k.toNat) (d := prD ps[k.toNat]) hxs (by rw [List.getElem?_map, List.getElem?_eq_getElem kl]; rfl)
                  obtain ⟨pa, rfl, hpa⟩ := pr_dp dy
                  have hat : atI xs k = some (.ref pa) := by
                    obtain ⟨kn, rfl⟩ := Int.eq_ofNat_of_zero_le k0
                    exact atI_nat hy
                  have hr1 := List.all_eq_true.mp hps _ (List.getElem_mem kl)
                  unfold okPrB at hr1
                  simp only [Bool.and_eq_true, decide_eq_true_eq] at hr1
                  obtain ⟨⟨⟨⟨p0, p1⟩, q0⟩, q1⟩, _⟩ := hr1
                  refine ⟨_, rfl, _, rfl, c, _, _, _, rfl, rfl, (Same.tup s1 hc), hat, pa, _, rfl, Same.tup s1 hpa, rfl, ?_⟩
                  refine ⟨_, _, rfl, _, _, rfl, _, _, rfl, rfl, ?_⟩
                  refine ⟨_, rfl, a, _, 2, _, rfl, rfl, Same.tup s1 ha, atI_nat (j := 2) rfl, _, rfl, an, _, _, _, rfl, rfl, s1.seq hN, nth_at (by unfold inR; rw [hn1, decide_eq_true p0, decide_eq_true p1]; rfl), ?_⟩
                  refine ⟨_, rfl, b, _, 2, _, rfl, rfl, Same.tup s1 hb, atI_nat (j := 2) rfl, _, rfl, bn, _, _, _, rfl, rfl, s1.seq hN2, nth_at (by unfold inR; rw [hn2, decide_eq_true q0, decide_eq_true q1]; rfl), _, rfl, (show 3 ≤ sizeLine by decide), fun t nt => ?_⟩
                  refine ky (by rw [ok, decide_eq_true e2, decide_eq_true k0, decide_eq_true k1]; rfl) _ _ (s1.trans (same_new nt)) ?_
                  have eg : ps.getD k.toNat (0, 0, 0) = ps[k.toNat] := by rw [List.getD_eq_getElem?_getD, List.getElem?_eq_getElem kl]; rfl
                  unfold goalW
                  rw [if_neg e, eg]
                  exact .tup (SqT.of upd_same) (.cons (.int _) (.cons (.int _) (.cons (.int _) .nil)))
                · refine ifT (by rw [decide_eq_false k1]; rfl) ?_
                  exact ⟨_, rfl, fun d hd => (kn (by rw [ok, decide_eq_false k1, Bool.and_false, Bool.and_false])).here s1 hd⟩
              · refine ifF (decide_eq_false k0) ⟨_, rfl, ifT rfl ?_⟩
                exact ⟨_, rfl, fun d hd => (kn (by rw [ok, decide_eq_false k0, Bool.false_and, Bool.and_false])).here s1 hd⟩
            · refine ifT (by rw [out_pair wd hw, decide_eq_false e, decide_eq_false e2]; rfl) ?_
              exact ⟨_, rfl, fun d hd => (kn (by rw [ok, decide_eq_false e2, Bool.false_and])).here s1 hd⟩
end
end Q41



set_option pp.maxSteps 1500
namespace Q41
open PySem L2 G M03 M41
open C8 (Cal Met Mak pe_c pe_mk pe_mt pe_mt0 pe_gc pss_cut tCut)
theorem noL_cl (c : Cl) : noL (clD c) = true := by
  unfold clD noL
  exact noLs_map fun _ _ => rfl
theorem noLs_cls (cs : List Cl) : noLs (cs.map clD) = true := noLs_map fun c _ => noL_cl c
theorem nth_mem {xs : List Int} {k : Int} (h : inR xs.length k = true) : nth xs k ∈ xs := by
  unfold inR at h
  simp only [Bool.and_eq_true, decide_eq_true_eq] at h
  have l : k.toNat < xs.length := by omega
  unfold nth
  rw [List.getD_eq_getElem?_getD, List.getElem?_eq_getElem l]
  exact List.getElem_mem l
theorem goal_in {f s : Net} {ps : List Pr} {wd : Str} {k : Int} (sz : sameSz f s) (ok1 : okNet f = true) (ok2 : okNet s = true) (hp : ps.all (okPrB f s) = true) (hg : okGoal f ps wd k = true) :
    inR (wn f) (goalW f s ps wd k).1 = true ∧ inR (wn s) (goalW f s ps wd k).2.1 = true ∧ ((goalW f s ps wd k).2.2 = 0 ∨ (goalW f s ps wd k).2.2 = 1) := by
  have n1 := (okNet_parts ok1).2.2.1
  have n2 := (okNet_parts ok2).2.2.1
  have a1 := (okNet_parts ok1).2.2.2.2
  have a2 := (okNet_parts ok2).2.2.2.2
  unfold okGoal at hg
  unfold goalW
  by_cases e : wd = "output"
  · rw [if_pos e] at hg ⊢
    have i1 : inR f.outs.length k = true := hg
    exact ⟨a1 _ (List.mem_append_right _ (nth_mem i1)), a2 _ (List.mem_append_right _ (nth_mem (sz.2 ▸ i1))), .inl rfl⟩
  · rw [if_neg e] at hg ⊢
    simp only [Bool.and_eq_true, decide_eq_true_eq] at hg
    have kl : k.toNat < ps.length := by omega
    have eg : ps.getD k.toNat (0, 0, 0) = ps[k.toNat] := by rw [List.getD_eq_getElem?_getD, List.getElem?_eq_getElem kl]; rfl
    have hr := List.all_eq_true.mp hp _ (List.getElem_mem kl)
    unfold okPrB at hr
    simp only [Bool.and_eq_true, decide_eq_true_eq, Bool.or_eq_true] at hr
    obtain ⟨⟨⟨⟨p0, p1⟩, q0⟩, q1⟩, t⟩ := hr
    rw [eg]
    refine ⟨a1 _ (List.mem_append_left _ (nth_mem (by unfold inR; rw [n1, decide_eq_true p0, decide_eq_true p1]; rfl))), a2 _ (List.mem_append_left _ (nth_mem (by unfold inR; rw [n2, decide_eq_true q0, decide_eq_true q1]; rfl))), t⟩
section
variable {P : Program} {w : World} {K : PySem.W.Frag} {mg : Str → Option Value} {base : Heap}
/-- a list that is being made: clauses -/
def Fnd (K : PySem.W.Frag) (H1 : Hp) (pf : Addr) (cs : List Cl) (H : Hp) : Prop := ∃ xs : List V, Same H1 H ∧ H pf = some (.lst xs) ∧ DpAll K H xs (cs.map clD)
theorem Fnd.ext {H1 H H2 : Hp} {pf : Addr} {cs ds : List Cl} {ys : List V} (n : H1 pf = none) (h : Fnd K H1 pf cs H) (s : Same H H2) (hd : DpAll K H2 ys (ds.map clD)) (hl : cs.length + ds.length ≤ 100000) :
    ∃ xs, H2 pf = some (.lst xs) ∧ xs.length + ys.length ≤ sizeLine ∧ Fnd K H1 pf (cs ++ ds) (upd H2 pf (.lst (xs ++ ys))) ∧ But pf H (upd H2 pf (.lst (xs ++ ys))) := by
  obtain ⟨xs, s1, h1, h2⟩ := h
  have hp := s _ _ h1
  refine ⟨xs, hp, size_of (by rw [dps_len h2, dps_len hd, List.length_map, List.length_map]; exact hl), ⟨xs ++ ys, same_mut (s1.trans s) n, upd_same, ?_⟩, (But.of s).trans but_upd⟩
  rw [List.map_append]
  have K1 : KeepT H2 (upd H2 pf (.lst (xs ++ ys))) := KeepT.upd (KeepT.of_same (Same.refl _)) hp
  exact dps_app (dps_keep K1 (noLs_cls _) (dps_same s h2)) (dps_keep K1 (noLs_cls _) hd)
theorem Fnd.same {H1 H H' : Hp} {pf : Addr} {cs : List Cl} (s : Same H H') (h : Fnd K H1 pf cs H) : Fnd K H1 pf cs H' := let ⟨xs, s1, h1, h2⟩ := h; ⟨xs, s1.trans s, s _ _ h1, dps_same s h2⟩
theorem KeepT.del {H : Hp} {D : Addr} {xs : List V} (h : H D = some (.lst xs)) : KeepT H (del1 H D) := fun b u e n => by
  have ne : b ≠ D := fun z => by
    rw [z, h] at e
    exact n _ (Option.some.inj e).symm
  rw [del1_ne ne]
  exact e
theorem okG_le {w w' : Int} {g : Gate} (h : okG w g = true) (l : w ≤ w') : okG w' g = true := by
  unfold okG at h ⊢
  simp only [Bool.and_eq_true, List.all_eq_true] at h ⊢
  refine ⟨h.1, fun x hx => ?_⟩
  have q := h.2 x hx
  unfold inR at q ⊢
  simp only [Bool.and_eq_true, decide_eq_true_eq] at q ⊢
  omega
def intOf : PyData → Int
  | .int i => i
  | _ => 0
def ordD : PyData → PyData
  | .tuple ds => clD (ordC (ds.map intOf))
  | d => d
theorem ordD_cl (c : Cl) : ordD (clD c) = clD (ordC c) := by
  unfold clD ordD intsD
  dsimp only
  rw [List.map_map, show intOf ∘ PyData.int = id from rfl, List.map_id]
  rfl
theorem xorC_cl {z x y : Int} : ∀ c ∈ xorC z x y, c.length ≤ 60 := by
  intro c hc
  unfold xorC at hc
  simp only [List.mem_cons, List.not_mem_nil, or_false] at hc
  rcases hc with rfl | rfl | rfl | rfl <;> simp
theorem gatesC_cl (ns : List Int) (b : Int) (gs : List Gate) (i : Nat) : ∀ c ∈ gatesC ns b gs i, c.length ≤ 60 := by
  intro c hc
  obtain ⟨l, hl, hc⟩ := List.mem_flatten.mp hc
  obtain ⟨k, _, rfl⟩ := List.mem_map.mp hl
  unfold gateC at hc
  dsimp only at hc
  split at hc
  · simp only [List.mem_cons, List.not_mem_nil, or_false] at hc
    rcases hc with rfl | rfl <;> simp
  · split at hc
    · simp only [List.mem_cons, List.not_mem_nil, or_false] at hc
      rcases hc with rfl | rfl | rfl <;> simp
    · split at hc
      · simp only [List.mem_cons, List.not_mem_nil, or_false] at hc
        rcases hc with rfl | rfl | rfl <;> simp
      · split at hc
        · exact xorC_cl c hc
        · simp only [List.mem_cons, List.not_mem_nil, or_false] at hc
          rcases hc with rfl | rfl | rfl | rfl <;> simp
theorem given_cl {f s : Net} {ps : List Pr} {g : Int × Int × Int} (c : Cl) (h : c ∈ givenC f s ps g) : c.length ≤ 60 := by
  unfold givenC headC at h
  rcases List.mem_append.mp h with h | h
  · rcases List.mem_append.mp h with h | h
    · rcases List.mem_append.mp h with h | h
      · rcases List.mem_append.mp h with h | h
        · rcases List.mem_append.mp h with h | h
          · rw [List.mem_singleton.mp h]
            simp
          · obtain ⟨l, hl, hc⟩ := List.mem_flatten.mp h
            obtain ⟨r, _, rfl⟩ := List.mem_map.mp hl
            unfold pairC at hc
            dsimp only at hc
            split at hc
            · simp only [List.mem_cons, List.not_mem_nil, or_false] at hc
              rcases hc with rfl | rfl <;> simp
            · simp only [List.mem_cons, List.not_mem_nil, or_false] at hc
              rcases hc with rfl | rfl <;> simp
        · exact gatesC_cl _ _ _ _ c h
      · exact gatesC_cl _ _ _ _ c h
    · exact xorC_cl c h
  · rw [List.mem_singleton.mp h]
    split <;> simp
theorem one_len (f : Net) : (one f).length = (wn f).toNat := rg_len _ _
theorem two_len {f s : Net} (h : Small s) : (two f s).length = (wn s).toNat := by
  obtain ⟨a, b, c, d, e, g⟩ := h
  unfold two
  rw [List.length_append, rg_len, rg_len]
  unfold wn w0
  omega
/-- what the two nets' gates give -/
def gpart (f s : Net) : Nat → List Cl
  | 0 => []
  | 1 => gatesC (one f) (w0 f) f.gates f.gates.length
  | _ => gatesC (one f) (w0 f) f.gates f.gates.length ++ gatesC (two f s) (w0 s) s.gates s.gates.length
theorem gateC_len (ns : List Int) (g : Gate) (z : Int) : (gateC ns g z).length ≤ 4 := by
  unfold gateC xorC
  dsimp only
  split
  · simp
  · split
    · simp
    · split
      · simp
      · split <;> simp
theorem gatesC_len (ns : List Int) (b : Int) (gs : List Gate) : ∀ i, (gatesC ns b gs i).length ≤ 4 * i
  | 0 => Nat.le_refl _
  | i + 1 => by
    rw [gatesC_succ, List.length_append]
    have := gatesC_len ns b gs i
    have := gateC_len ns (gs.getD i ("", [])) (nth ns (b + i))
    omega
theorem pairsC_len (f s : Net) : ∀ ps : List Pr, (pairsC f s ps).length = 2 * ps.length
  | [] => rfl
  | r :: t => by
    show (pairC f s r ++ pairsC f s t).length = _
    rw [List.length_append, pairsC_len f s t, List.length_cons]
    have : (pairC f s r).length = 2 := by
      unfold pairC
      dsimp only
      split <;> rfl
    omega
def spGiven (K : PySem.W.Frag) (C1 C2 : Addr) : Sp := fun vs H Q E => ∃ (v u x g : V) (f s : Net) (ps : List Pr) (wd : Str) (k : Int), vs = [v, u, x, g] ∧ Dp K H v (netD f) ∧ Dp K H u (netD s) ∧ Prs K H x ps ∧ Dp K H g (goalD wd k) ∧ PyData.strOk wd = true ∧
  Small f ∧ Small s ∧ ps.length ≤ 100 ∧ (sameSz f s → okNet f = true ∧ okNet s = true) ∧ (¬ sameSz f s → RaiseF C1 "sizes" H E) ∧ (sameSz f s → ps.all (okPrB f s) = false → RaiseF C2 "goal" H E) ∧
  (sameSz f s → ps.all (okPrB f s) = true → okGoal f ps wd k = false → RaiseF C2 "goal" H E) ∧ (sameSz f s → ps.all (okPrB f s) = true → okGoal f ps wd k = true →
    ∀ (p : Addr) (xs : List V) (H' : Hp), Same H H' → H p = none → H' p = some (.lst xs) → DpAll K H' xs ((givenC f s ps (goalW f s ps wd k)).map fun c => clD (ordC c)) → Q (.ref p) H')
structure CalsG (P : Program) (w : World) (K : PySem.W.Frag) (mg : Str → Option Value) (base : Heap) (C1 C2 : Addr) : Prop where
  sizes : CalX P w K mg base 3 "check_sizes" (spSizes K C1)
  pairs : CalX P w K mg base 3 "check_pairs" (spPairs K C2)
  goal : CalX P w K mg base 3 "goal_wires" (spGoal K C2)
  names : Cal P w K mg base 2 "first_names" (spNames K) []
  names2 : Cal P w K mg base 2 "second_names" (spNames2 K) []
  pairC : Cal P w K mg base 1 "pair_clauses" (spPairC K) []
  gateC : Cal P w K mg base 2 "gate_clauses" (spGateC K) []
  last : Cal P w K mg base 2 "last_name" (spLast K) []
  xor : Cal P w K mg base 1 "xor_clauses" (spXor K) []
  ord : Cal P w K mg base 1 "put_in_order" (spOrd K) []
theorem ok_given {C1 C2 : Addr} {f : Addr} {fd : FuncData} (F : Fun K "given_clauses" "given_clauses" s_given_clauses f fd) (T : Txt K mg) (c : CalsG P w K mg base C1 C2) : FnOk P w K mg base (L2.CX P w) 4 f fd ["first", "second", "pairs", "goal"] (spGiven K C1 C2) := by
  refine F.okX sc_given_clauses (fun vs H Q E h => ?_) (fun cdv A outer s H vs Q E hr h => ?_)
  · obtain ⟨v, u, x, g, n, m, ps, wd, k, rfl, _⟩ := h
    rfl
  · obtain ⟨v, u, x, g, n, m, ps, wd, k, rfl, hv, hu, hx, hg, hw, sn, sm, hpl, hok, k1, k2, k3, k4⟩ := h
    have c_check_sizes := c.sizes
    have c_check_pairs := c.pairs
    have c_goal_wires := c.goal
    have c_first_names := c.names
    have c_second_names := c.names2
    have c_pair_clauses := c.pairC
    have c_gate_clauses := c.gateC
    have c_last_name := c.last
    have c_xor_clauses := c.xor
    have c_put_in_order := c.ord
    rcases hx with hx | hx
    · refine ⟨_, (pss_cons (ps_expr (pe_cx c_check_sizes hr (by omega) rfl (takes_of rfl rfl rfl rfl) (pa_cons (pv 0) (pa_cons (pv 1) pa_nil))))
      (pss_cons (ps_expr (pe_cx c_check_pairs hr (by omega) rfl (takes_of rfl rfl rfl rfl) (pa_cons (pv 0) (pa_cons (pv 1) (pa_cons (pv 2) pa_nil)))))
      (pss_cons (ps_asg (pe_cx c_goal_wires hr (by omega) rfl (takes_of rfl rfl rfl rfl) (pa_cons (pv 0) (pa_cons (pv 1) (pa_cons (pv 2) (pa_cons (pv 3) pa_nil))))) (pg_tup rfl (pgs_cons (pg_name (i := 4) sc_given_clauses.nd rfl (Or.inl rfl)) (pgs_cons (pg_name (i := 5) sc_given_clauses.nd rfl (Or.inl rfl)) (pgs_cons (pg_name (i := 6) sc_given_clauses.nd rfl (Or.inl rfl)) pgs_nil)))))
      (pss_cons (ps_par (i := 7) (j := 8) (by rfl) sc_given_clauses.nd rfl rfl (by decide) rfl rfl (pa_cons (pe_c c_first_names hr (by omega) rfl (pa_cons (pv 0) pa_nil)) (pa_cons (pe_c c_second_names hr (by omega) rfl (pa_cons (pv 0) (pa_cons (pv 1) pa_nil))) pa_nil)) (by rfl))
      (pss_cons (ps_set (i := 9) sc_given_clauses.nd rfl (Or.inl rfl) (pe_lst (pa_cons (pe_tup (pa_cons (pe_un un_neg pe_int) pa_nil)) pa_nil)))
      (pss_cons (ps_for (passes_of rfl) rfl (pi_list (pv 2)) (pg_name (i := 10) sc_given_clauses.nd rfl (Or.inl rfl)) (pss_one (ps_expr (pe_bm PySem.F.plainAttrs_list PySem.F.slot_list_extend PySem.F.type_list_extend mt_extend (pv 9) (pa_cons (pe_c c_pair_clauses hr (by omega) rfl (pa_cons (pv 10) (pa_cons (pv 0) (pa_cons (pv 7) (pa_cons (pv 8) pa_nil))))) pa_nil)))))
      (pss_cons (ps_for (passes_of rfl) rfl (pi_tup (pe_tup (pa_cons (pe_tup (pa_cons (pv 0) (pa_cons (pv 7) pa_nil))) (pa_cons (pe_tup (pa_cons (pv 1) (pa_cons (pv 8) pa_nil))) pa_nil)))) (pg_tup rfl (pgs_cons (pg_name (i := 11) sc_given_clauses.nd rfl (Or.inl rfl)) (pgs_cons (pg_name (i := 12) sc_given_clauses.nd rfl (Or.inl rfl)) pgs_nil))) (pss_cons (ps_set (i := 13) sc_given_clauses.nd rfl (Or.inl rfl) (pe_op op_add (pe_op op_add pe_int (pe_ix ix_tup (pv 11) pe_int (fun _ _ => rfl))) (pe_callB call_len_seq (by rfl) T.b_len boot_len' (pa_cons (pe_ix ix_tup (pv 11) pe_int (fun _ _ => rfl)) pa_nil))))
      (pss_one (ps_for (passes_of rfl) rfl (pi_enum (by rfl) T.b_enumerate (pa_cons (pe_ix ix_tup (pv 11) pe_int (fun _ _ => rfl)) pa_nil)) (pg_tup rfl (pgs_cons (pg_name (i := 14) sc_given_clauses.nd rfl (Or.inl rfl)) (pgs_cons (pg_name (i := 15) sc_given_clauses.nd rfl (Or.inl rfl)) pgs_nil))) (pss_one (ps_expr (pe_bm PySem.F.plainAttrs_list PySem.F.slot_list_extend PySem.F.type_list_extend mt_extend (pv 9) (pa_cons (pe_c c_gate_clauses hr (by omega) rfl (pa_cons (pv 15) (pa_cons (pe_ix ix_list (pv 12) (pe_op op_add (pv 13) (pv 14)) (fun _ _ => rfl)) (pa_cons (pv 12) pa_nil)))) pa_nil))))))))
      (pss_cons (ps_set (i := 16) sc_given_clauses.nd rfl (Or.inl rfl) (pe_c c_last_name hr (by omega) rfl (pa_cons (pv 0) (pa_cons (pv 1) pa_nil))))
      (pss_cons (ps_expr (pe_bm PySem.F.plainAttrs_list PySem.F.slot_list_extend PySem.F.type_list_extend mt_extend (pv 9) (pa_cons (pe_c c_xor_clauses hr (by omega) rfl (pa_cons (pv 16) (pa_cons (pe_ix ix_list (pv 7) (pv 4) (fun _ _ => rfl)) (pa_cons (pe_ix ix_list (pv 8) (pv 5) (fun _ _ => rfl)) pa_nil)))) pa_nil)))
      (pss_cons (ps_expr (pe_bm PySem.F.plainAttrs_list PySem.F.slot_list_append PySem.F.type_list_append mt_append (pv 9) (pa_cons (pe_ifExp (pt_truth (pv 6) (by intro _; rfl)) (pe_tup (pa_cons (pe_un un_neg (pv 16)) pa_nil)) (pe_tup (pa_cons (pv 16) pa_nil))) pa_nil)))
      (pss_one (ps_ret (pe_lc (own := [("clause", 17)]) rfl sc_given_clauses.nd (pi_list (pv 9)) (blkOk_by (own := [("clause", 17)]) (N := ["first", "second", "pairs", "goal", "x", "y", "turned", "one", "two", "found", "pair", "net", "names", "begin", "at", "gate", "z", "clause"]) (sc := defScope s_given_clauses) (by decide +kernel)) (fun _ _ _ _ _ => (pg_name (i := 17) sc_given_clauses.nd rfl (Or.inl rfl))) (fun _ _ _ _ _ => pts_nil) (fun _ _ _ _ _ => (pe_c c_put_in_order hr (by omega) rfl (pa_cons (pv 17) pa_nil)))))))))))))))), ?_⟩
      obtain ⟨a, _, _, _, _, _, rfl, ha, _⟩ := net_dp hv
      obtain ⟨b, _, _, _, _, _, rfl, hb, _⟩ := net_dp hu
      obtain ⟨c, xs, rfl, hc, hxs⟩ := dp_lst hx
      refine ⟨_, rfl, _, rfl, .ref a, .ref b, n, m, rfl, hv, hu, fun sz => ?_, k1⟩
      have k2 := k2 sz
      have k3 := k3 sz
      have k4 := k4 sz
      obtain ⟨ok1, ok2⟩ := hok sz
      refine ⟨_, rfl, _, rfl, _, rfl, .ref a, .ref b, .ref c, n, m, ps, rfl, hv, hu, .inl hx, by omega, fun hps H1 s1 => ?_, k2⟩
      have k3 := k3 hps
      have k4 := k4 hps
      refine ⟨_, rfl, _, rfl, _, rfl, _, rfl, .ref a, .ref b, .ref c, g, n, m, ps, wd, k, rfl, dp_same s1 hv, dp_same s1 hu, .inl (dp_same s1 hx), dp_same s1 hg, hw, sz, hps, (okNet_parts ok1).2.2.1, (okNet_parts ok2).2.2.1, fun hgo z H2 s2 dz => ?_, fun e => RaiseF.later s1 (k3 e)⟩
      have k4 := k4 hgo
      have hin := goal_in sz ok1 ok2 hps hgo
      generalize goalW n m ps wd k = gw at dz k4 hin
      obtain ⟨gx, gy, gt⟩ := gw
      obtain ⟨hgx, hgy, hgt01⟩ := hin
      obtain ⟨za, zs, rfl, hz, hzs⟩ := dp_tup dz
      cases dps_ints_of (ns := [gx, gy, gt]) hzs
      refine ⟨za, _, rfl, hz, rfl, ?_⟩
      refine ⟨_, _, rfl, _, _, rfl, _, _, rfl, rfl, ?_⟩
      have S2 := s1.trans s2
      refine ⟨_, rfl, .ref a, n, rfl, dp_same S2 hv, sn, fun p1 np1 => ?_⟩
      have s3 := same_new (o := HO.lst ((one n).map V.int)) np1
      refine ⟨_, rfl, _, rfl, .ref a, .ref b, n, m, rfl, dp_same (S2.trans s3) hv, dp_same (S2.trans s3) hu, sn, sm, fun p2 H4 s4 hp2 => ?_⟩
      have hp1 := s4 _ _ (upd_same (H := H2) (a := p1) (o := HO.lst ((one n).map V.int)))
      have S4 := (S2.trans s3).trans s4
      refine ⟨_, _, rfl, ?_⟩
      refine ⟨_, rfl, (show 1 ≤ sizeLine by decide), fun t0 nt0 => ⟨(show 1 ≤ sizeLine by decide), fun pf npf => ?_⟩⟩
      have s5 := same_new (o := HO.tup [V.int (-1)]) nt0
      have S5 := S4.trans s5
      have hp1 := s5 _ _ hp1
      have hp2 := s5 _ _ hp2
      have t0h : upd H4 t0 (.tup [V.int (-1)]) t0 = some (.tup [V.int (-1)]) := upd_same
      generalize upd H4 t0 (.tup [V.int (-1)]) = H5 at s5 S5 hp1 hp2 t0h npf
      have F0 : Fnd K H5 pf [[-1]] (upd H5 pf (.lst [V.ref t0])) := ⟨_, same_new npf, upd_same, .cons (.tup (SqT.of (same_new npf _ _ t0h)) (dps_ints [-1])) .nil⟩
      have ol := one_len n
      have tl := two_len (f := n) sm
      -- pairs
      refine ⟨_, rfl, c, rfl, ⟨_, (S5.trans (same_new npf)).seq hc⟩, for_list (K := K) (a := c) (xs := xs) (fun i σ H' => ∃ (o10 : Option V), σ = [some (.ref a), some (.ref b), some (.ref c), some g, some (.int gx), some (.int gy), some (.int gt), some (.ref p1), some (.ref p2), some (.ref pf), o10, none, none, none, none, none, none, none] ∧
        Fnd K H5 pf ([[-1]] ++ pairsC n m (ps.take i)) H') ⟨none, rfl, F0⟩ ?_ ?_ ?_⟩
      · rintro i σ H' _ ⟨_, _, _, sF, _⟩
        exact (S5.trans sF).seq hc
      · rintro i y σ H' hi ⟨o10, rfl, FF⟩
        obtain ⟨d, hdi, dx⟩ := dps_getv hxs hi
        rw [List.getElem?_map] at hdi
        obtain ⟨r, hr', rfl⟩ := Option.map_eq_some_iff.mp hdi
        obtain ⟨fx, sF, hpf, _⟩ := id FF
        have SF := S5.trans sF
        have hr1 := List.all_eq_true.mp hps _ (List.mem_of_getElem? hr')
        unfold okPrB at hr1
        simp only [Bool.and_eq_true, decide_eq_true_eq] at hr1
        obtain ⟨⟨⟨⟨q0, q1⟩, q2⟩, q3⟩, _⟩ := hr1
        have i1 : inR (one n).length (1 + n.inp + r.1) = true := by
          have := sn.1
          unfold inR
          rw [ol]
          unfold wn w0
          simp only [Bool.and_eq_true, decide_eq_true_eq]
          omega
        have i2 : inR (two n m).length (1 + n.inp + r.2.1) = true := by
          have := sn.1
          have := sz.1
          unfold inR
          rw [tl]
          unfold wn w0
          simp only [Bool.and_eq_true, decide_eq_true_eq]
          omega
        refine ⟨_, rfl, .inl ⟨rfl, _, SqL.of hpf⟩, _, rfl, _, rfl, _, rfl, _, rfl, y, .ref a, p1, p2, r, n, m, rfl, dp_same SF dx, dp_same SF hv, SqL.of (sF _ _ hp1), SqL.of (sF _ _ hp2), i1, i2, fun q ys H3 s3' nq hq dq => ?_⟩
        have il : i < ps.length := (List.getElem?_eq_some_iff.mp hr').1
        have pl2 : (pairC n m r).length = 2 := by
          unfold pairC
          dsimp only
          split <;> rfl
        obtain ⟨zs, z1, z2, F6, _⟩ := Fnd.ext npf FF s3' dq (by
          rw [List.length_append, pairsC_len, List.length_take, pl2]
          simp only [List.length_singleton]
          omega)
        refine ⟨pf, q, zs, ys, rfl, rfl, z1, hq, z2, _, rfl, ?_⟩
        rw [take_snoc hr', pairsC_snoc, ← List.append_assoc]
        exact F6
      · rintro σ H6 ⟨o10, rfl, F6⟩
        have xl : xs.length = ps.length := by rw [dps_len hxs, List.length_map]
        rw [xl, List.take_length] at F6
        have PL := pairsC_len n m ps
        generalize hcs : [[-1]] ++ pairsC n m ps = cs at F6
        have cl : cs.length ≤ 300 := by rw [← hcs, List.length_append, PL]; simp only [List.length_singleton]; omega
        -- gates
        refine ⟨_, rfl, _, rfl, (show 2 ≤ sizeLine by decide), fun t1 nt1 => ⟨_, rfl, _, rfl, (show 2 ≤ sizeLine by decide), fun t2 nt2 => ⟨(show 2 ≤ sizeLine by decide), fun t3 nt3 => ?_⟩⟩⟩
        have u1 := same_new (o := HO.tup [V.ref a, V.ref p1]) nt1
        have u2 := same_new (o := HO.tup [V.ref b, V.ref p2]) nt2
        have u3 := same_new (o := HO.tup [V.ref t1, V.ref t2]) nt3
        have F7 := Fnd.same ((u1.trans u2).trans u3) F6
        obtain ⟨_, sF6, _, _⟩ := id F6
        have e1 := (u2.trans u3) _ _ (upd_same (H := H6) (a := t1) (o := HO.tup [V.ref a, V.ref p1]))
        have e2 := u3 _ _ (upd_same (H := upd H6 t1 (.tup [V.ref a, V.ref p1])) (a := t2) (o := HO.tup [V.ref b, V.ref p2]))
        have e3 : upd (upd (upd H6 t1 (.tup [V.ref a, V.ref p1])) t2 (.tup [V.ref b, V.ref p2])) t3 (.tup [V.ref t1, V.ref t2]) t3 = some (.tup [V.ref t1, V.ref t2]) := upd_same
        generalize upd (upd (upd H6 t1 (.tup [V.ref a, V.ref p1])) t2 (.tup [V.ref b, V.ref p2])) t3 (.tup [V.ref t1, V.ref t2]) = H7 at F7 e1 e2 e3
        refine ⟨t3, rfl, ⟨_, SqT.of e3⟩, for_tup (K := K) (a := t3) (xs := [V.ref t1, V.ref t2]) (fun i σ H' => ∃ (o11 o12 o13 o14 o15 : Option V), σ = [some (.ref a), some (.ref b), some (.ref c), some g, some (.int gx), some (.int gy), some (.int gt), some (.ref p1), some (.ref p2), some (.ref pf), o10, o11, o12, o13, o14, o15, none, none] ∧
          Fnd K H5 pf (cs ++ gpart n m i) H' ∧ But pf H7 H') ⟨none, none, none, none, none, rfl, by rw [show gpart n m 0 = [] from rfl, List.append_nil]; exact F7, But.refl _ _⟩ ?_ ?_ ?_⟩
        · rintro i σ H' _ ⟨_, _, _, _, _, _, _, q⟩
          obtain ⟨_, _, hpf7, _⟩ := id F7
          exact SqT.of (q _ _ (fun z => by rw [z, hpf7] at e3; cases e3) e3)
        · rintro i y σ H' hi ⟨o11, o12, o13, o14, o15, rfl, FF, kp⟩
          obtain ⟨fx, sF, hpf, _⟩ := id FF
          have SF := S5.trans sF
          obtain ⟨_, _, hpf7, _⟩ := id F7
          have key : ∃ (tt q : Addr) (N : Net) (pl : Addr) (ns : List Int), y = .ref tt ∧ SqT K H' tt [.ref q, .ref pl] ∧ Dp K H5 (.ref q) (netD N) ∧ SqL K H5 pl (ns.map V.int) ∧ (ns.length : Int) = wn N ∧ okNet N = true ∧ Small N ∧ gpart n m (i + 1) = gpart n m i ++ gatesC ns (w0 N) N.gates N.gates.length ∧ (gpart n m i).length ≤ 1000 := by
            have w1 := (wn_small sn).1
            have w2 := (wn_small sm).1
            match i, hi with
            | 0, hi =>
              cases hi
              refine ⟨t1, a, n, p1, one n, rfl, SqT.of (kp _ _ (fun z => by rw [z, hpf7] at e1; cases e1) e1), dp_same S5 hv, SqL.of hp1, by rw [ol]; omega, ok1, sn, rfl, Nat.zero_le _⟩
            | 1, hi =>
              cases hi
              refine ⟨t2, b, m, p2, two n m, rfl, SqT.of (kp _ _ (fun z => by rw [z, hpf7] at e2; cases e2) e2), dp_same S5 hu, SqL.of hp2, by rw [tl]; omega, ok2, sm, rfl, ?_⟩
              have := gatesC_len (one n) (w0 n) n.gates n.gates.length
              have := sn.2.2.2.2.1
              show (gatesC (one n) (w0 n) n.gates n.gates.length).length ≤ 1000
              omega
            | i + 2, hi => cases hi
          obtain ⟨tt, q, N, pl, ns, rfl, htt, dN, hpl', nl, okN, sN, hgp, gl⟩ := key
          obtain ⟨qa, qf, _, qg, _, xg, qe, hq, hqF, _, hqG, hqGs, _⟩ := net_dp dN
          cases qe
          refine ⟨tt, _, rfl, htt, rfl, ?_⟩
          refine ⟨_, _, rfl, _, _, rfl, rfl, ?_⟩
          refine ⟨_, rfl, q, _, 0, _, rfl, rfl, Same.tup sF hq, atI_nat (j := 0) rfl, _, _, rfl, rfl, _, rfl, q, _, 1, _, rfl, rfl, Same.tup sF hq, atI_nat (j := 1) rfl, qf, _, rfl, .inl (sF.seq hqF), _, _, rfl, rfl, ?_⟩
          rw [List.length_map]
          change gName 13 (.int (w0 N)) _ _ _
          have xgl : xg.length = N.gates.length := by rw [dps_len hqGs, List.length_map]
          refine ⟨_, rfl, q, _, 3, _, rfl, rfl, Same.tup sF hq, atI_nat (j := 3) rfl, qg, xg, rfl, sF.seq hqG, for_enum (K := K) (a := qg) (xs := xg) (fun j σ H'' => ∃ (o14 o15 : Option V), σ = [some (.ref a), some (.ref b), some (.ref c), some g, some (.int gx), some (.int gy), some (.int gt), some (.ref p1), some (.ref p2), some (.ref pf), o10, some (.ref q), some (.ref pl), some (.int (w0 N)), o14, o15, none, none] ∧
            Fnd K H5 pf (cs ++ gpart n m i ++ gatesC ns (w0 N) N.gates j) H'' ∧ But pf H' H'') ⟨o14, o15, rfl, by rw [show gatesC ns (w0 N) N.gates 0 = [] from rfl, List.append_nil]; exact FF, But.refl _ _⟩ ?_ ?_ ?_⟩
          · rintro j σ H'' _ ⟨_, _, _, ⟨_, sF2, _, _⟩, _⟩
            exact sF2.seq hqG
          · rintro j y σ H'' T hj ⟨o14', o15', rfl, FF2, kp2⟩ hT
            obtain ⟨d, hdi, dx⟩ := dps_getv hqGs hj
            rw [List.getElem?_map] at hdi
            obtain ⟨gg, hgt, rfl⟩ := Option.map_eq_some_iff.mp hdi
            have jl : j < N.gates.length := (List.getElem?_eq_some_iff.mp hgt).1
            have v1 := same_new (o := HO.tup [V.int ((j : Nat) : Int), y]) hT
            have FF3 := Fnd.same v1 FF2
            obtain ⟨_, sF3, hpf3, _⟩ := id FF3
            refine ⟨T, _, rfl, SqT.of upd_same, rfl, ?_⟩
            refine ⟨_, _, rfl, _, _, rfl, rfl, ?_⟩
            have i0 := sN.1
            have hin : inR ns.length (w0 N + (j : Int)) = true := by
              unfold inR
              rw [nl]
              unfold wn w0
              simp only [Bool.and_eq_true, decide_eq_true_eq]
              omega
            have hgg : okG ns.length gg = true := okG_le (okGs_get (okNet_parts okN).2.1 hgt) (by rw [nl]; unfold wn; omega)
            refine ⟨_, rfl, .inl ⟨rfl, _, SqL.of hpf3⟩, _, rfl, _, rfl, _, rfl, _, rfl, _, _, rfl, rfl, pl, _, _, _, rfl, rfl, sF3.seq hpl', nth_at hin, _, rfl, y, pl, gg, _, ns, rfl, dp_same sF3 dx, sF3.seq hpl', hgg, fun q2 ys H3 s3' nq hq' dq => ?_⟩
            obtain ⟨zs, z1, z2, F9, kp9⟩ := Fnd.ext npf FF3 s3' dq (by
              have := gatesC_len ns (w0 N) N.gates j
              have := gateC_len ns gg (nth ns (w0 N + (j : Int)))
              have := sN.2.2.2.2.1
              rw [List.length_append, List.length_append]
              omega)
            refine ⟨pf, q2, zs, ys, rfl, rfl, z1, hq', z2, _, _, rfl, ?_, (kp2.trans (But.of v1)).trans kp9⟩
            rw [gatesC_succ, show N.gates.getD j ("", []) = gg by rw [List.getD_eq_getElem?_getD, hgt]; rfl, ← List.append_assoc]
            exact F9
          · rintro σ H8 ⟨o14', o15', rfl, F8, kp2⟩
            refine ⟨_, _, _, _, _, rfl, ?_, kp.trans kp2⟩
            rw [hgp, ← List.append_assoc, ← xgl]
            exact F8
        · rintro σ H8 ⟨o11, o12, o13, o14, o15, rfl, F8, kp⟩
          have hd : cs ++ gpart n m 2 = headC n m ps := by
            rw [← hcs]
            unfold headC
            exact (List.append_assoc _ _ _).symm
          change Fnd K H5 pf (cs ++ gpart n m 2) H8 at F8
          rw [hd] at F8
          obtain ⟨_, sF8, hpf8, _⟩ := id F8
          have S8 := S5.trans sF8
          have j1 : inR (one n).length gx = true := by
            have := (wn_small sn).1
            rw [ol, show (((wn n).toNat : Nat) : Int) = wn n by omega]
            exact hgx
          have j2 : inR (two n m).length gy = true := by
            have := (wn_small sm).1
            rw [tl, show (((wn m).toNat : Nat) : Int) = wn m by omega]
            exact hgy
          refine ⟨_, rfl, _, rfl, .ref a, .ref b, n, m, rfl, dp_same S8 hv, dp_same S8 hu, ?_⟩
          refine ⟨_, rfl, .inl ⟨rfl, _, SqL.of hpf8⟩, _, rfl, _, rfl, _, rfl, p1, _, _, _, rfl, rfl, SqL.of (sF8 _ _ hp1), nth_at j1, _, rfl, _, rfl, p2, _, _, _, rfl, rfl, SqL.of (sF8 _ _ hp2), nth_at j2, _, _, _, rfl, fun q ys H9 s9 nq hq dq => ?_⟩
          have hl : (headC n m ps).length ≤ 2000 := by
            have g1 := gatesC_len (one n) (w0 n) n.gates n.gates.length
            have g2 := gatesC_len (two n m) (w0 m) m.gates m.gates.length
            have := sn.2.2.2.2.1
            have := sm.2.2.2.2.1
            unfold headC
            rw [List.length_append, List.length_append, List.length_append, PL]
            simp only [List.length_singleton]
            omega
          have xl4 : (xorC (last n m) (nth (one n) gx) (nth (two n m) gy)).length = 4 := rfl
          obtain ⟨zs, z1, z2, F9, _⟩ := Fnd.ext npf F8 s9 dq (by omega)
          refine ⟨pf, q, zs, ys, rfl, rfl, z1, hq, z2, ?_⟩
          obtain ⟨fs9, sF9, hpf9, dF9⟩ := id F9
          refine ⟨_, rfl, .inl ⟨rfl, _, SqL.of hpf9⟩, ?_⟩
          rcases hgt01 with hz | hz
          · refine ⟨_, rfl, _, rfl, ?_⟩
            cases (show gt = 0 from hz)
            refine ifF rfl ?_
            refine ⟨_, rfl, (show 1 ≤ sizeLine by decide), fun tq ntq => ?_⟩
            have w1 := same_new (o := HO.tup [V.int (last n m)]) ntq
            refine ⟨_, _, _, rfl, rfl, w1 _ _ hpf9, size_lt (by rw [dps_len dF9, List.length_map, List.length_append, xl4]; omega), ?_⟩
            have npq : tq ≠ pf := fun z => by rw [z, hpf9] at ntq; cases ntq
            obtain ⟨zs2, z3, _, F10, _⟩ := Fnd.ext (ds := [[(last n m)]]) npf F9 w1 (.cons (.tup (SqT.of upd_same) (dps_ints [(last n m)])) .nil) (by rw [List.length_append, xl4]; simp only [List.length_singleton]; omega)
            rw [w1 _ _ hpf9] at z3
            cases z3
            have hgv : headC n m ps ++ xorC (last n m) (nth (one n) gx) (nth (two n m) gy) ++ [[(last n m)]] = givenC n m ps (gx, gy, 0) := rfl
            rw [hgv] at F10
            generalize upd (upd (upd H9 pf (.lst (zs ++ ys))) tq (.tup [V.int (last n m)])) pf (.lst ((zs ++ ys) ++ [V.ref tq])) = H10 at F10
            obtain ⟨fs, sF10, hpf10, dF10⟩ := F10
            have gl : (givenC n m ps (gx, gy, 0)).length ≤ 3000 := by rw [← hgv, List.length_append, List.length_append, xl4]; simp only [List.length_singleton]; omega
            refine ⟨_, rfl, pf, rfl, ⟨_, SqL.of hpf10⟩, fun D hD => ?_⟩
            refine lc_data (K := K) (a := pf) (xs := fs) (ds := (givenC n m ps (gx, gy, 0)).map clD) (fun _ => true) ordD (SqL.of hpf10) dF10 hD (by rw [List.length_map]; omega) ?_ ?_
            · intro v d G2 acc R dm hv2 sG2 hG2 ha2 _ hyes
              obtain ⟨cc, hcc, rfl⟩ := List.mem_map.mp dm
              refine ⟨rfl, _, rfl, v, cc, rfl, dp_same (same_new hG2) hv2, given_cl _ hcc, fun u H11 s11 du => ?_⟩
              have hD11 := s11 _ _ (upd_same (H := G2) (a := D) (o := HO.lst acc))
              refine ⟨acc, hD11, ha2, ?_⟩
              rw [split_at hD11, upd_app]
              exact hyes rfl (del1 H11 D) u (same_del hG2 s11) (del1_at _ _) (dp_keep (KeepT.del hD11) (noL_cl _) (by rw [ordD_cl]; exact du))
            · intro G2 rs sG2 hG2 hrs
              rw [List.filter_eq_self.mpr fun _ _ => rfl, List.map_map, show ordD ∘ clD = (fun c => clD (ordC c)) from funext ordD_cl] at hrs
              have SG := (S5.trans sF10).trans sG2
              exact k4 D rs _ (SG.trans (same_new hG2)) (none_of_same (S5.trans sF10) hD) upd_same (dps_same (same_new hG2) hrs)
          · refine ⟨_, rfl, _, rfl, ?_⟩
            cases (show gt = 1 from hz)
            refine ifT rfl ?_
            refine ⟨_, rfl, _, rfl, (show 1 ≤ sizeLine by decide), fun tq ntq => ?_⟩
            have w1 := same_new (o := HO.tup [V.int (-(last n m))]) ntq
            refine ⟨_, _, _, rfl, rfl, w1 _ _ hpf9, size_lt (by rw [dps_len dF9, List.length_map, List.length_append, xl4]; omega), ?_⟩
            have npq : tq ≠ pf := fun z => by rw [z, hpf9] at ntq; cases ntq
            obtain ⟨zs2, z3, _, F10, _⟩ := Fnd.ext (ds := [[(-(last n m))]]) npf F9 w1 (.cons (.tup (SqT.of upd_same) (dps_ints [(-(last n m))])) .nil) (by rw [List.length_append, xl4]; simp only [List.length_singleton]; omega)
            rw [w1 _ _ hpf9] at z3
            cases z3
            have hgv : headC n m ps ++ xorC (last n m) (nth (one n) gx) (nth (two n m) gy) ++ [[(-(last n m))]] = givenC n m ps (gx, gy, 1) := rfl
            rw [hgv] at F10
            generalize upd (upd (upd H9 pf (.lst (zs ++ ys))) tq (.tup [V.int (-(last n m))])) pf (.lst ((zs ++ ys) ++ [V.ref tq])) = H10 at F10
            obtain ⟨fs, sF10, hpf10, dF10⟩ := F10
            have gl : (givenC n m ps (gx, gy, 1)).length ≤ 3000 := by rw [← hgv, List.length_append, List.length_append, xl4]; simp only [List.length_singleton]; omega
            refine ⟨_, rfl, pf, rfl, ⟨_, SqL.of hpf10⟩, fun D hD => ?_⟩
            refine lc_data (K := K) (a := pf) (xs := fs) (ds := (givenC n m ps (gx, gy, 1)).map clD) (fun _ => true) ordD (SqL.of hpf10) dF10 hD (by rw [List.length_map]; omega) ?_ ?_
            · intro v d G2 acc R dm hv2 sG2 hG2 ha2 _ hyes
              obtain ⟨cc, hcc, rfl⟩ := List.mem_map.mp dm
              refine ⟨rfl, _, rfl, v, cc, rfl, dp_same (same_new hG2) hv2, given_cl _ hcc, fun u H11 s11 du => ?_⟩
              have hD11 := s11 _ _ (upd_same (H := G2) (a := D) (o := HO.lst acc))
              refine ⟨acc, hD11, ha2, ?_⟩
              rw [split_at hD11, upd_app]
              exact hyes rfl (del1 H11 D) u (same_del hG2 s11) (del1_at _ _) (dp_keep (KeepT.del hD11) (noL_cl _) (by rw [ordD_cl]; exact du))
            · intro G2 rs sG2 hG2 hrs
              rw [List.filter_eq_self.mpr fun _ _ => rfl, List.map_map, show ordD ∘ clD = (fun c => clD (ordC c)) from funext ordD_cl] at hrs
              have SG := (S5.trans sF10).trans sG2
              exact k4 D rs _ (SG.trans (same_new hG2)) (none_of_same (S5.trans sF10) hD) upd_same (dps_same (same_new hG2) hrs)
    · refine ⟨_, (pss_cons (ps_expr (pe_cx c_check_sizes hr (by omega) rfl (takes_of rfl rfl rfl rfl) (pa_cons (pv 0) (pa_cons (pv 1) pa_nil))))
      (pss_cons (ps_expr (pe_cx c_check_pairs hr (by omega) rfl (takes_of rfl rfl rfl rfl) (pa_cons (pv 0) (pa_cons (pv 1) (pa_cons (pv 2) pa_nil)))))
      (pss_cons (ps_asg (pe_cx c_goal_wires hr (by omega) rfl (takes_of rfl rfl rfl rfl) (pa_cons (pv 0) (pa_cons (pv 1) (pa_cons (pv 2) (pa_cons (pv 3) pa_nil))))) (pg_tup rfl (pgs_cons (pg_name (i := 4) sc_given_clauses.nd rfl (Or.inl rfl)) (pgs_cons (pg_name (i := 5) sc_given_clauses.nd rfl (Or.inl rfl)) (pgs_cons (pg_name (i := 6) sc_given_clauses.nd rfl (Or.inl rfl)) pgs_nil)))))
      (pss_cons (ps_par (i := 7) (j := 8) (by rfl) sc_given_clauses.nd rfl rfl (by decide) rfl rfl (pa_cons (pe_c c_first_names hr (by omega) rfl (pa_cons (pv 0) pa_nil)) (pa_cons (pe_c c_second_names hr (by omega) rfl (pa_cons (pv 0) (pa_cons (pv 1) pa_nil))) pa_nil)) (by rfl))
      (pss_cons (ps_set (i := 9) sc_given_clauses.nd rfl (Or.inl rfl) (pe_lst (pa_cons (pe_tup (pa_cons (pe_un un_neg pe_int) pa_nil)) pa_nil)))
      (pss_cons (ps_for (passes_of rfl) rfl (pi_tup (pv 2)) (pg_name (i := 10) sc_given_clauses.nd rfl (Or.inl rfl)) (pss_one (ps_expr (pe_bm PySem.F.plainAttrs_list PySem.F.slot_list_extend PySem.F.type_list_extend mt_extend (pv 9) (pa_cons (pe_c c_pair_clauses hr (by omega) rfl (pa_cons (pv 10) (pa_cons (pv 0) (pa_cons (pv 7) (pa_cons (pv 8) pa_nil))))) pa_nil)))))
      (pss_cons (ps_for (passes_of rfl) rfl (pi_tup (pe_tup (pa_cons (pe_tup (pa_cons (pv 0) (pa_cons (pv 7) pa_nil))) (pa_cons (pe_tup (pa_cons (pv 1) (pa_cons (pv 8) pa_nil))) pa_nil)))) (pg_tup rfl (pgs_cons (pg_name (i := 11) sc_given_clauses.nd rfl (Or.inl rfl)) (pgs_cons (pg_name (i := 12) sc_given_clauses.nd rfl (Or.inl rfl)) pgs_nil))) (pss_cons (ps_set (i := 13) sc_given_clauses.nd rfl (Or.inl rfl) (pe_op op_add (pe_op op_add pe_int (pe_ix ix_tup (pv 11) pe_int (fun _ _ => rfl))) (pe_callB call_len_seq (by rfl) T.b_len boot_len' (pa_cons (pe_ix ix_tup (pv 11) pe_int (fun _ _ => rfl)) pa_nil))))
      (pss_one (ps_for (passes_of rfl) rfl (pi_enum (by rfl) T.b_enumerate (pa_cons (pe_ix ix_tup (pv 11) pe_int (fun _ _ => rfl)) pa_nil)) (pg_tup rfl (pgs_cons (pg_name (i := 14) sc_given_clauses.nd rfl (Or.inl rfl)) (pgs_cons (pg_name (i := 15) sc_given_clauses.nd rfl (Or.inl rfl)) pgs_nil))) (pss_one (ps_expr (pe_bm PySem.F.plainAttrs_list PySem.F.slot_list_extend PySem.F.type_list_extend mt_extend (pv 9) (pa_cons (pe_c c_gate_clauses hr (by omega) rfl (pa_cons (pv 15) (pa_cons (pe_ix ix_list (pv 12) (pe_op op_add (pv 13) (pv 14)) (fun _ _ => rfl)) (pa_cons (pv 12) pa_nil)))) pa_nil))))))))
      (pss_cons (ps_set (i := 16) sc_given_clauses.nd rfl (Or.inl rfl) (pe_c c_last_name hr (by omega) rfl (pa_cons (pv 0) (pa_cons (pv 1) pa_nil))))
      (pss_cons (ps_expr (pe_bm PySem.F.plainAttrs_list PySem.F.slot_list_extend PySem.F.type_list_extend mt_extend (pv 9) (pa_cons (pe_c c_xor_clauses hr (by omega) rfl (pa_cons (pv 16) (pa_cons (pe_ix ix_list (pv 7) (pv 4) (fun _ _ => rfl)) (pa_cons (pe_ix ix_list (pv 8) (pv 5) (fun _ _ => rfl)) pa_nil)))) pa_nil)))
      (pss_cons (ps_expr (pe_bm PySem.F.plainAttrs_list PySem.F.slot_list_append PySem.F.type_list_append mt_append (pv 9) (pa_cons (pe_ifExp (pt_truth (pv 6) (by intro _; rfl)) (pe_tup (pa_cons (pe_un un_neg (pv 16)) pa_nil)) (pe_tup (pa_cons (pv 16) pa_nil))) pa_nil)))
      (pss_one (ps_ret (pe_lc (own := [("clause", 17)]) rfl sc_given_clauses.nd (pi_list (pv 9)) (blkOk_by (own := [("clause", 17)]) (N := ["first", "second", "pairs", "goal", "x", "y", "turned", "one", "two", "found", "pair", "net", "names", "begin", "at", "gate", "z", "clause"]) (sc := defScope s_given_clauses) (by decide +kernel)) (fun _ _ _ _ _ => (pg_name (i := 17) sc_given_clauses.nd rfl (Or.inl rfl))) (fun _ _ _ _ _ => pts_nil) (fun _ _ _ _ _ => (pe_c c_put_in_order hr (by omega) rfl (pa_cons (pv 17) pa_nil)))))))))))))))), ?_⟩
      obtain ⟨a, _, _, _, _, _, rfl, ha, _⟩ := net_dp hv
      obtain ⟨b, _, _, _, _, _, rfl, hb, _⟩ := net_dp hu
      obtain ⟨c, xs, rfl, hc, hxs⟩ := dp_tup hx
      refine ⟨_, rfl, _, rfl, .ref a, .ref b, n, m, rfl, hv, hu, fun sz => ?_, k1⟩
      have k2 := k2 sz
      have k3 := k3 sz
      have k4 := k4 sz
      obtain ⟨ok1, ok2⟩ := hok sz
      refine ⟨_, rfl, _, rfl, _, rfl, .ref a, .ref b, .ref c, n, m, ps, rfl, hv, hu, .inr hx, by omega, fun hps H1 s1 => ?_, k2⟩
      have k3 := k3 hps
      have k4 := k4 hps
      refine ⟨_, rfl, _, rfl, _, rfl, _, rfl, .ref a, .ref b, .ref c, g, n, m, ps, wd, k, rfl, dp_same s1 hv, dp_same s1 hu, .inr (dp_same s1 hx), dp_same s1 hg, hw, sz, hps, (okNet_parts ok1).2.2.1, (okNet_parts ok2).2.2.1, fun hgo z H2 s2 dz => ?_, fun e => RaiseF.later s1 (k3 e)⟩
      have k4 := k4 hgo
      have hin := goal_in sz ok1 ok2 hps hgo
      generalize goalW n m ps wd k = gw at dz k4 hin
      obtain ⟨gx, gy, gt⟩ := gw
      obtain ⟨hgx, hgy, hgt01⟩ := hin
      obtain ⟨za, zs, rfl, hz, hzs⟩ := dp_tup dz
      cases dps_ints_of (ns := [gx, gy, gt]) hzs
      refine ⟨za, _, rfl, hz, rfl, ?_⟩
      refine ⟨_, _, rfl, _, _, rfl, _, _, rfl, rfl, ?_⟩
      have S2 := s1.trans s2
      refine ⟨_, rfl, .ref a, n, rfl, dp_same S2 hv, sn, fun p1 np1 => ?_⟩
      have s3 := same_new (o := HO.lst ((one n).map V.int)) np1
      refine ⟨_, rfl, _, rfl, .ref a, .ref b, n, m, rfl, dp_same (S2.trans s3) hv, dp_same (S2.trans s3) hu, sn, sm, fun p2 H4 s4 hp2 => ?_⟩
      have hp1 := s4 _ _ (upd_same (H := H2) (a := p1) (o := HO.lst ((one n).map V.int)))
      have S4 := (S2.trans s3).trans s4
      refine ⟨_, _, rfl, ?_⟩
      refine ⟨_, rfl, (show 1 ≤ sizeLine by decide), fun t0 nt0 => ⟨(show 1 ≤ sizeLine by decide), fun pf npf => ?_⟩⟩
      have s5 := same_new (o := HO.tup [V.int (-1)]) nt0
      have S5 := S4.trans s5
      have hp1 := s5 _ _ hp1
      have hp2 := s5 _ _ hp2
      have t0h : upd H4 t0 (.tup [V.int (-1)]) t0 = some (.tup [V.int (-1)]) := upd_same
      generalize upd H4 t0 (.tup [V.int (-1)]) = H5 at s5 S5 hp1 hp2 t0h npf
      have F0 : Fnd K H5 pf [[-1]] (upd H5 pf (.lst [V.ref t0])) := ⟨_, same_new npf, upd_same, .cons (.tup (SqT.of (same_new npf _ _ t0h)) (dps_ints [-1])) .nil⟩
      have ol := one_len n
      have tl := two_len (f := n) sm
      -- pairs
      refine ⟨_, rfl, c, rfl, ⟨_, Same.tup (S5.trans (same_new npf)) hc⟩, for_tup (K := K) (a := c) (xs := xs) (fun i σ H' => ∃ (o10 : Option V), σ = [some (.ref a), some (.ref b), some (.ref c), some g, some (.int gx), some (.int gy), some (.int gt), some (.ref p1), some (.ref p2), some (.ref pf), o10, none, none, none, none, none, none, none] ∧
        Fnd K H5 pf ([[-1]] ++ pairsC n m (ps.take i)) H') ⟨none, rfl, F0⟩ ?_ ?_ ?_⟩
      · rintro i σ H' _ ⟨_, _, _, sF, _⟩
        exact Same.tup (S5.trans sF) hc
      · rintro i y σ H' hi ⟨o10, rfl, FF⟩
        obtain ⟨d, hdi, dx⟩ := dps_getv hxs hi
        rw [List.getElem?_map] at hdi
        obtain ⟨r, hr', rfl⟩ := Option.map_eq_some_iff.mp hdi
        obtain ⟨fx, sF, hpf, _⟩ := id FF
        have SF := S5.trans sF
        have hr1 := List.all_eq_true.mp hps _ (List.mem_of_getElem? hr')
        unfold okPrB at hr1
        simp only [Bool.and_eq_true, decide_eq_true_eq] at hr1
        obtain ⟨⟨⟨⟨q0, q1⟩, q2⟩, q3⟩, _⟩ := hr1
        have i1 : inR (one n).length (1 + n.inp + r.1) = true := by
          have := sn.1
          unfold inR
          rw [ol]
          unfold wn w0
          simp only [Bool.and_eq_true, decide_eq_true_eq]
          omega
        have i2 : inR (two n m).length (1 + n.inp + r.2.1) = true := by
          have := sn.1
          have := sz.1
          unfold inR
          rw [tl]
          unfold wn w0
          simp only [Bool.and_eq_true, decide_eq_true_eq]
          omega
        refine ⟨_, rfl, .inl ⟨rfl, _, SqL.of hpf⟩, _, rfl, _, rfl, _, rfl, _, rfl, y, .ref a, p1, p2, r, n, m, rfl, dp_same SF dx, dp_same SF hv, SqL.of (sF _ _ hp1), SqL.of (sF _ _ hp2), i1, i2, fun q ys H3 s3' nq hq dq => ?_⟩
        have il : i < ps.length := (List.getElem?_eq_some_iff.mp hr').1
        have pl2 : (pairC n m r).length = 2 := by
          unfold pairC
          dsimp only
          split <;> rfl
        obtain ⟨zs, z1, z2, F6, _⟩ := Fnd.ext npf FF s3' dq (by
          rw [List.length_append, pairsC_len, List.length_take, pl2]
          simp only [List.length_singleton]
          omega)
        refine ⟨pf, q, zs, ys, rfl, rfl, z1, hq, z2, _, rfl, ?_⟩
        rw [take_snoc hr', pairsC_snoc, ← List.append_assoc]
        exact F6
      · rintro σ H6 ⟨o10, rfl, F6⟩
        have xl : xs.length = ps.length := by rw [dps_len hxs, List.length_map]
        rw [xl, List.take_length] at F6
        have PL := pairsC_len n m ps
        generalize hcs : [[-1]] ++ pairsC n m ps = cs at F6
        have cl : cs.length ≤ 300 := by rw [← hcs, List.length_append, PL]; simp only [List.length_singleton]; omega
        -- gates
        refine ⟨_, rfl, _, rfl, (show 2 ≤ sizeLine by decide), fun t1 nt1 => ⟨_, rfl, _, rfl, (show 2 ≤ sizeLine by decide), fun t2 nt2 => ⟨(show 2 ≤ sizeLine by decide), fun t3 nt3 => ?_⟩⟩⟩
        have u1 := same_new (o := HO.tup [V.ref a, V.ref p1]) nt1
        have u2 := same_new (o := HO.tup [V.ref b, V.ref p2]) nt2
        have u3 := same_new (o := HO.tup [V.ref t1, V.ref t2]) nt3
        have F7 := Fnd.same ((u1.trans u2).trans u3) F6
        obtain ⟨_, sF6, _, _⟩ := id F6
        have e1 := (u2.trans u3) _ _ (upd_same (H := H6) (a := t1) (o := HO.tup [V.ref a, V.ref p1]))
        have e2 := u3 _ _ (upd_same (H := upd H6 t1 (.tup [V.ref a, V.ref p1])) (a := t2) (o := HO.tup [V.ref b, V.ref p2]))
        have e3 : upd (upd (upd H6 t1 (.tup [V.ref a, V.ref p1])) t2 (.tup [V.ref b, V.ref p2])) t3 (.tup [V.ref t1, V.ref t2]) t3 = some (.tup [V.ref t1, V.ref t2]) := upd_same
        generalize upd (upd (upd H6 t1 (.tup [V.ref a, V.ref p1])) t2 (.tup [V.ref b, V.ref p2])) t3 (.tup [V.ref t1, V.ref t2]) = H7 at F7 e1 e2 e3
        refine ⟨t3, rfl, ⟨_, SqT.of e3⟩, for_tup (K := K) (a := t3) (xs := [V.ref t1, V.ref t2]) (fun i σ H' => ∃ (o11 o12 o13 o14 o15 : Option V), σ = [some (.ref a), some (.ref b), some (.ref c), some g, some (.int gx), some (.int gy), some (.int gt), some (.ref p1), some (.ref p2), some (.ref pf), o10, o11, o12, o13, o14, o15, none, none] ∧
          Fnd K H5 pf (cs ++ gpart n m i) H' ∧ But pf H7 H') ⟨none, none, none, none, none, rfl, by rw [show gpart n m 0 = [] from rfl, List.append_nil]; exact F7, But.refl _ _⟩ ?_ ?_ ?_⟩
        · rintro i σ H' _ ⟨_, _, _, _, _, _, _, q⟩
          obtain ⟨_, _, hpf7, _⟩ := id F7
          exact SqT.of (q _ _ (fun z => by rw [z, hpf7] at e3; cases e3) e3)
        · rintro i y σ H' hi ⟨o11, o12, o13, o14, o15, rfl, FF, kp⟩
          obtain ⟨fx, sF, hpf, _⟩ := id FF
          have SF := S5.trans sF
          obtain ⟨_, _, hpf7, _⟩ := id F7
          have key : ∃ (tt q : Addr) (N : Net) (pl : Addr) (ns : List Int), y = .ref tt ∧ SqT K H' tt [.ref q, .ref pl] ∧ Dp K H5 (.ref q) (netD N) ∧ SqL K H5 pl (ns.map V.int) ∧ (ns.length : Int) = wn N ∧ okNet N = true ∧ Small N ∧ gpart n m (i + 1) = gpart n m i ++ gatesC ns (w0 N) N.gates N.gates.length ∧ (gpart n m i).length ≤ 1000 := by
            have w1 := (wn_small sn).1
            have w2 := (wn_small sm).1
            match i, hi with
            | 0, hi =>
              cases hi
              refine ⟨t1, a, n, p1, one n, rfl, SqT.of (kp _ _ (fun z => by rw [z, hpf7] at e1; cases e1) e1), dp_same S5 hv, SqL.of hp1, by rw [ol]; omega, ok1, sn, rfl, Nat.zero_le _⟩
            | 1, hi =>
              cases hi
              refine ⟨t2, b, m, p2, two n m, rfl, SqT.of (kp _ _ (fun z => by rw [z, hpf7] at e2; cases e2) e2), dp_same S5 hu, SqL.of hp2, by rw [tl]; omega, ok2, sm, rfl, ?_⟩
              have := gatesC_len (one n) (w0 n) n.gates n.gates.length
              have := sn.2.2.2.2.1
              show (gatesC (one n) (w0 n) n.gates n.gates.length).length ≤ 1000
              omega
            | i + 2, hi => cases hi
          obtain ⟨tt, q, N, pl, ns, rfl, htt, dN, hpl', nl, okN, sN, hgp, gl⟩ := key
          obtain ⟨qa, qf, _, qg, _, xg, qe, hq, hqF, _, hqG, hqGs, _⟩ := net_dp dN
          cases qe
          refine ⟨tt, _, rfl, htt, rfl, ?_⟩
          refine ⟨_, _, rfl, _, _, rfl, rfl, ?_⟩
          refine ⟨_, rfl, q, _, 0, _, rfl, rfl, Same.tup sF hq, atI_nat (j := 0) rfl, _, _, rfl, rfl, _, rfl, q, _, 1, _, rfl, rfl, Same.tup sF hq, atI_nat (j := 1) rfl, qf, _, rfl, .inl (sF.seq hqF), _, _, rfl, rfl, ?_⟩
          rw [List.length_map]
          change gName 13 (.int (w0 N)) _ _ _
          have xgl : xg.length = N.gates.length := by rw [dps_len hqGs, List.length_map]
          refine ⟨_, rfl, q, _, 3, _, rfl, rfl, Same.tup sF hq, atI_nat (j := 3) rfl, qg, xg, rfl, sF.seq hqG, for_enum (K := K) (a := qg) (xs := xg) (fun j σ H'' => ∃ (o14 o15 : Option V), σ = [some (.ref a), some (.ref b), some (.ref c), some g, some (.int gx), some (.int gy), some (.int gt), some (.ref p1), some (.ref p2), some (.ref pf), o10, some (.ref q), some (.ref pl), some (.int (w0 N)), o14, o15, none, none] ∧
            Fnd K H5 pf (cs ++ gpart n m i ++ gatesC ns (w0 N) N.gates j) H'' ∧ But pf H' H'') ⟨o14, o15, rfl, by rw [show gatesC ns (w0 N) N.gates 0 = [] from rfl, List.append_nil]; exact FF, But.refl _ _⟩ ?_ ?_ ?_⟩
          · rintro j σ H'' _ ⟨_, _, _, ⟨_, sF2, _, _⟩, _⟩
            exact sF2.seq hqG
          · rintro j y σ H'' T hj ⟨o14', o15', rfl, FF2, kp2⟩ hT
            obtain ⟨d, hdi, dx⟩ := dps_getv hqGs hj
            rw [List.getElem?_map] at hdi
            obtain ⟨gg, hgt, rfl⟩ := Option.map_eq_some_iff.mp hdi
            have jl : j < N.gates.length := (List.getElem?_eq_some_iff.mp hgt).1
            have v1 := same_new (o := HO.tup [V.int ((j : Nat) : Int), y]) hT
            have FF3 := Fnd.same v1 FF2
            obtain ⟨_, sF3, hpf3, _⟩ := id FF3
            refine ⟨T, _, rfl, SqT.of upd_same, rfl, ?_⟩
            refine ⟨_, _, rfl, _, _, rfl, rfl, ?_⟩
            have i0 := sN.1
            have hin : inR ns.length (w0 N + (j : Int)) = true := by
              unfold inR
              rw [nl]
              unfold wn w0
              simp only [Bool.and_eq_true, decide_eq_true_eq]
              omega
            have hgg : okG ns.length gg = true := okG_le (okGs_get (okNet_parts okN).2.1 hgt) (by rw [nl]; unfold wn; omega)
            refine ⟨_, rfl, .inl ⟨rfl, _, SqL.of hpf3⟩, _, rfl, _, rfl, _, rfl, _, rfl, _, _, rfl, rfl, pl, _, _, _, rfl, rfl, sF3.seq hpl', nth_at hin, _, rfl, y, pl, gg, _, ns, rfl, dp_same sF3 dx, sF3.seq hpl', hgg, fun q2 ys H3 s3' nq hq' dq => ?_⟩
            obtain ⟨zs, z1, z2, F9, kp9⟩ := Fnd.ext npf FF3 s3' dq (by
              have := gatesC_len ns (w0 N) N.gates j
              have := gateC_len ns gg (nth ns (w0 N + (j : Int)))
              have := sN.2.2.2.2.1
              rw [List.length_append, List.length_append]
              omega)
            refine ⟨pf, q2, zs, ys, rfl, rfl, z1, hq', z2, _, _, rfl, ?_, (kp2.trans (But.of v1)).trans kp9⟩
            rw [gatesC_succ, show N.gates.getD j ("", []) = gg by rw [List.getD_eq_getElem?_getD, hgt]; rfl, ← List.append_assoc]
            exact F9
          · rintro σ H8 ⟨o14', o15', rfl, F8, kp2⟩
            refine ⟨_, _, _, _, _, rfl, ?_, kp.trans kp2⟩
            rw [hgp, ← List.append_assoc, ← xgl]
            exact F8
        · rintro σ H8 ⟨o11, o12, o13, o14, o15, rfl, F8, kp⟩
          have hd : cs ++ gpart n m 2 = headC n m ps := by
            rw [← hcs]
            unfold headC
            exact (List.append_assoc _ _ _).symm
          change Fnd K H5 pf (cs ++ gpart n m 2) H8 at F8
          rw [hd] at F8
          obtain ⟨_, sF8, hpf8, _⟩ := id F8
          have S8 := S5.trans sF8
          have j1 : inR (one n).length gx = true := by
            have := (wn_small sn).1
            rw [ol, show (((wn n).toNat : Nat) : Int) = wn n by omega]
            exact hgx
          have j2 : inR (two n m).length gy = true := by
            have := (wn_small sm).1
            rw [tl, show (((wn m).toNat : Nat) : Int) = wn m by omega]
            exact hgy
          refine ⟨_, rfl, _, rfl, .ref a, .ref b, n, m, rfl, dp_same S8 hv, dp_same S8 hu, ?_⟩
          refine ⟨_, rfl, .inl ⟨rfl, _, SqL.of hpf8⟩, _, rfl, _, rfl, _, rfl, p1, _, _, _, rfl, rfl, SqL.of (sF8 _ _ hp1), nth_at j1, _, rfl, _, rfl, p2, _, _, _, rfl, rfl, SqL.of (sF8 _ _ hp2), nth_at j2, _, _, _, rfl, fun q ys H9 s9 nq hq dq => ?_⟩
          have hl : (headC n m ps).length ≤ 2000 := by
            have g1 := gatesC_len (one n) (w0 n) n.gates n.gates.length
            have g2 := gatesC_len (two n m) (w0 m) m.gates m.gates.length
            have := sn.2.2.2.2.1
            have := sm.2.2.2.2.1
            unfold headC
            rw [List.length_append, List.length_append, List.length_append, PL]
            simp only [List.length_singleton]
            omega
          have xl4 : (xorC (last n m) (nth (one n) gx) (nth (two n m) gy)).length = 4 := rfl
          obtain ⟨zs, z1, z2, F9, _⟩ := Fnd.ext npf F8 s9 dq (by omega)
          refine ⟨pf, q, zs, ys, rfl, rfl, z1, hq, z2, ?_⟩
          obtain ⟨fs9, sF9, hpf9, dF9⟩ := id F9
          refine ⟨_, rfl, .inl ⟨rfl, _, SqL.of hpf9⟩, ?_⟩
          rcases hgt01 with hz | hz
          · refine ⟨_, rfl, _, rfl, ?_⟩
            cases (show gt = 0 from hz)
            refine ifF rfl ?_
            refine ⟨_, rfl, (show 1 ≤ sizeLine by decide), fun tq ntq => ?_⟩
            have w1 := same_new (o := HO.tup [V.int (last n m)]) ntq
            refine ⟨_, _, _, rfl, rfl, w1 _ _ hpf9, size_lt (by rw [dps_len dF9, List.length_map, List.length_append, xl4]; omega), ?_⟩
            have npq : tq ≠ pf := fun z => by rw [z, hpf9] at ntq; cases ntq
            obtain ⟨zs2, z3, _, F10, _⟩ := Fnd.ext (ds := [[(last n m)]]) npf F9 w1 (.cons (.tup (SqT.of upd_same) (dps_ints [(last n m)])) .nil) (by rw [List.length_append, xl4]; simp only [List.length_singleton]; omega)
            rw [w1 _ _ hpf9] at z3
            cases z3
            have hgv : headC n m ps ++ xorC (last n m) (nth (one n) gx) (nth (two n m) gy) ++ [[(last n m)]] = givenC n m ps (gx, gy, 0) := rfl
            rw [hgv] at F10
            generalize upd (upd (upd H9 pf (.lst (zs ++ ys))) tq (.tup [V.int (last n m)])) pf (.lst ((zs ++ ys) ++ [V.ref tq])) = H10 at F10
            obtain ⟨fs, sF10, hpf10, dF10⟩ := F10
            have gl : (givenC n m ps (gx, gy, 0)).length ≤ 3000 := by rw [← hgv, List.length_append, List.length_append, xl4]; simp only [List.length_singleton]; omega
            refine ⟨_, rfl, pf, rfl, ⟨_, SqL.of hpf10⟩, fun D hD => ?_⟩
            refine lc_data (K := K) (a := pf) (xs := fs) (ds := (givenC n m ps (gx, gy, 0)).map clD) (fun _ => true) ordD (SqL.of hpf10) dF10 hD (by rw [List.length_map]; omega) ?_ ?_
            · intro v d G2 acc R dm hv2 sG2 hG2 ha2 _ hyes
              obtain ⟨cc, hcc, rfl⟩ := List.mem_map.mp dm
              refine ⟨rfl, _, rfl, v, cc, rfl, dp_same (same_new hG2) hv2, given_cl _ hcc, fun u H11 s11 du => ?_⟩
              have hD11 := s11 _ _ (upd_same (H := G2) (a := D) (o := HO.lst acc))
              refine ⟨acc, hD11, ha2, ?_⟩
              rw [split_at hD11, upd_app]
              exact hyes rfl (del1 H11 D) u (same_del hG2 s11) (del1_at _ _) (dp_keep (KeepT.del hD11) (noL_cl _) (by rw [ordD_cl]; exact du))
            · intro G2 rs sG2 hG2 hrs
              rw [List.filter_eq_self.mpr fun _ _ => rfl, List.map_map, show ordD ∘ clD = (fun c => clD (ordC c)) from funext ordD_cl] at hrs
              have SG := (S5.trans sF10).trans sG2
              exact k4 D rs _ (SG.trans (same_new hG2)) (none_of_same (S5.trans sF10) hD) upd_same (dps_same (same_new hG2) hrs)
          · refine ⟨_, rfl, _, rfl, ?_⟩
            cases (show gt = 1 from hz)
            refine ifT rfl ?_
            refine ⟨_, rfl, _, rfl, (show 1 ≤ sizeLine by decide), fun tq ntq => ?_⟩
            have w1 := same_new (o := HO.tup [V.int (-(last n m))]) ntq
            refine ⟨_, _, _, rfl, rfl, w1 _ _ hpf9, size_lt (by rw [dps_len dF9, List.length_map, List.length_append, xl4]; omega), ?_⟩
            have npq : tq ≠ pf := fun z => by rw [z, hpf9] at ntq; cases ntq
            obtain ⟨zs2, z3, _, F10, _⟩ := Fnd.ext (ds := [[(-(last n m))]]) npf F9 w1 (.cons (.tup (SqT.of upd_same) (dps_ints [(-(last n m))])) .nil) (by rw [List.length_append, xl4]; simp only [List.length_singleton]; omega)
            rw [w1 _ _ hpf9] at z3
            cases z3
            have hgv : headC n m ps ++ xorC (last n m) (nth (one n) gx) (nth (two n m) gy) ++ [[(-(last n m))]] = givenC n m ps (gx, gy, 1) := rfl
            rw [hgv] at F10
            generalize upd (upd (upd H9 pf (.lst (zs ++ ys))) tq (.tup [V.int (-(last n m))])) pf (.lst ((zs ++ ys) ++ [V.ref tq])) = H10 at F10
            obtain ⟨fs, sF10, hpf10, dF10⟩ := F10
            have gl : (givenC n m ps (gx, gy, 1)).length ≤ 3000 := by rw [← hgv, List.length_append, List.length_append, xl4]; simp only [List.length_singleton]; omega
            refine ⟨_, rfl, pf, rfl, ⟨_, SqL.of hpf10⟩, fun D hD => ?_⟩
            refine lc_data (K := K) (a := pf) (xs := fs) (ds := (givenC n m ps (gx, gy, 1)).map clD) (fun _ => true) ordD (SqL.of hpf10) dF10 hD (by rw [List.length_map]; omega) ?_ ?_
            · intro v d G2 acc R dm hv2 sG2 hG2 ha2 _ hyes
              obtain ⟨cc, hcc, rfl⟩ := List.mem_map.mp dm
              refine ⟨rfl, _, rfl, v, cc, rfl, dp_same (same_new hG2) hv2, given_cl _ hcc, fun u H11 s11 du => ?_⟩
              have hD11 := s11 _ _ (upd_same (H := G2) (a := D) (o := HO.lst acc))
              refine ⟨acc, hD11, ha2, ?_⟩
              rw [split_at hD11, upd_app]
              exact hyes rfl (del1 H11 D) u (same_del hG2 s11) (del1_at _ _) (dp_keep (KeepT.del hD11) (noL_cl _) (by rw [ordD_cl]; exact du))
            · intro G2 rs sG2 hG2 hrs
              rw [List.filter_eq_self.mpr fun _ _ => rfl, List.map_map, show ordD ∘ clD = (fun c => clD (ordC c)) from funext ordD_cl] at hrs
              have SG := (S5.trans sF10).trans sG2
              exact k4 D rs _ (SG.trans (same_new hG2)) (none_of_same (S5.trans sF10) hD) upd_same (dps_same (same_new hG2) hrs)
end
end Q41



set_option pp.maxSteps 1500
namespace Q41
open PySem L2 G M03 M41
open C8 (Cal Met Mak pe_c pe_mk pe_mt pe_mt0 pe_gc pss_cut tCut)
theorem rg_take {a : Int} {m k : Nat} (h : k ≤ m) : (rg a m).take k = rg a k := by
  unfold rg
  rw [← List.map_take, List.take_range, Nat.min_eq_left h]
theorem outs_at {ns : List Int} {g : Gate} {k : Nat} (h : k < g.2.length) : ((g.2.map (nth ns)).map V.int)[k]? = some (.int (nth ns (side g k))) := by
  unfold side
  rw [List.getElem?_map, List.getElem?_map, List.getElem?_eq_getElem h, List.getD_eq_getElem?_getD, List.getElem?_eq_getElem h]
  rfl
theorem near1 {ns : List Int} {g : Gate} (h : g.2.length = 1) : (g.2.map (nth ns)).map V.int = [V.int (nth ns (side g 0))] := by
  obtain ⟨w, l⟩ := g
  match l, h with
  | [a], _ => rfl
theorem near2 {ns : List Int} {g : Gate} (h : g.2.length = 2) : (g.2.map (nth ns)).map V.int = [V.int (nth ns (side g 0)), V.int (nth ns (side g 1))] := by
  obtain ⟨w, l⟩ := g
  match l, h with
  | [a, b], _ => rfl
theorem near3 {ns : List Int} {g : Gate} (h : g.2.length = 3) : (g.2.map (nth ns)).map V.int = [V.int (nth ns (side g 0)), V.int (nth ns (side g 1)), V.int (nth ns (side g 2))] := by
  obtain ⟨w, l⟩ := g
  match l, h with
  | [a, b, c], _ => rfl
def gN (xs : List Int) : PyData → PyData
  | .int i => .int (nth xs i)
  | d => d
theorem gN_map (xs l : List Int) : ((intsD l).filter (fun _ => true)).map (gN xs) = (l.map (nth xs)).map PyData.int := by
  rw [List.filter_eq_self.mpr fun _ _ => rfl]
  unfold intsD
  rw [List.map_map, List.map_map]
  rfl
section
variable {P : Program} {w : World} {K : PySem.W.Frag} {mg : Str → Option Value} {base : Heap}
def spLGiven (K : PySem.W.Frag) : Sp := fun vs H Q _ => ∃ (v u x g : V) (f s : Net) (ps : List Pr) (wd : Str) (k : Int), vs = [v, u, x, g] ∧ Dp K H v (netD f) ∧ Dp K H u (netD s) ∧ Dp K H x (.list (ps.map prD)) ∧ Dp K H g (goalD wd k) ∧
  Small f ∧ Small s ∧ ps.length ≤ 100 ∧ okNet f = true ∧ okNet s = true ∧ sameSz f s ∧ ps.all (okPrB f s) = true ∧ okGoal f ps wd k = true ∧
    ∀ (p : Addr) (xs : List V) (H' : Hp), Same H H' → H p = none → H' p = some (.lst xs) → DpAll K H' xs ((givenC f s ps (goalW f s ps wd k)).map fun c => clD (ordC c)) → Q (.ref p) H'
theorem ok_lgiven {f : Addr} {fd : FuncData} (F : Fun K "_law_given" "_law_given" s__law_given f fd) (T : Txt K mg) (c__law_clause : Cal P w K mg base 1 "_law_clause" (spOrd K) []) : FnOk P w K mg base CX0 2 f fd ["first", "second", "pairs", "goal"] (spLGiven K) := by
  refine F.ok sc__law_given (fun vs H Q E h => ?_) (fun cdv A outer s H vs Q E hr h => ?_)
  · obtain ⟨v, u, x, g, n, m, ps, wd, k, rfl, _⟩ := h
    rfl
  · obtain ⟨v, u, x, g, n, m, ps, wd, k, rfl, hv, hu, hx, hg, sn, sm, hpl, ok1, ok2, sz, hps, hgo, k4⟩ := h
    refine ⟨_, (pss_cons (ps_set (i := 4) sc__law_given.nd rfl (Or.inr rfl) (pe_listRg rfl (by rfl) T.b_list (prg_2 (by rfl) T.b_range pe_int (pe_op op_add (pe_op op_add (pe_op op_add pe_int (pe_ix ix_tup (pv 0) pe_int (fun _ _ => rfl))) (pe_callB call_len_seq (by rfl) T.b_len boot_len' (pa_cons (pe_ix ix_tup (pv 0) pe_int (fun _ _ => rfl)) pa_nil))) (pe_callB call_len_seq (by rfl) T.b_len boot_len' (pa_cons (pe_ix ix_tup (pv 0) pe_int (fun _ _ => rfl)) pa_nil))))))
      (pss_cons (ps_set (i := 5) sc__law_given.nd rfl (Or.inl rfl) (pe_op op_add pe_int (pe_ix ix_tup (pv 0) pe_int (fun _ _ => rfl))))
      (pss_cons (ps_set (i := 6) sc__law_given.nd rfl (Or.inl rfl) (pe_op op_add (pe_callB call_len_seq (by rfl) T.b_len boot_len' (pa_cons (pe_ix ix_tup (pv 1) pe_int (fun _ _ => rfl)) pa_nil)) (pe_callB call_len_seq (by rfl) T.b_len boot_len' (pa_cons (pe_ix ix_tup (pv 1) pe_int (fun _ _ => rfl)) pa_nil))))
      (pss_cons (ps_set (i := 7) sc__law_given.nd rfl (Or.inl rfl) (pe_op op_cat (pe_slice sl_list (pv 4) po_none (po_some (pv 5))) (pe_lc (own := [("at", 17)]) rfl sc__law_given.nd (pi_range1 (by rfl) T.b_range (pa_cons (pv 6) pa_nil)) (blkOk_by (own := [("at", 17)]) (N := ["first", "second", "pairs", "goal", "one", "shared", "more", "two", "z", "found", "p", "q", "turned", "left", "right", "net", "names", "at", "gate", "w", "near", "s", "x", "y", "clause", "wire"]) (sc := defScope s__law_given) (by decide +kernel)) (fun _ _ _ _ _ => (pg_name (i := 17) sc__law_given.nd rfl (Or.inl rfl))) (fun _ _ _ _ _ => pts_nil) (fun _ _ _ _ _ => (pe_op op_add (pe_op op_add (pe_callB (call_len_seqK (K := K) rfl) (by rfl) T.b_len boot_len' (pa_cons (pv 4) pa_nil)) pe_int) (pv 17))))))
      (pss_cons (ps_set (i := 8) sc__law_given.nd rfl (Or.inl rfl) (pe_op op_add (pe_op op_add (pe_callB call_len_seq (by rfl) T.b_len boot_len' (pa_cons (pv 4) pa_nil)) pe_int) (pv 6)))
      (pss_cons (ps_set (i := 9) sc__law_given.nd rfl (Or.inl rfl) (pe_lst (pa_cons (pe_tup (pa_cons (pe_un un_neg pe_int) pa_nil)) pa_nil)))
      (pss_cons (ps_for PassesOwn.never rfl (pi_list (pv 2)) (pg_tup rfl (pgs_cons (pg_name (i := 10) sc__law_given.nd rfl (Or.inl rfl)) (pgs_cons (pg_name (i := 11) sc__law_given.nd rfl (Or.inl rfl)) (pgs_cons (pg_name (i := 12) sc__law_given.nd rfl (Or.inl rfl)) pgs_nil)))) (pss_cons (ps_par (i := 13) (j := 14) (by rfl) sc__law_given.nd rfl rfl (by decide) rfl rfl (pa_cons (pe_ix ix_list (pv 4) (pe_op op_add (pv 5) (pv 10)) (fun _ _ => rfl)) (pa_cons (pe_ix ix_list (pv 7) (pe_op op_add (pv 5) (pv 11)) (fun _ _ => rfl)) pa_nil)) (by rfl))
      (pss_one (ps_expr (pe_bm PySem.F.plainAttrs_list PySem.F.slot_list_extend PySem.F.type_list_extend mt_extend (pv 9) (pa_cons (pe_ifExp (pt_cmpR op_eq (pv 12) pe_int (nomark _)) (pe_lst (pa_cons (pe_tup (pa_cons (pv 13) (pa_cons (pv 14) pa_nil))) (pa_cons (pe_tup (pa_cons (pe_un un_neg (pv 13)) (pa_cons (pe_un un_neg (pv 14)) pa_nil))) pa_nil))) (pe_lst (pa_cons (pe_tup (pa_cons (pe_un un_neg (pv 13)) (pa_cons (pv 14) pa_nil))) (pa_cons (pe_tup (pa_cons (pv 13) (pa_cons (pe_un un_neg (pv 14)) pa_nil))) pa_nil)))) pa_nil))))))
      (pss_cons (ps_for PassesOwn.never rfl (pi_tup (pe_tup (pa_cons (pe_tup (pa_cons (pv 0) (pa_cons (pv 4) pa_nil))) (pa_cons (pe_tup (pa_cons (pv 1) (pa_cons (pv 7) pa_nil))) pa_nil)))) (pg_tup rfl (pgs_cons (pg_name (i := 15) sc__law_given.nd rfl (Or.inl rfl)) (pgs_cons (pg_name (i := 16) sc__law_given.nd rfl (Or.inr rfl)) pgs_nil))) (pss_one (ps_for PassesOwn.never rfl (pi_range1 (by rfl) T.b_range (pa_cons (pe_callB call_len_seq (by rfl) T.b_len boot_len' (pa_cons (pe_ix ix_tup (pv 15) pe_int (fun _ _ => rfl)) pa_nil)) pa_nil)) (pg_name (i := 17) sc__law_given.nd rfl (Or.inl rfl)) (pss_cons (ps_set (i := 18) sc__law_given.nd rfl (Or.inl rfl) (pe_ix ix_list (pe_ix ix_tup (pv 15) pe_int (fun _ _ => rfl)) (pv 17) (fun _ _ => rfl)))
      (pss_cons (ps_set (i := 19) sc__law_given.nd rfl (Or.inl rfl) (pe_ix ix_list (pv 16) (pe_op op_add (pe_op op_add (pv 5) (pe_callB call_len_seq (by rfl) T.b_len boot_len' (pa_cons (pe_ix ix_tup (pv 15) pe_int (fun _ _ => rfl)) pa_nil))) (pv 17)) (fun _ _ => rfl)))
      (pss_cons (ps_setLc (i := 20) (own := [("wire", 25)]) rfl sc__law_given.nd rfl rfl (sw_true rfl rfl rfl (by decide +kernel)) (pi_tup (pe_slice sl_tupA (pv 18) (po_some pe_int) po_none)) (blkOk_by (own := [("wire", 25)]) (N := ["first", "second", "pairs", "goal", "one", "shared", "more", "two", "z", "found", "p", "q", "turned", "left", "right", "net", "names", "at", "gate", "w", "near", "s", "x", "y", "clause", "wire"]) (sc := defScope s__law_given) (by decide +kernel)) (fun _ _ _ _ _ => (pg_name (i := 25) sc__law_given.nd rfl (Or.inl rfl))) (fun _ _ _ _ _ => pts_nil) (fun _ _ _ _ _ => (pe_ix (ix_listK (K := K) rfl) (pv 16) (pv 25) (fun _ _ => rfl))))
      (pss_one (ps_if (pt_cmpR op_eq (pe_ix ix_tup (pv 18) pe_int (fun _ _ => rfl)) pe_str (nomark _)) (pss_one (ps_expr (pe_bm PySem.F.plainAttrs_list PySem.F.slot_list_extend PySem.F.type_list_extend mt_extend (pv 9) (pa_cons (pe_lst (pa_cons (pe_tup (pa_cons (pv 19) (pa_cons (pe_ix ix_list (pv 20) pe_int (fun _ _ => rfl)) pa_nil))) (pa_cons (pe_tup (pa_cons (pe_un un_neg (pv 19)) (pa_cons (pe_un un_neg (pe_ix ix_list (pv 20) pe_int (fun _ _ => rfl))) pa_nil))) pa_nil))) pa_nil)))) (pss_one (ps_if (pt_cmpR op_eq (pe_ix ix_tup (pv 18) pe_int (fun _ _ => rfl)) pe_str (nomark _)) (pss_one (ps_expr (pe_bm PySem.F.plainAttrs_list PySem.F.slot_list_extend PySem.F.type_list_extend mt_extend (pv 9) (pa_cons (pe_lst (pa_cons (pe_tup (pa_cons (pe_un un_neg (pv 19)) (pa_cons (pe_ix ix_list (pv 20) pe_int (fun _ _ => rfl)) pa_nil))) (pa_cons (pe_tup (pa_cons (pe_un un_neg (pv 19)) (pa_cons (pe_ix ix_list (pv 20) pe_int (fun _ _ => rfl)) pa_nil))) (pa_cons (pe_tup (pa_cons (pv 19) (pa_cons (pe_un un_neg (pe_ix ix_list (pv 20) pe_int (fun _ _ => rfl))) (pa_cons (pe_un un_neg (pe_ix ix_list (pv 20) pe_int (fun _ _ => rfl))) pa_nil)))) pa_nil)))) pa_nil)))) (pss_one (ps_if (pt_cmpR op_eq (pe_ix ix_tup (pv 18) pe_int (fun _ _ => rfl)) pe_str (nomark _)) (pss_one (ps_expr (pe_bm PySem.F.plainAttrs_list PySem.F.slot_list_extend PySem.F.type_list_extend mt_extend (pv 9) (pa_cons (pe_lst (pa_cons (pe_tup (pa_cons (pv 19) (pa_cons (pe_un un_neg (pe_ix ix_list (pv 20) pe_int (fun _ _ => rfl))) pa_nil))) (pa_cons (pe_tup (pa_cons (pv 19) (pa_cons (pe_un un_neg (pe_ix ix_list (pv 20) pe_int (fun _ _ => rfl))) pa_nil))) (pa_cons (pe_tup (pa_cons (pe_un un_neg (pv 19)) (pa_cons (pe_ix ix_list (pv 20) pe_int (fun _ _ => rfl)) (pa_cons (pe_ix ix_list (pv 20) pe_int (fun _ _ => rfl)) pa_nil)))) pa_nil)))) pa_nil)))) (pss_one (ps_if (pt_cmpR op_eq (pe_ix ix_tup (pv 18) pe_int (fun _ _ => rfl)) pe_str (nomark _)) (pss_one (ps_expr (pe_bm PySem.F.plainAttrs_list PySem.F.slot_list_extend PySem.F.type_list_extend mt_extend (pv 9) (pa_cons (pe_lst (pa_cons (pe_tup (pa_cons (pe_un un_neg (pv 19)) (pa_cons (pe_ix ix_list (pv 20) pe_int (fun _ _ => rfl)) (pa_cons (pe_ix ix_list (pv 20) pe_int (fun _ _ => rfl)) pa_nil)))) (pa_cons (pe_tup (pa_cons (pe_un un_neg (pv 19)) (pa_cons (pe_un un_neg (pe_ix ix_list (pv 20) pe_int (fun _ _ => rfl))) (pa_cons (pe_un un_neg (pe_ix ix_list (pv 20) pe_int (fun _ _ => rfl))) pa_nil)))) (pa_cons (pe_tup (pa_cons (pv 19) (pa_cons (pe_un un_neg (pe_ix ix_list (pv 20) pe_int (fun _ _ => rfl))) (pa_cons (pe_ix ix_list (pv 20) pe_int (fun _ _ => rfl)) pa_nil)))) (pa_cons (pe_tup (pa_cons (pv 19) (pa_cons (pe_ix ix_list (pv 20) pe_int (fun _ _ => rfl)) (pa_cons (pe_un un_neg (pe_ix ix_list (pv 20) pe_int (fun _ _ => rfl))) pa_nil)))) pa_nil))))) pa_nil)))) (pss_cons (ps_asg (pv 20) (pg_unl rfl (pgs_cons (pg_name (i := 21) sc__law_given.nd rfl (Or.inl rfl)) (pgs_cons (pg_name (i := 22) sc__law_given.nd rfl (Or.inl rfl)) (pgs_cons (pg_name (i := 23) sc__law_given.nd rfl (Or.inl rfl)) pgs_nil)))))
      (pss_one (ps_expr (pe_bm PySem.F.plainAttrs_list PySem.F.slot_list_extend PySem.F.type_list_extend mt_extend (pv 9) (pa_cons (pe_lst (pa_cons (pe_tup (pa_cons (pe_un un_neg (pv 21)) (pa_cons (pe_un un_neg (pv 22)) (pa_cons (pv 19) pa_nil)))) (pa_cons (pe_tup (pa_cons (pe_un un_neg (pv 21)) (pa_cons (pv 22) (pa_cons (pe_un un_neg (pv 19)) pa_nil)))) (pa_cons (pe_tup (pa_cons (pv 21) (pa_cons (pe_un un_neg (pv 23)) (pa_cons (pv 19) pa_nil)))) (pa_cons (pe_tup (pa_cons (pv 21) (pa_cons (pv 23) (pa_cons (pe_un un_neg (pv 19)) pa_nil)))) pa_nil))))) pa_nil)))))))))))))))))))
      (pss_cons (ps_set (i := 12) sc__law_given.nd rfl (Or.inl rfl) pe_int)
      (pss_cut (ps_if (pt_cmpR op_eq (pe_ix ix_tup (pv 3) pe_int (fun _ _ => rfl)) pe_str (nomark _)) (pss_one (ps_par (i := 22) (j := 23) (by rfl) sc__law_given.nd rfl rfl (by decide) rfl rfl (pa_cons (pe_ix ix_list (pv 4) (pe_ix ix_list (pe_ix ix_tup (pv 0) pe_int (fun _ _ => rfl)) (pe_ix ix_tup (pv 3) pe_int (fun _ _ => rfl)) (fun _ _ => rfl)) (fun _ _ => rfl)) (pa_cons (pe_ix ix_list (pv 7) (pe_ix ix_list (pe_ix ix_tup (pv 1) pe_int (fun _ _ => rfl)) (pe_ix ix_tup (pv 3) pe_int (fun _ _ => rfl)) (fun _ _ => rfl)) (fun _ _ => rfl)) pa_nil)) (by rfl))) (pss_cons (ps_asg (pe_ix ix_list (pv 2) (pe_ix ix_tup (pv 3) pe_int (fun _ _ => rfl)) (fun _ _ => rfl)) (pg_tup rfl (pgs_cons (pg_name (i := 10) sc__law_given.nd rfl (Or.inl rfl)) (pgs_cons (pg_name (i := 11) sc__law_given.nd rfl (Or.inl rfl)) (pgs_cons (pg_name (i := 12) sc__law_given.nd rfl (Or.inl rfl)) pgs_nil)))))
      (pss_one (ps_par (i := 22) (j := 23) (by rfl) sc__law_given.nd rfl rfl (by decide) rfl rfl (pa_cons (pe_ix ix_list (pv 4) (pe_ix ix_list (pe_ix ix_tup (pv 0) pe_int (fun _ _ => rfl)) (pv 10) (fun _ _ => rfl)) (fun _ _ => rfl)) (pa_cons (pe_ix ix_list (pv 7) (pe_ix ix_list (pe_ix ix_tup (pv 1) pe_int (fun _ _ => rfl)) (pv 11) (fun _ _ => rfl)) (fun _ _ => rfl)) pa_nil)) (by rfl)))))
      (pss_cons (ps_expr (pe_bm PySem.F.plainAttrs_list PySem.F.slot_list_extend PySem.F.type_list_extend mt_extend (pv 9) (pa_cons (pe_lst (pa_cons (pe_tup (pa_cons (pe_un un_neg (pv 8)) (pa_cons (pv 22) (pa_cons (pv 23) pa_nil)))) (pa_cons (pe_tup (pa_cons (pe_un un_neg (pv 8)) (pa_cons (pe_un un_neg (pv 22)) (pa_cons (pe_un un_neg (pv 23)) pa_nil)))) (pa_cons (pe_tup (pa_cons (pv 8) (pa_cons (pe_un un_neg (pv 22)) (pa_cons (pv 23) pa_nil)))) (pa_cons (pe_tup (pa_cons (pv 8) (pa_cons (pv 22) (pa_cons (pe_un un_neg (pv 23)) pa_nil)))) (pa_cons (pe_tup (pa_cons (pe_op op_sub (pv 8) (pe_op op_mul (pe_op op_mul pe_int (pv 8)) (pv 12))) pa_nil)) pa_nil)))))) pa_nil)))
      (pss_one (ps_ret (pe_lc (own := [("clause", 24)]) rfl sc__law_given.nd (pi_list (pv 9)) (blkOk_by (own := [("clause", 24)]) (N := ["first", "second", "pairs", "goal", "one", "shared", "more", "two", "z", "found", "p", "q", "turned", "left", "right", "net", "names", "at", "gate", "w", "near", "s", "x", "y", "clause", "wire"]) (sc := defScope s__law_given) (by decide +kernel)) (fun _ _ _ _ _ => (pg_name (i := 24) sc__law_given.nd rfl (Or.inl rfl))) (fun _ _ _ _ _ => pts_nil) (fun _ _ _ _ _ => (pe_c c__law_clause hr (by omega) rfl (pa_cons (pv 24) pa_nil))))))))))))))))), ?_⟩
    obtain ⟨a, af, an, ag, ao, xg, rfl, ha, hF, hN, hG, hGs, hO⟩ := net_dp hv
    obtain ⟨b, bf, bn, bg, bo, yg, rfl, hb, hF2, hN2, hG2, hGs2, hO2⟩ := net_dp hu
    obtain ⟨c, xs, rfl, hc, hxs⟩ := dp_lst hx
    have gl1 : xg.length = n.gates.length := by rw [dps_len hGs, List.length_map]
    have gl2 : yg.length = m.gates.length := by rw [dps_len hGs2, List.length_map]
    obtain ⟨w1, w2⟩ := wn_small sn
    obtain ⟨w3, w4⟩ := wn_small sm
    have i0 := sn.1
    have i1 := sz.1
    have ol := one_len n
    have tl := two_len (f := n) sm
    -- one
    refine ⟨_, rfl, a, _, 0, _, rfl, rfl, ha, atI_nat (j := 0) rfl, _, _, rfl, rfl, _, rfl, a, _, 1, _, rfl, rfl, ha, atI_nat (j := 1) rfl, af, _, rfl, .inl hF, _, _, rfl, rfl, _, rfl, a, _, 3, _, rfl, rfl, ha, atI_nat (j := 3) rfl, ag, _, rfl, .inl hG, _, _, rfl, rfl, _, _, rfl, rfl, ?_⟩
    rw [List.length_map, gl1]
    refine ⟨RgOk.of_le (by decide) (by unfold wn w0 at w2; omega) (by decide) (by omega), fun p1 np1 => ?_⟩
    rw [rgV_rg, show (2 + n.inp + (n.firsts.length : Int) + (n.gates.length : Int) - 1) = wn n by unfold wn w0; omega]
    change gName 4 (.ref p1) _ (upd H p1 (.lst ((one n).map V.int))) _
    have s1 := same_new (o := HO.lst ((one n).map V.int)) np1
    have hp1 : upd H p1 (.lst ((one n).map V.int)) p1 = some (.lst ((one n).map V.int)) := upd_same
    generalize upd H p1 (.lst ((one n).map V.int)) = H1 at s1 hp1
    -- shared, more
    refine ⟨_, rfl, a, _, 0, _, rfl, rfl, Same.tup s1 ha, atI_nat (j := 0) rfl, _, _, rfl, rfl, ?_⟩
    refine ⟨_, rfl, b, _, 1, _, rfl, rfl, Same.tup s1 hb, atI_nat (j := 1) rfl, bf, _, rfl, .inl (s1.seq hF2), _, rfl, b, _, 3, _, rfl, rfl, Same.tup s1 hb, atI_nat (j := 3) rfl, bg, _, rfl, .inl (s1.seq hG2), _, _, rfl, rfl, ?_⟩
    rw [List.length_map, gl2]
    -- two
    refine ⟨_, rfl, _, rfl, _, rfl, p1, _, rfl, SqL.of hp1, fun q nq => ?_⟩
    have hsh : (1 + n.inp) = (((1 + n.inp).toNat : Nat) : Int) := by omega
    have hcut : cutV ((one n).map V.int) none (some (1 + n.inp)) = (rg 1 (1 + n.inp).toNat).map V.int := by
      rw [hsh, cut_to (by rw [List.length_map, ol]; unfold wn w0; omega), ← List.map_take, ← hsh]
      unfold one
      rw [rg_take (by unfold wn w0; omega)]
    rw [hcut]
    have s2 := same_new (o := HO.lst ((rg 1 (1 + n.inp).toNat).map V.int)) nq
    refine ⟨_, rfl, _, rfl, by omega, by have := sm.2.2.1; have := sm.2.2.2.2.1; omega, fun D hD => ?_⟩
    refine lc_range (lo := 0) (n := ((m.firsts.length : Int) + (m.gates.length : Int)).toNat) (fun j H' => H' = upd (upd H1 q (.lst ((rg 1 (1 + n.inp).toNat).map V.int))) D (.lst ((rg (wn n + 1) j).map V.int))) rfl ?_ ?_
    · rintro j H' hj rfl
      have hp1' := same_new (o := HO.lst ((rg (wn n + 1) j).map V.int)) hD _ _ (s2 _ _ hp1)
      refine ⟨rfl, _, rfl, p1, _, rfl, .inl (SqL.of hp1'), _, _, rfl, rfl, _, rfl, _, _, rfl, rfl, _, upd_same, size_lt (by rw [List.length_map, rg_len]; have := sm.2.2.1; have := sm.2.2.2.2.1; omega), ?_⟩
      rw [upd_app, List.length_map, ol, show (((wn n).toNat : Nat) : Int) = wn n by omega]
      unfold rg
      rw [List.range_succ, List.map_append, List.map_append, Int.zero_add]
      rfl
    rintro H' rfl
    have s3 := same_new (o := HO.lst ((rg (wn n + 1) ((m.firsts.length : Int) + (m.gates.length : Int)).toNat).map V.int)) hD
    refine ⟨q, D, _, _, rfl, rfl, s3 _ _ upd_same, upd_same, size_of (by rw [List.length_map, List.length_map, rg_len, rg_len]; have := sm.2.2.1; have := sm.2.2.2.2.1; have := sn.2.1; omega), fun p2 np2 => ?_⟩
    have e2 : (rg 1 (1 + n.inp).toNat).map V.int ++ (rg (wn n + 1) ((m.firsts.length : Int) + (m.gates.length : Int)).toNat).map V.int = (two n m).map V.int := by
      unfold two
      rw [List.map_append, i1, show wn m - (1 + m.inp) = (m.firsts.length : Int) + (m.gates.length : Int) by unfold wn w0; omega]
    rw [e2]
    have s4 := same_new (o := HO.lst ((two n m).map V.int)) np2
    have hp2 : upd (upd (upd H1 q (.lst ((rg 1 (1 + n.inp).toNat).map V.int))) D (.lst ((rg (wn n + 1) ((m.firsts.length : Int) + (m.gates.length : Int)).toNat).map V.int))) p2 (.lst ((two n m).map V.int)) p2 = some (.lst ((two n m).map V.int)) := upd_same
    have S4 := s1.trans ((s2.trans s3).trans s4)
    have hp1 := ((s2.trans s3).trans s4) _ _ hp1
    generalize upd (upd (upd H1 q (.lst ((rg 1 (1 + n.inp).toNat).map V.int))) D (.lst ((rg (wn n + 1) ((m.firsts.length : Int) + (m.gates.length : Int)).toNat).map V.int))) p2 (.lst ((two n m).map V.int)) = H4 at S4 hp1 hp2
    -- z
    refine ⟨_, rfl, p1, _, rfl, .inl (SqL.of hp1), _, _, rfl, rfl, _, rfl, _, _, rfl, rfl, ?_⟩
    rw [List.length_map, ol]
    change gName 8 (.int ((((wn n).toNat : Nat) : Int) + 1 + ((m.firsts.length : Int) + (m.gates.length : Int)))) _ _ _
    rw [show (((wn n).toNat : Nat) : Int) + 1 + ((m.firsts.length : Int) + (m.gates.length : Int)) = last n m by unfold last; omega]
    -- found
    refine ⟨_, rfl, (show 1 ≤ sizeLine by decide), fun t0 nt0 => ⟨(show 1 ≤ sizeLine by decide), fun pf npf => ?_⟩⟩
    have s5 := same_new (o := HO.tup [V.int (-1)]) nt0
    have S5 := S4.trans s5
    have hp1 := s5 _ _ hp1
    have hp2 := s5 _ _ hp2
    have t0h : upd H4 t0 (.tup [V.int (-1)]) t0 = some (.tup [V.int (-1)]) := upd_same
    generalize upd H4 t0 (.tup [V.int (-1)]) = H5 at s5 S5 hp1 hp2 t0h npf
    have F0 : Fnd K H5 pf [[-1]] (upd H5 pf (.lst [V.ref t0])) := ⟨_, same_new npf, upd_same, .cons (.tup (SqT.of (same_new npf _ _ t0h)) (dps_ints [-1])) .nil⟩
    clear s1 s2 s3 s4
    -- pairs
    refine ⟨_, rfl, c, rfl, ⟨_, (S5.trans (same_new npf)).seq hc⟩, for_list (K := K) (a := c) (xs := xs) (fun i σ H' => ∃ (o10 o11 o12 o13 o14 : Option V), σ = [some (.ref a), some (.ref b), some (.ref c), some g, some (.ref p1), some (.int (1 + n.inp)), some (.int ((m.firsts.length : Int) + (m.gates.length : Int))), some (.ref p2), some (.int (last n m)), some (.ref pf), o10, o11, o12, o13, o14, none, none, none, none, none, none, none, none, none, none, none] ∧
      Fnd K H5 pf ([[-1]] ++ pairsC n m (ps.take i)) H') ⟨none, none, none, none, none, rfl, F0⟩ ?_ ?_ ?_⟩
    · rintro i σ H' _ ⟨_, _, _, _, _, _, _, sF, _⟩
      exact (S5.trans sF).seq hc
    · rintro i y σ H' hi ⟨o10, o11, o12, o13, o14, rfl, FF⟩
      obtain ⟨d, hdi, dx⟩ := dps_getv hxs hi
      rw [List.getElem?_map] at hdi
      obtain ⟨r, hr', rfl⟩ := Option.map_eq_some_iff.mp hdi
      obtain ⟨fx, sF, hpf, _⟩ := id FF
      have SF := S5.trans sF
      obtain ⟨pa, rfl, hpa⟩ := pr_dp (dp_same SF dx)
      have hr1 := List.all_eq_true.mp hps _ (List.mem_of_getElem? hr')
      unfold okPrB at hr1
      simp only [Bool.and_eq_true, decide_eq_true_eq, Bool.or_eq_true] at hr1
      obtain ⟨⟨⟨⟨q0, q1⟩, q2⟩, q3⟩, q4⟩ := hr1
      have j1 : inR (one n).length (1 + n.inp + r.1) = true := by
        unfold inR
        rw [ol]
        unfold wn w0
        simp only [Bool.and_eq_true, decide_eq_true_eq]
        omega
      have j2 : inR (two n m).length (1 + n.inp + r.2.1) = true := by
        unfold inR
        rw [tl]
        unfold wn w0
        simp only [Bool.and_eq_true, decide_eq_true_eq]
        omega
      refine ⟨pa, _, rfl, hpa, rfl, ?_⟩
      refine ⟨_, _, rfl, _, _, rfl, _, _, rfl, rfl, ?_⟩
      refine ⟨_, rfl, _, rfl, _, rfl, _, _, rfl, rfl, p1, _, _, _, rfl, rfl, SqL.of (sF _ _ hp1), nth_at j1, ?_⟩
      refine ⟨_, rfl, _, rfl, _, rfl, _, _, rfl, rfl, p2, _, _, _, rfl, rfl, SqL.of (sF _ _ hp2), nth_at j2, ?_⟩
      have epc : pairC n m r = if r.2.2 = 0 then [[-(nth (one n) (1 + n.inp + r.1)), nth (two n m) (1 + n.inp + r.2.1)], [nth (one n) (1 + n.inp + r.1), -(nth (two n m) (1 + n.inp + r.2.1))]] else [[nth (one n) (1 + n.inp + r.1), nth (two n m) (1 + n.inp + r.2.1)], [-(nth (one n) (1 + n.inp + r.1)), -(nth (two n m) (1 + n.inp + r.2.1))]] := rfl
      generalize nth (one n) (1 + n.inp + r.1) = le at epc
      generalize nth (two n m) (1 + n.inp + r.2.1) = ri at epc
      have il : i < ps.length := (List.getElem?_eq_some_iff.mp hr').1
      have plen : ([[-1]] ++ pairsC n m (ps.take i)).length ≤ 300 := by
        rw [List.length_append, pairsC_len, List.length_take]
        simp only [List.length_singleton]
        omega
      refine ⟨_, _, rfl, ?_⟩
      refine ⟨_, rfl, .inl ⟨rfl, _, SqL.of hpf⟩, _, rfl, rfl, _, rfl, ?_⟩
      rcases q4 with hz | hz
      · refine ifF (by rw [hz]; rfl) ?_
        rw [if_pos hz] at epc
        refine ⟨_, rfl, _, rfl, _, rfl, (show 2 ≤ sizeLine by decide), fun p100 m0 => ?_⟩
        have s0 := same_new (o := HO.tup [V.int (-le), V.int ri]) m0
        refine ⟨_, rfl, _, rfl, _, rfl, (show 2 ≤ sizeLine by decide), fun p101 m1 => ?_⟩
        have s1 := same_new (o := HO.tup [V.int le, V.int (-ri)]) m1
        refine ⟨(show 2 ≤ sizeLine by decide), fun qq mq => ?_⟩
        have sq := same_new (o := HO.lst [V.ref p100, V.ref p101]) mq
        obtain ⟨zs, z1, z2, F9, kp9⟩ := Fnd.ext (ds := [[(-le), ri], [le, (-ri)]]) npf FF ((s0.trans s1).trans sq) (.cons (.tup (SqT.of ((s1.trans sq) _ _ upd_same)) (dps_ints [(-le), ri])) (.cons (.tup (SqT.of (sq _ _ upd_same)) (dps_ints [le, (-ri)])) .nil)) (by simp only [List.length_cons, List.length_nil]; omega)
        refine ⟨pf, qq, zs, _, rfl, rfl, z1, upd_same, z2, ?_⟩
        refine ⟨_, _, _, _, _, rfl, ?_⟩
        rw [take_snoc hr', pairsC_snoc, ← List.append_assoc, epc]
        exact F9
      · refine ifT (by rw [hz]; rfl) ?_
        rw [if_neg (by omega)] at epc
        refine ⟨_, rfl, _, rfl, (show 2 ≤ sizeLine by decide), fun p100 m0 => ?_⟩
        have s0 := same_new (o := HO.tup [V.int le, V.int ri]) m0
        refine ⟨_, rfl, _, rfl, _, rfl, _, rfl, (show 2 ≤ sizeLine by decide), fun p101 m1 => ?_⟩
        have s1 := same_new (o := HO.tup [V.int (-le), V.int (-ri)]) m1
        refine ⟨(show 2 ≤ sizeLine by decide), fun qq mq => ?_⟩
        have sq := same_new (o := HO.lst [V.ref p100, V.ref p101]) mq
        obtain ⟨zs, z1, z2, F9, kp9⟩ := Fnd.ext (ds := [[le, ri], [(-le), (-ri)]]) npf FF ((s0.trans s1).trans sq) (.cons (.tup (SqT.of ((s1.trans sq) _ _ upd_same)) (dps_ints [le, ri])) (.cons (.tup (SqT.of (sq _ _ upd_same)) (dps_ints [(-le), (-ri)])) .nil)) (by simp only [List.length_cons, List.length_nil]; omega)
        refine ⟨pf, qq, zs, _, rfl, rfl, z1, upd_same, z2, ?_⟩
        refine ⟨_, _, _, _, _, rfl, ?_⟩
        rw [take_snoc hr', pairsC_snoc, ← List.append_assoc, epc]
        exact F9
    · rintro σ H6 ⟨o10, o11, o12, o13, o14, rfl, F6⟩
      have xl : xs.length = ps.length := by rw [dps_len hxs, List.length_map]
      rw [xl, List.take_length] at F6
      have PL := pairsC_len n m ps
      generalize hcs : [[-1]] ++ pairsC n m ps = cs at F6
      have cl : cs.length ≤ 300 := by rw [← hcs, List.length_append, PL]; simp only [List.length_singleton]; omega
      -- gates
      refine ⟨_, rfl, _, rfl, (show 2 ≤ sizeLine by decide), fun t1 nt1 => ⟨_, rfl, _, rfl, (show 2 ≤ sizeLine by decide), fun t2 nt2 => ⟨(show 2 ≤ sizeLine by decide), fun t3 nt3 => ?_⟩⟩⟩
      have u1 := same_new (o := HO.tup [V.ref a, V.ref p1]) nt1
      have u2 := same_new (o := HO.tup [V.ref b, V.ref p2]) nt2
      have u3 := same_new (o := HO.tup [V.ref t1, V.ref t2]) nt3
      have F7 := Fnd.same ((u1.trans u2).trans u3) F6
      have e1 := (u2.trans u3) _ _ (upd_same (H := H6) (a := t1) (o := HO.tup [V.ref a, V.ref p1]))
      have e2 := u3 _ _ (upd_same (H := upd H6 t1 (.tup [V.ref a, V.ref p1])) (a := t2) (o := HO.tup [V.ref b, V.ref p2]))
      have e3 : upd (upd (upd H6 t1 (.tup [V.ref a, V.ref p1])) t2 (.tup [V.ref b, V.ref p2])) t3 (.tup [V.ref t1, V.ref t2]) t3 = some (.tup [V.ref t1, V.ref t2]) := upd_same
      generalize upd (upd (upd H6 t1 (.tup [V.ref a, V.ref p1])) t2 (.tup [V.ref b, V.ref p2])) t3 (.tup [V.ref t1, V.ref t2]) = H7 at F7 e1 e2 e3
      refine ⟨t3, rfl, ⟨_, SqT.of e3⟩, for_tup (K := K) (a := t3) (xs := [V.ref t1, V.ref t2]) (fun i σ H' => ∃ (o15 o16 o17 o18 o19 o20 o21 o22 o23 : Option V), σ = [some (.ref a), some (.ref b), some (.ref c), some g, some (.ref p1), some (.int (1 + n.inp)), some (.int ((m.firsts.length : Int) + (m.gates.length : Int))), some (.ref p2), some (.int (last n m)), some (.ref pf), o10, o11, o12, o13, o14, o15, o16, o17, o18, o19, o20, o21, o22, o23, none, none] ∧
        Fnd K H5 pf (cs ++ gpart n m i) H' ∧ But pf H7 H') ⟨none, none, none, none, none, none, none, none, none, rfl, by rw [show gpart n m 0 = [] from rfl, List.append_nil]; exact F7, But.refl _ _⟩ ?_ ?_ ?_⟩
      · rintro i σ H' _ ⟨_, _, _, _, _, _, _, _, _, _, _, q⟩
        obtain ⟨_, _, hpf7, _⟩ := id F7
        exact SqT.of (q _ _ (fun z => by rw [z, hpf7] at e3; cases e3) e3)
      · rintro i y σ H' hi ⟨o15, o16, o17, o18, o19, o20, o21, o22, o23, rfl, FF, kp⟩
        obtain ⟨fx, sF, hpf, _⟩ := id FF
        obtain ⟨_, _, hpf7, _⟩ := id F7
        have key : ∃ (tt q : Addr) (N : Net) (pl : Addr) (ns : List Int), y = .ref tt ∧ SqT K H' tt [.ref q, .ref pl] ∧ Dp K H5 (.ref q) (netD N) ∧ SqL K H5 pl (ns.map V.int) ∧ (ns.length : Int) = wn N ∧ okNet N = true ∧ Small N ∧ gpart n m (i + 1) = gpart n m i ++ gatesC ns (w0 N) N.gates N.gates.length ∧ (gpart n m i).length ≤ 1000 ∧ N.inp = n.inp := by
          match i, hi with
          | 0, hi =>
            cases hi
            refine ⟨t1, a, n, p1, one n, rfl, SqT.of (kp _ _ (fun z => by rw [z, hpf7] at e1; cases e1) e1), dp_same S5 hv, SqL.of hp1, by rw [ol]; omega, ok1, sn, rfl, Nat.zero_le _, rfl⟩
          | 1, hi =>
            cases hi
            refine ⟨t2, b, m, p2, two n m, rfl, SqT.of (kp _ _ (fun z => by rw [z, hpf7] at e2; cases e2) e2), dp_same S5 hu, SqL.of hp2, by rw [tl]; omega, ok2, sm, rfl, ?_, i1.symm⟩
            have := gatesC_len (one n) (w0 n) n.gates n.gates.length
            have := sn.2.2.2.2.1
            show (gatesC (one n) (w0 n) n.gates n.gates.length).length ≤ 1000
            omega
          | i + 2, hi => cases hi
        obtain ⟨tt, q, N, pl, ns, rfl, htt, dN, hpl', nl, okN, sN, hgp, gl, hNi⟩ := key
        obtain ⟨qa, qf, _, qg, _, xg', qe, hq, hqF, _, hqG, hqGs, _⟩ := net_dp dN
        cases qe
        have xgl : xg'.length = N.gates.length := by rw [dps_len hqGs, List.length_map]
        refine ⟨tt, _, rfl, htt, rfl, ?_⟩
        refine ⟨_, _, rfl, _, _, rfl, rfl, ?_⟩
        refine ⟨_, rfl, q, _, 3, _, rfl, rfl, Same.tup sF hq, atI_nat (j := 3) rfl, qg, _, rfl, .inl (sF.seq hqG), _, rfl, by omega, by have := sN.2.2.2.2.1; omega, ?_⟩
        rw [xgl]
        refine for_range (lo := 0) (n := ((N.gates.length : Nat) : Int).toNat) (fun j σ H'' => ∃ (o17 o18 o19 o20 o21 o22 o23 : Option V), σ = [some (.ref a), some (.ref b), some (.ref c), some g, some (.ref p1), some (.int (1 + n.inp)), some (.int ((m.firsts.length : Int) + (m.gates.length : Int))), some (.ref p2), some (.int (last n m)), some (.ref pf), o10, o11, o12, o13, o14, some (.ref q), some (.ref pl), o17, o18, o19, o20, o21, o22, o23, none, none] ∧
          Fnd K H5 pf (cs ++ gpart n m i ++ gatesC ns (w0 N) N.gates j) H'' ∧ But pf H' H'') ⟨o17, o18, o19, o20, o21, o22, o23, rfl, by rw [show gatesC ns (w0 N) N.gates 0 = [] from rfl, List.append_nil]; exact FF, But.refl _ _⟩ ?_ ?_
        · rintro j σ H'' hj ⟨o17', o18', o19', o20', o21', o22', o23', rfl, FF2, kp2⟩
          have jl : j < N.gates.length := by omega
          obtain ⟨_, sF2, hpf2, _⟩ := id FF2
          obtain ⟨y, hy, dy⟩ := dps_get (i := j) (d := gateD N.gates[j]) hqGs (by rw [List.getElem?_map, List.getElem?_eq_getElem jl]; rfl)
          have hgt : N.gates[j]? = some N.gates[j] := List.getElem?_eq_getElem jl
          have hgd : N.gates.getD j ("", []) = N.gates[j] := by rw [List.getD_eq_getElem?_getD, hgt]; rfl
          generalize N.gates[j] = gg at dy hgt hgd
          obtain ⟨ga, rfl, hga⟩ := gate_dp dy
          have og : okG ns.length gg = true := okG_le (okGs_get (okNet_parts okN).2.1 hgt) (by rw [nl]; unfold wn; omega)
          have hl3 : gg.2.length ≤ 3 := by rcases okG_word og with ⟨_, h⟩ | ⟨_, h⟩ | ⟨_, h⟩ | ⟨_, h⟩ | ⟨_, h⟩ <;> omega
          refine ⟨_, rfl, q, _, 3, _, rfl, rfl, Same.tup sF2 hq, atI_nat (j := 3) rfl, _, rfl, qg, _, _, _, rfl, rfl, sF2.seq hqG, (by rw [Int.zero_add]; exact atI_nat hy), ?_⟩
          have iN := sN.1
          have hin : inR ns.length (1 + n.inp + ((N.firsts.map V.int).length : Int) + (0 + (j : Int))) = true := by
            unfold inR
            rw [nl, List.length_map]
            unfold wn w0
            simp only [Bool.and_eq_true, decide_eq_true_eq]
            omega
          refine ⟨_, rfl, _, rfl, _, rfl, q, _, 1, _, rfl, rfl, Same.tup sF2 hq, atI_nat (j := 1) rfl, qf, _, rfl, .inl (sF2.seq hqF), _, _, rfl, rfl, _, rfl, _, _, rfl, rfl, pl, _, _, _, rfl, rfl, sF2.seq hpl', nth_at hin, ?_⟩
          have ew : nth ns (w0 N + (j : Int)) = nth ns (1 + n.inp + ((N.firsts.map V.int).length : Int) + (0 + (j : Int))) := by
            rw [List.length_map, Int.zero_add]
            unfold w0
            rw [hNi]
          generalize nth ns (1 + n.inp + ((N.firsts.map V.int).length : Int) + (0 + (j : Int))) = ww at ew
          have hgc : (cs ++ gpart n m i ++ gatesC ns (w0 N) N.gates (j + 1)) = cs ++ gpart n m i ++ gatesC ns (w0 N) N.gates j ++ gateC ns gg ww := by
            rw [gatesC_succ, hgd, ew, ← List.append_assoc]
          have hcl : (cs ++ gpart n m i ++ gatesC ns (w0 N) N.gates j).length ≤ 50000 := by
            have := gatesC_len ns (w0 N) N.gates j
            have := sN.2.2.2.2.1
            rw [List.length_append, List.length_append]
            omega
          rw [hgc]
          generalize cs ++ gpart n m i ++ gatesC ns (w0 N) N.gates j = ds at hcl FF2
          -- near
          refine ⟨_, rfl, 1, rfl, ?_⟩
          unfold tNoPart
          refine slA_new (Same.tup sF2 hga) fun bb H9 s9 hb9 => ⟨bb, rfl, ⟨_, hb9⟩, fun nr hD => ?_⟩
          rw [cut_tail] at hb9
          refine lc_dataT (K := K) (a := bb) (xs := gg.2.map V.int) (ds := intsD gg.2) (fun _ => true) (gN ns) hb9 (dps_ints _) hD (by rw [intsD, List.length_map]; omega) ?_ ?_
          · intro v d G acc R dm hv' sG hGD ha' _ hyes
            obtain ⟨jj, hjj, rfl⟩ := List.mem_map.mp dm
            cases dp_int hv'
            have hin2 : inR ns.length jj = true := by
              unfold okG at og
              simp only [Bool.and_eq_true, List.all_eq_true] at og
              exact og.2 jj hjj
            refine ⟨rfl, _, rfl, _, rfl, pl, _, _, _, rfl, rfl, (((sF2.trans s9).trans sG).trans (same_new hGD)).seq hpl', nth_at hin2, acc, upd_same, ha', ?_⟩
            rw [upd_app]
            exact hyes rfl G _ (Same.refl _) hGD (.int _)
          intro G ys2 sG hGD hys
          rw [gN_map] at hys
          cases dps_ints_of hys
          have s10 : Same H'' (upd G nr (.lst ((gg.2.map (nth ns)).map V.int))) := (s9.trans sG).trans (same_new hGD)
          have hnr : upd G nr (.lst ((gg.2.map (nth ns)).map V.int)) nr = some (.lst ((gg.2.map (nth ns)).map V.int)) := upd_same
          generalize upd G nr (.lst ((gg.2.map (nth ns)).map V.int)) = H10 at s10 hnr
          have FF := Fnd.same s10 FF2
          have kp3 := kp2.trans (But.of s10)
          obtain ⟨_, sF3, hpf3, _⟩ := id FF
          have hga3 := Same.tup sF3 hga
          refine ⟨_, rfl, ga, _, 0, _, rfl, rfl, hga3, atI_nat (j := 0) rfl, rfl, _, rfl, ?_⟩
          rcases okG_word og with ⟨e, hw⟩ | ⟨e, hw⟩ | ⟨e, hw⟩ | ⟨e, hw⟩ | ⟨e, hw⟩
          · have egc : gateC ns gg ww = [[-ww, (nth ns (side gg 0))], [-ww, (nth ns (side gg 1))], [ww, -(nth ns (side gg 0)), -(nth ns (side gg 1))]] := by
              unfold gateC
              simp only [e, words_ne, if_true, if_false]
            rw [near2 hw] at hnr
            generalize nth ns (side gg 0) = A at egc hnr
            generalize nth ns (side gg 1) = B at egc hnr
            rw [egc]
            refine ifF (by rw [e]; decide) ?_
            refine ⟨_, rfl, ga, _, 0, _, rfl, rfl, hga3, atI_nat (j := 0) rfl, rfl, _, rfl, ?_⟩
            refine ifT (by rw [e]; decide) ?_
            refine ⟨_, rfl, .inl ⟨rfl, _, SqL.of hpf3⟩, ?_⟩
            refine ⟨_, rfl, _, rfl, _, rfl, nr, _, 0, _, rfl, rfl, SqL.of hnr, atI_nat (j := 0) rfl, (show 2 ≤ sizeLine by decide), fun p100 m0 => ?_⟩
            have s0 := same_new (o := HO.tup [V.int (-ww), V.int A]) m0
            refine ⟨_, rfl, _, rfl, _, rfl, nr, _, 1, _, rfl, rfl, SqL.of (s0 _ _ hnr), atI_nat (j := 1) rfl, (show 2 ≤ sizeLine by decide), fun p101 m1 => ?_⟩
            have s1 := same_new (o := HO.tup [V.int (-ww), V.int B]) m1
            refine ⟨_, rfl, _, rfl, nr, _, 0, _, rfl, rfl, SqL.of ((s0.trans s1) _ _ hnr), atI_nat (j := 0) rfl, _, rfl, _, rfl, nr, _, 1, _, rfl, rfl, SqL.of ((s0.trans s1) _ _ hnr), atI_nat (j := 1) rfl, _, rfl, (show 3 ≤ sizeLine by decide), fun p102 m2 => ?_⟩
            have s2 := same_new (o := HO.tup [V.int ww, V.int (-A), V.int (-B)]) m2
            refine ⟨(show 3 ≤ sizeLine by decide), fun qq mq => ?_⟩
            have sq := same_new (o := HO.lst [V.ref p100, V.ref p101, V.ref p102]) mq
            obtain ⟨zs, z1, z2, F9, kp9⟩ := Fnd.ext (ds := [[(-ww), A], [(-ww), B], [ww, (-A), (-B)]]) npf FF (((s0.trans s1).trans s2).trans sq) (.cons (.tup (SqT.of (((s1.trans s2).trans sq) _ _ upd_same)) (dps_ints [(-ww), A])) (.cons (.tup (SqT.of ((s2.trans sq) _ _ upd_same)) (dps_ints [(-ww), B])) (.cons (.tup (SqT.of (sq _ _ upd_same)) (dps_ints [ww, (-A), (-B)])) .nil))) (by simp only [List.length_cons, List.length_nil]; omega)
            refine ⟨pf, qq, zs, _, rfl, rfl, z1, upd_same, z2, ?_⟩
            exact ⟨_, _, _, _, _, _, _, rfl, F9, kp3.trans kp9⟩
          · have egc : gateC ns gg ww = [[ww, -(nth ns (side gg 0))], [ww, -(nth ns (side gg 1))], [-ww, (nth ns (side gg 0)), (nth ns (side gg 1))]] := by
              unfold gateC
              simp only [e, words_ne, if_true, if_false]
            rw [near2 hw] at hnr
            generalize nth ns (side gg 0) = A at egc hnr
            generalize nth ns (side gg 1) = B at egc hnr
            rw [egc]
            refine ifF (by rw [e]; decide) ?_
            refine ⟨_, rfl, ga, _, 0, _, rfl, rfl, hga3, atI_nat (j := 0) rfl, rfl, _, rfl, ?_⟩
            refine ifF (by rw [e]; decide) ?_
            refine ⟨_, rfl, ga, _, 0, _, rfl, rfl, hga3, atI_nat (j := 0) rfl, rfl, _, rfl, ?_⟩
            refine ifT (by rw [e]; decide) ?_
            refine ⟨_, rfl, .inl ⟨rfl, _, SqL.of hpf3⟩, ?_⟩
            refine ⟨_, rfl, _, rfl, nr, _, 0, _, rfl, rfl, SqL.of hnr, atI_nat (j := 0) rfl, _, rfl, (show 2 ≤ sizeLine by decide), fun p100 m0 => ?_⟩
            have s0 := same_new (o := HO.tup [V.int ww, V.int (-A)]) m0
            refine ⟨_, rfl, _, rfl, nr, _, 1, _, rfl, rfl, SqL.of (s0 _ _ hnr), atI_nat (j := 1) rfl, _, rfl, (show 2 ≤ sizeLine by decide), fun p101 m1 => ?_⟩
            have s1 := same_new (o := HO.tup [V.int ww, V.int (-B)]) m1
            refine ⟨_, rfl, _, rfl, _, rfl, nr, _, 0, _, rfl, rfl, SqL.of ((s0.trans s1) _ _ hnr), atI_nat (j := 0) rfl, _, rfl, nr, _, 1, _, rfl, rfl, SqL.of ((s0.trans s1) _ _ hnr), atI_nat (j := 1) rfl, (show 3 ≤ sizeLine by decide), fun p102 m2 => ?_⟩
            have s2 := same_new (o := HO.tup [V.int (-ww), V.int A, V.int B]) m2
            refine ⟨(show 3 ≤ sizeLine by decide), fun qq mq => ?_⟩
            have sq := same_new (o := HO.lst [V.ref p100, V.ref p101, V.ref p102]) mq
            obtain ⟨zs, z1, z2, F9, kp9⟩ := Fnd.ext (ds := [[ww, (-A)], [ww, (-B)], [(-ww), A, B]]) npf FF (((s0.trans s1).trans s2).trans sq) (.cons (.tup (SqT.of (((s1.trans s2).trans sq) _ _ upd_same)) (dps_ints [ww, (-A)])) (.cons (.tup (SqT.of ((s2.trans sq) _ _ upd_same)) (dps_ints [ww, (-B)])) (.cons (.tup (SqT.of (sq _ _ upd_same)) (dps_ints [(-ww), A, B])) .nil))) (by simp only [List.length_cons, List.length_nil]; omega)
            refine ⟨pf, qq, zs, _, rfl, rfl, z1, upd_same, z2, ?_⟩
            exact ⟨_, _, _, _, _, _, _, rfl, F9, kp3.trans kp9⟩
          · have egc : gateC ns gg ww = [[-ww, (nth ns (side gg 0)), (nth ns (side gg 1))], [-ww, -(nth ns (side gg 0)), -(nth ns (side gg 1))], [ww, -(nth ns (side gg 0)), (nth ns (side gg 1))], [ww, (nth ns (side gg 0)), -(nth ns (side gg 1))]] := by
              unfold gateC xorC
              simp only [e, words_ne, if_true, if_false]
            rw [near2 hw] at hnr
            generalize nth ns (side gg 0) = A at egc hnr
            generalize nth ns (side gg 1) = B at egc hnr
            rw [egc]
            refine ifF (by rw [e]; decide) ?_
            refine ⟨_, rfl, ga, _, 0, _, rfl, rfl, hga3, atI_nat (j := 0) rfl, rfl, _, rfl, ?_⟩
            refine ifF (by rw [e]; decide) ?_
            refine ⟨_, rfl, ga, _, 0, _, rfl, rfl, hga3, atI_nat (j := 0) rfl, rfl, _, rfl, ?_⟩
            refine ifF (by rw [e]; decide) ?_
            refine ⟨_, rfl, ga, _, 0, _, rfl, rfl, hga3, atI_nat (j := 0) rfl, rfl, _, rfl, ?_⟩
            refine ifT (by rw [e]; decide) ?_
            refine ⟨_, rfl, .inl ⟨rfl, _, SqL.of hpf3⟩, ?_⟩
            refine ⟨_, rfl, _, rfl, _, rfl, nr, _, 0, _, rfl, rfl, SqL.of hnr, atI_nat (j := 0) rfl, _, rfl, nr, _, 1, _, rfl, rfl, SqL.of hnr, atI_nat (j := 1) rfl, (show 3 ≤ sizeLine by decide), fun p100 m0 => ?_⟩
            have s0 := same_new (o := HO.tup [V.int (-ww), V.int A, V.int B]) m0
            refine ⟨_, rfl, _, rfl, _, rfl, nr, _, 0, _, rfl, rfl, SqL.of (s0 _ _ hnr), atI_nat (j := 0) rfl, _, rfl, _, rfl, nr, _, 1, _, rfl, rfl, SqL.of (s0 _ _ hnr), atI_nat (j := 1) rfl, _, rfl, (show 3 ≤ sizeLine by decide), fun p101 m1 => ?_⟩
            have s1 := same_new (o := HO.tup [V.int (-ww), V.int (-A), V.int (-B)]) m1
            refine ⟨_, rfl, _, rfl, nr, _, 0, _, rfl, rfl, SqL.of ((s0.trans s1) _ _ hnr), atI_nat (j := 0) rfl, _, rfl, _, rfl, nr, _, 1, _, rfl, rfl, SqL.of ((s0.trans s1) _ _ hnr), atI_nat (j := 1) rfl, (show 3 ≤ sizeLine by decide), fun p102 m2 => ?_⟩
            have s2 := same_new (o := HO.tup [V.int ww, V.int (-A), V.int B]) m2
            refine ⟨_, rfl, _, rfl, nr, _, 0, _, rfl, rfl, SqL.of (((s0.trans s1).trans s2) _ _ hnr), atI_nat (j := 0) rfl, _, rfl, nr, _, 1, _, rfl, rfl, SqL.of (((s0.trans s1).trans s2) _ _ hnr), atI_nat (j := 1) rfl, _, rfl, (show 3 ≤ sizeLine by decide), fun p103 m3 => ?_⟩
            have s3 := same_new (o := HO.tup [V.int ww, V.int A, V.int (-B)]) m3
            refine ⟨(show 4 ≤ sizeLine by decide), fun qq mq => ?_⟩
            have sq := same_new (o := HO.lst [V.ref p100, V.ref p101, V.ref p102, V.ref p103]) mq
            obtain ⟨zs, z1, z2, F9, kp9⟩ := Fnd.ext (ds := [[(-ww), A, B], [(-ww), (-A), (-B)], [ww, (-A), B], [ww, A, (-B)]]) npf FF ((((s0.trans s1).trans s2).trans s3).trans sq) (.cons (.tup (SqT.of ((((s1.trans s2).trans s3).trans sq) _ _ upd_same)) (dps_ints [(-ww), A, B])) (.cons (.tup (SqT.of (((s2.trans s3).trans sq) _ _ upd_same)) (dps_ints [(-ww), (-A), (-B)])) (.cons (.tup (SqT.of ((s3.trans sq) _ _ upd_same)) (dps_ints [ww, (-A), B])) (.cons (.tup (SqT.of (sq _ _ upd_same)) (dps_ints [ww, A, (-B)])) .nil)))) (by simp only [List.length_cons, List.length_nil]; omega)
            refine ⟨pf, qq, zs, _, rfl, rfl, z1, upd_same, z2, ?_⟩
            exact ⟨_, _, _, _, _, _, _, rfl, F9, kp3.trans kp9⟩
          · have egc : gateC ns gg ww = [[ww, (nth ns (side gg 0))], [-ww, -(nth ns (side gg 0))]] := by
              unfold gateC
              simp only [e, words_ne, if_true, if_false]
            rw [near1 hw] at hnr
            generalize nth ns (side gg 0) = A at egc hnr
            rw [egc]
            refine ifT (by rw [e]; decide) ?_
            refine ⟨_, rfl, .inl ⟨rfl, _, SqL.of hpf3⟩, ?_⟩
            refine ⟨_, rfl, _, rfl, nr, _, 0, _, rfl, rfl, SqL.of hnr, atI_nat (j := 0) rfl, (show 2 ≤ sizeLine by decide), fun p100 m0 => ?_⟩
            have s0 := same_new (o := HO.tup [V.int ww, V.int A]) m0
            refine ⟨_, rfl, _, rfl, _, rfl, nr, _, 0, _, rfl, rfl, SqL.of (s0 _ _ hnr), atI_nat (j := 0) rfl, _, rfl, (show 2 ≤ sizeLine by decide), fun p101 m1 => ?_⟩
            have s1 := same_new (o := HO.tup [V.int (-ww), V.int (-A)]) m1
            refine ⟨(show 2 ≤ sizeLine by decide), fun qq mq => ?_⟩
            have sq := same_new (o := HO.lst [V.ref p100, V.ref p101]) mq
            obtain ⟨zs, z1, z2, F9, kp9⟩ := Fnd.ext (ds := [[ww, A], [(-ww), (-A)]]) npf FF ((s0.trans s1).trans sq) (.cons (.tup (SqT.of ((s1.trans sq) _ _ upd_same)) (dps_ints [ww, A])) (.cons (.tup (SqT.of (sq _ _ upd_same)) (dps_ints [(-ww), (-A)])) .nil)) (by simp only [List.length_cons, List.length_nil]; omega)
            refine ⟨pf, qq, zs, _, rfl, rfl, z1, upd_same, z2, ?_⟩
            exact ⟨_, _, _, _, _, _, _, rfl, F9, kp3.trans kp9⟩
          · have egc : gateC ns gg ww = [[-(nth ns (side gg 0)), -(nth ns (side gg 1)), ww], [-(nth ns (side gg 0)), (nth ns (side gg 1)), -ww], [(nth ns (side gg 0)), -(nth ns (side gg 2)), ww], [(nth ns (side gg 0)), (nth ns (side gg 2)), -ww]] := by
              unfold gateC
              simp only [e, words_ne, if_true, if_false]
            rw [near3 hw] at hnr
            generalize nth ns (side gg 0) = A at egc hnr
            generalize nth ns (side gg 1) = B at egc hnr
            generalize nth ns (side gg 2) = C at egc hnr
            rw [egc]
            refine ifF (by rw [e]; decide) ?_
            refine ⟨_, rfl, ga, _, 0, _, rfl, rfl, hga3, atI_nat (j := 0) rfl, rfl, _, rfl, ?_⟩
            refine ifF (by rw [e]; decide) ?_
            refine ⟨_, rfl, ga, _, 0, _, rfl, rfl, hga3, atI_nat (j := 0) rfl, rfl, _, rfl, ?_⟩
            refine ifF (by rw [e]; decide) ?_
            refine ⟨_, rfl, ga, _, 0, _, rfl, rfl, hga3, atI_nat (j := 0) rfl, rfl, _, rfl, ?_⟩
            refine ifF (by rw [e]; decide) ?_
            refine ⟨_, rfl, nr, _, rfl, SqL.of hnr, rfl, ?_⟩
            refine ⟨_, _, rfl, _, _, rfl, _, _, rfl, rfl, ?_⟩
            refine ⟨_, rfl, .inl ⟨rfl, _, SqL.of hpf3⟩, ?_⟩
            refine ⟨_, rfl, _, rfl, _, rfl, _, rfl, _, rfl, (show 3 ≤ sizeLine by decide), fun p100 m0 => ?_⟩
            have s0 := same_new (o := HO.tup [V.int (-A), V.int (-B), V.int ww]) m0
            refine ⟨_, rfl, _, rfl, _, rfl, _, rfl, _, rfl, (show 3 ≤ sizeLine by decide), fun p101 m1 => ?_⟩
            have s1 := same_new (o := HO.tup [V.int (-A), V.int B, V.int (-ww)]) m1
            refine ⟨_, rfl, _, rfl, _, rfl, _, rfl, (show 3 ≤ sizeLine by decide), fun p102 m2 => ?_⟩
            have s2 := same_new (o := HO.tup [V.int A, V.int (-C), V.int ww]) m2
            refine ⟨_, rfl, _, rfl, _, rfl, _, rfl, (show 3 ≤ sizeLine by decide), fun p103 m3 => ?_⟩
            have s3 := same_new (o := HO.tup [V.int A, V.int C, V.int (-ww)]) m3
            refine ⟨(show 4 ≤ sizeLine by decide), fun qq mq => ?_⟩
            have sq := same_new (o := HO.lst [V.ref p100, V.ref p101, V.ref p102, V.ref p103]) mq
            obtain ⟨zs, z1, z2, F9, kp9⟩ := Fnd.ext (ds := [[(-A), (-B), ww], [(-A), B, (-ww)], [A, (-C), ww], [A, C, (-ww)]]) npf FF ((((s0.trans s1).trans s2).trans s3).trans sq) (.cons (.tup (SqT.of ((((s1.trans s2).trans s3).trans sq) _ _ upd_same)) (dps_ints [(-A), (-B), ww])) (.cons (.tup (SqT.of (((s2.trans s3).trans sq) _ _ upd_same)) (dps_ints [(-A), B, (-ww)])) (.cons (.tup (SqT.of ((s3.trans sq) _ _ upd_same)) (dps_ints [A, (-C), ww])) (.cons (.tup (SqT.of (sq _ _ upd_same)) (dps_ints [A, C, (-ww)])) .nil)))) (by simp only [List.length_cons, List.length_nil]; omega)
            refine ⟨pf, qq, zs, _, rfl, rfl, z1, upd_same, z2, ?_⟩
            exact ⟨_, _, _, _, _, _, _, rfl, F9, kp3.trans kp9⟩
        · rintro σ H8 ⟨o17', o18', o19', o20', o21', o22', o23', rfl, F8, kp2⟩
          refine ⟨_, _, _, _, _, _, _, _, _, rfl, ?_, kp.trans kp2⟩
          rw [hgp, ← List.append_assoc, ← show ((N.gates.length : Nat) : Int).toNat = N.gates.length from Int.toNat_natCast _]
          exact F8
      · rintro σ H8 ⟨o15, o16, o17, o18, o19, o20, o21, o22, o23, rfl, F8, kp⟩
        have hd : cs ++ gpart n m 2 = headC n m ps := by
          rw [← hcs]
          unfold headC
          exact (List.append_assoc _ _ _).symm
        change Fnd K H5 pf (cs ++ gpart n m 2) H8 at F8
        rw [hd] at F8
        obtain ⟨_, sF8, hpf8, _⟩ := id F8
        have S8 := S5.trans sF8
        obtain ⟨hgx, hgy, hgt01⟩ := goal_in sz ok1 ok2 hps hgo
        obtain ⟨gg, gs, rfl, hgg, hgs⟩ := dp_tup hg
        cases hgs with
        | cons g0 hgs =>
          cases hgs with
          | cons g1 hgs =>
            cases hgs
            cases dp_str g0
            cases dp_int g1
            have ha8 := Same.tup S8 ha
            have hb8 := Same.tup S8 hb
            have hg8 := Same.tup S8 hgg
            have j1 : inR (one n).length (goalW n m ps wd k).1 = true := by
              rw [ol, show (((wn n).toNat : Nat) : Int) = wn n by omega]
              exact hgx
            have j2 : inR (two n m).length (goalW n m ps wd k).2.1 = true := by
              rw [tl, show (((wn m).toNat : Nat) : Int) = wn m by omega]
              exact hgy
            refine ⟨fun σ' H' => ∃ o10' o11' : Option V, σ' = [some (.ref a), some (.ref b), some (.ref c), some (.ref gg), some (.ref p1), some (.int (1 + n.inp)), some (.int ((m.firsts.length : Int) + (m.gates.length : Int))), some (.ref p2), some (.int (last n m)), some (.ref pf), o10', o11', some (.int (goalW n m ps wd k).2.2), o13, o14, o15, o16, o17, o18, o19, o20, o21, some (.int (nth (one n) (goalW n m ps wd k).1)), some (.int (nth (two n m) (goalW n m ps wd k).2.1)), none, none] ∧ H' = H8, ?_, ?_⟩
            · refine ⟨_, rfl, gg, _, 0, _, rfl, rfl, hg8, atI_nat (j := 0) rfl, rfl, _, rfl, ?_⟩
              unfold goalW at j1 j2 ⊢
              by_cases e : wd = "output"
              · rw [if_pos e] at j1 j2 ⊢
                unfold okGoal at hgo
                rw [if_pos e] at hgo
                have i1' : inR n.outs.length k = true := hgo
                have i2' : inR m.outs.length k = true := by rw [← sz.2]; exact i1'
                refine ifT (by rw [e]; decide) ?_
                refine ⟨_, rfl, _, rfl, a, _, 4, _, rfl, rfl, ha8, atI_nat (j := 4) rfl, _, rfl, gg, _, 1, _, rfl, rfl, hg8, atI_nat (j := 1) rfl, ao, _, _, _, rfl, rfl, S8.seq hO, nth_at i1', p1, _, _, _, rfl, rfl, SqL.of (sF8 _ _ hp1), nth_at j1, ?_⟩
                refine ⟨_, rfl, _, rfl, b, _, 4, _, rfl, rfl, hb8, atI_nat (j := 4) rfl, _, rfl, gg, _, 1, _, rfl, rfl, hg8, atI_nat (j := 1) rfl, bo, _, _, _, rfl, rfl, S8.seq hO2, nth_at i2', p2, _, _, _, rfl, rfl, SqL.of (sF8 _ _ hp2), nth_at j2, ?_⟩
                exact ⟨_, _, rfl, _, _, rfl, rfl⟩
              · rw [if_neg e] at j1 j2 ⊢
                unfold okGoal at hgo
                rw [if_neg e] at hgo
                simp only [Bool.and_eq_true, decide_eq_true_eq] at hgo
                have ne : decide (V.str wd = V.str "output") = false := decide_eq_false fun z => e (V.str.inj z)
                refine ifF ne ?_
                have kl : k.toNat < ps.length := by omega
                have eg : ps.getD k.toNat (0, 0, 0) = ps[k.toNat] := by rw [List.getD_eq_getElem?_getD, List.getElem?_eq_getElem kl]; rfl
                obtain ⟨y, hy, dy⟩ := dps_get (i := k.toNat) (d := prD ps[k.toNat]) hxs (by rw [List.getElem?_map, List.getElem?_eq_getElem kl]; rfl)
                have hr1 := List.all_eq_true.mp hps _ (List.getElem_mem kl)
                rw [eg] at j1 j2 ⊢
                generalize ps[k.toNat] = r at dy hr1 j1 j2
                obtain ⟨pa, rfl, hpa⟩ := pr_dp (dp_same S8 dy)
                have hat : atI xs k = some (.ref pa) := by
                  obtain ⟨kn, rfl⟩ := Int.eq_ofNat_of_zero_le hgo.2.1
                  exact atI_nat hy
                unfold okPrB at hr1
                simp only [Bool.and_eq_true, decide_eq_true_eq] at hr1
                obtain ⟨⟨⟨⟨q0, q1⟩, q2⟩, q3⟩, _⟩ := hr1
                refine ⟨_, rfl, _, rfl, gg, _, 1, _, rfl, rfl, hg8, atI_nat (j := 1) rfl, c, _, _, _, rfl, rfl, S8.seq hc, hat, pa, _, rfl, hpa, rfl, ?_⟩
                refine ⟨_, _, rfl, _, _, rfl, _, _, rfl, rfl, ?_⟩
                refine ⟨_, rfl, _, rfl, a, _, 2, _, rfl, rfl, ha8, atI_nat (j := 2) rfl, _, rfl, an, _, _, _, rfl, rfl, S8.seq hN, nth_at (by unfold inR; rw [(okNet_parts ok1).2.2.1, decide_eq_true q0, decide_eq_true q1]; rfl), p1, _, _, _, rfl, rfl, SqL.of (sF8 _ _ hp1), nth_at j1, ?_⟩
                refine ⟨_, rfl, _, rfl, b, _, 2, _, rfl, rfl, hb8, atI_nat (j := 2) rfl, _, rfl, bn, _, _, _, rfl, rfl, S8.seq hN2, nth_at (by unfold inR; rw [(okNet_parts ok2).2.2.1, decide_eq_true q2, decide_eq_true q3]; rfl), p2, _, _, _, rfl, rfl, SqL.of (sF8 _ _ hp2), nth_at j2, ?_⟩
                exact ⟨_, _, rfl, _, _, rfl, rfl⟩
            · rintro σ' H' ⟨o10', o11', rfl, rfl⟩
              have hl : (headC n m ps).length ≤ 2000 := by
                have g1 := gatesC_len (one n) (w0 n) n.gates n.gates.length
                have g2 := gatesC_len (two n m) (w0 m) m.gates m.gates.length
                have := sn.2.2.2.2.1
                have := sm.2.2.2.2.1
                unfold headC
                rw [List.length_append, List.length_append, List.length_append, PL]
                simp only [List.length_singleton]
                omega
              have hgiv : ∀ gw, givenC n m ps gw = headC n m ps ++ xorC (last n m) (nth (one n) gw.1) (nth (two n m) gw.2.1) ++ [if gw.2.2 = 0 then [last n m] else [-(last n m)]] := fun _ => rfl
              have hgiv := hgiv (goalW n m ps wd k)
              have lsm : 0 ≤ last n m ∧ last n m ≤ 10000 := by
                have := sm.2.2.1
                have := sm.2.2.2.2.1
                unfold last
                omega
              have FF := F8
              generalize goalW n m ps wd k = gw at hgiv hgt01 k4 j1 j2
              generalize nth (one n) gw.1 = X at hgiv
              generalize nth (two n m) gw.2.1 = Y at hgiv
              refine ⟨_, rfl, .inl ⟨rfl, _, SqL.of hpf8⟩, ?_⟩
              rcases hgt01 with hz | hz
              · have egw : (if gw.2.2 = 0 then [last n m] else [-(last n m)]) = [last n m] := if_pos hz
                have elz : last n m - 2 * last n m * gw.2.2 = last n m := by rw [hz]; omega
                refine ⟨_, rfl, _, rfl, _, rfl, _, rfl, (show 3 ≤ sizeLine by decide), fun p100 m0 => ?_⟩
                have s0 := same_new (o := HO.tup [V.int (-(last n m)), V.int X, V.int Y]) m0
                refine ⟨_, rfl, _, rfl, _, rfl, _, rfl, _, rfl, _, rfl, (show 3 ≤ sizeLine by decide), fun p101 m1 => ?_⟩
                have s1 := same_new (o := HO.tup [V.int (-(last n m)), V.int (-X), V.int (-Y)]) m1
                refine ⟨_, rfl, _, rfl, _, rfl, _, rfl, (show 3 ≤ sizeLine by decide), fun p102 m2 => ?_⟩
                have s2 := same_new (o := HO.tup [V.int (last n m), V.int (-X), V.int Y]) m2
                refine ⟨_, rfl, _, rfl, _, rfl, _, rfl, (show 3 ≤ sizeLine by decide), fun p103 m3 => ?_⟩
                have s3 := same_new (o := HO.tup [V.int (last n m), V.int X, V.int (-Y)]) m3
                refine ⟨_, rfl, _, rfl, _, _, rfl, rfl, .inl ⟨by decide, by decide⟩, _, rfl, _, _, rfl, rfl, .inr ⟨by omega, by omega⟩, _, _, rfl, rfl, (show 1 ≤ sizeLine by decide), fun p104 m4 => ?_⟩
                have s4 := same_new (o := HO.tup [V.int (last n m - 2 * last n m * gw.2.2)]) m4
                refine ⟨(show 5 ≤ sizeLine by decide), fun qq mq => ?_⟩
                have sq := same_new (o := HO.lst [V.ref p100, V.ref p101, V.ref p102, V.ref p103, V.ref p104]) mq
                obtain ⟨zs, z1, z2, F9, kp9⟩ := Fnd.ext (ds := [[(-(last n m)), X, Y], [(-(last n m)), (-X), (-Y)], [(last n m), (-X), Y], [(last n m), X, (-Y)], [last n m - 2 * last n m * gw.2.2]]) npf FF (((((s0.trans s1).trans s2).trans s3).trans s4).trans sq) (.cons (.tup (SqT.of (((((s1.trans s2).trans s3).trans s4).trans sq) _ _ upd_same)) (dps_ints [(-(last n m)), X, Y])) (.cons (.tup (SqT.of ((((s2.trans s3).trans s4).trans sq) _ _ upd_same)) (dps_ints [(-(last n m)), (-X), (-Y)])) (.cons (.tup (SqT.of (((s3.trans s4).trans sq) _ _ upd_same)) (dps_ints [(last n m), (-X), Y])) (.cons (.tup (SqT.of ((s4.trans sq) _ _ upd_same)) (dps_ints [(last n m), X, (-Y)])) (.cons (.tup (SqT.of (sq _ _ upd_same)) (dps_ints [last n m - 2 * last n m * gw.2.2])) .nil))))) (by simp only [List.length_cons, List.length_nil]; omega)
                refine ⟨pf, qq, zs, _, rfl, rfl, z1, upd_same, z2, ?_⟩
                rw [elz] at F9
                have hgv : headC n m ps ++ [[-(last n m), X, Y], [-(last n m), -X, -Y], [last n m, -X, Y], [last n m, X, -Y], [last n m]] = givenC n m ps gw := by
                  rw [hgiv, egw]
                  exact (List.append_assoc (headC n m ps) (xorC (last n m) X Y) [[last n m]]).symm
                rw [hgv] at F9
                have gl : (givenC n m ps gw).length ≤ 3000 := by
                  rw [← hgv, List.length_append]
                  simp only [List.length_cons, List.length_nil]
                  omega
                obtain ⟨fs, sF10, hpf10, dF10⟩ := F9
                refine ⟨_, rfl, pf, rfl, ⟨_, SqL.of hpf10⟩, fun D hD => ?_⟩
                refine lc_data (K := K) (a := pf) (xs := fs) (ds := (givenC n m ps gw).map clD) (fun _ => true) ordD (SqL.of hpf10) dF10 hD (by rw [List.length_map]; omega) ?_ ?_
                · intro v d G2 acc R dm hv2 sG2 hG2 ha2 _ hyes
                  obtain ⟨cc, hcc, rfl⟩ := List.mem_map.mp dm
                  refine ⟨rfl, _, rfl, v, cc, rfl, dp_same (same_new hG2) hv2, given_cl _ hcc, fun u H11 s11 du => ?_⟩
                  have hD11 := s11 _ _ (upd_same (H := G2) (a := D) (o := HO.lst acc))
                  refine ⟨acc, hD11, ha2, ?_⟩
                  rw [split_at hD11, upd_app]
                  exact hyes rfl (del1 H11 D) u (same_del hG2 s11) (del1_at _ _) (dp_keep (KeepT.del hD11) (noL_cl _) (by rw [ordD_cl]; exact du))
                · intro G2 rs sG2 hG2 hrs
                  rw [List.filter_eq_self.mpr fun _ _ => rfl, List.map_map, show ordD ∘ clD = (fun c => clD (ordC c)) from funext ordD_cl] at hrs
                  have SG := (S5.trans sF10).trans sG2
                  exact k4 D rs _ (SG.trans (same_new hG2)) (none_of_same (S5.trans sF10) hD) upd_same (dps_same (same_new hG2) hrs)
              · have egw : (if gw.2.2 = 0 then [last n m] else [-(last n m)]) = [-(last n m)] := if_neg (by omega)
                have elz : last n m - 2 * last n m * gw.2.2 = -(last n m) := by rw [hz]; omega
                refine ⟨_, rfl, _, rfl, _, rfl, _, rfl, (show 3 ≤ sizeLine by decide), fun p100 m0 => ?_⟩
                have s0 := same_new (o := HO.tup [V.int (-(last n m)), V.int X, V.int Y]) m0
                refine ⟨_, rfl, _, rfl, _, rfl, _, rfl, _, rfl, _, rfl, (show 3 ≤ sizeLine by decide), fun p101 m1 => ?_⟩
                have s1 := same_new (o := HO.tup [V.int (-(last n m)), V.int (-X), V.int (-Y)]) m1
                refine ⟨_, rfl, _, rfl, _, rfl, _, rfl, (show 3 ≤ sizeLine by decide), fun p102 m2 => ?_⟩
                have s2 := same_new (o := HO.tup [V.int (last n m), V.int (-X), V.int Y]) m2
                refine ⟨_, rfl, _, rfl, _, rfl, _, rfl, (show 3 ≤ sizeLine by decide), fun p103 m3 => ?_⟩
                have s3 := same_new (o := HO.tup [V.int (last n m), V.int X, V.int (-Y)]) m3
                refine ⟨_, rfl, _, rfl, _, _, rfl, rfl, .inl ⟨by decide, by decide⟩, _, rfl, _, _, rfl, rfl, .inr ⟨by omega, by omega⟩, _, _, rfl, rfl, (show 1 ≤ sizeLine by decide), fun p104 m4 => ?_⟩
                have s4 := same_new (o := HO.tup [V.int (last n m - 2 * last n m * gw.2.2)]) m4
                refine ⟨(show 5 ≤ sizeLine by decide), fun qq mq => ?_⟩
                have sq := same_new (o := HO.lst [V.ref p100, V.ref p101, V.ref p102, V.ref p103, V.ref p104]) mq
                obtain ⟨zs, z1, z2, F9, kp9⟩ := Fnd.ext (ds := [[(-(last n m)), X, Y], [(-(last n m)), (-X), (-Y)], [(last n m), (-X), Y], [(last n m), X, (-Y)], [last n m - 2 * last n m * gw.2.2]]) npf FF (((((s0.trans s1).trans s2).trans s3).trans s4).trans sq) (.cons (.tup (SqT.of (((((s1.trans s2).trans s3).trans s4).trans sq) _ _ upd_same)) (dps_ints [(-(last n m)), X, Y])) (.cons (.tup (SqT.of ((((s2.trans s3).trans s4).trans sq) _ _ upd_same)) (dps_ints [(-(last n m)), (-X), (-Y)])) (.cons (.tup (SqT.of (((s3.trans s4).trans sq) _ _ upd_same)) (dps_ints [(last n m), (-X), Y])) (.cons (.tup (SqT.of ((s4.trans sq) _ _ upd_same)) (dps_ints [(last n m), X, (-Y)])) (.cons (.tup (SqT.of (sq _ _ upd_same)) (dps_ints [last n m - 2 * last n m * gw.2.2])) .nil))))) (by simp only [List.length_cons, List.length_nil]; omega)
                refine ⟨pf, qq, zs, _, rfl, rfl, z1, upd_same, z2, ?_⟩
                rw [elz] at F9
                have hgv : headC n m ps ++ [[-(last n m), X, Y], [-(last n m), -X, -Y], [last n m, -X, Y], [last n m, X, -Y], [-(last n m)]] = givenC n m ps gw := by
                  rw [hgiv, egw]
                  exact (List.append_assoc (headC n m ps) (xorC (last n m) X Y) [[-(last n m)]]).symm
                rw [hgv] at F9
                have gl : (givenC n m ps gw).length ≤ 3000 := by
                  rw [← hgv, List.length_append]
                  simp only [List.length_cons, List.length_nil]
                  omega
                obtain ⟨fs, sF10, hpf10, dF10⟩ := F9
                refine ⟨_, rfl, pf, rfl, ⟨_, SqL.of hpf10⟩, fun D hD => ?_⟩
                refine lc_data (K := K) (a := pf) (xs := fs) (ds := (givenC n m ps gw).map clD) (fun _ => true) ordD (SqL.of hpf10) dF10 hD (by rw [List.length_map]; omega) ?_ ?_
                · intro v d G2 acc R dm hv2 sG2 hG2 ha2 _ hyes
                  obtain ⟨cc, hcc, rfl⟩ := List.mem_map.mp dm
                  refine ⟨rfl, _, rfl, v, cc, rfl, dp_same (same_new hG2) hv2, given_cl _ hcc, fun u H11 s11 du => ?_⟩
                  have hD11 := s11 _ _ (upd_same (H := G2) (a := D) (o := HO.lst acc))
                  refine ⟨acc, hD11, ha2, ?_⟩
                  rw [split_at hD11, upd_app]
                  exact hyes rfl (del1 H11 D) u (same_del hG2 s11) (del1_at _ _) (dp_keep (KeepT.del hD11) (noL_cl _) (by rw [ordD_cl]; exact du))
                · intro G2 rs sG2 hG2 hrs
                  rw [List.filter_eq_self.mpr fun _ _ => rfl, List.map_map, show ordD ∘ clD = (fun c => clD (ordC c)) from funext ordD_cl] at hrs
                  have SG := (S5.trans sF10).trans sG2
                  exact k4 D rs _ (SG.trans (same_new hG2)) (none_of_same (S5.trans sF10) hD) upd_same (dps_same (same_new hG2) hrs)
end
end Q41



set_option pp.maxSteps 1500
namespace Q41
open PySem L2 G M03 M41
open C8 (Cal Met Mak pe_c pe_mk pe_mt pe_mt0 pe_gc pss_cut tCut)
section
variable {P : Program} {w : World} {K : PySem.W.Frag} {mg : Str → Option Value} {base : Heap}
/-! ### _law_spoil -/
def spSpoil (K : PySem.W.Frag) : Nat → Sp
  | 0 => fun _ _ _ _ => False
  | 1 => fun vs H Q _ => ∃ i : Int, vs = [.int i] ∧ ∀ H', Same H H' → Q .non H'
  | 2 => fun vs H Q _ => ∃ (v : V) (c : Cl), vs = [v] ∧ Dp K H v (clD c) ∧ ∀ H', Same H H' → Q .non H'
  | 3 => fun vs H Q _ => ∃ (a : Addr) (xs : List V) (cs : List Cl), vs = [.ref a] ∧ H a = some (.lst xs) ∧ DpAll K H xs (cs.map clD) ∧ cs.length ≤ 10000 ∧ ∀ H', But a H H' → Q .non H'
  | 4 => fun vs H Q _ => ∃ (b a : Addr) (xs : List V) (cs : List Cl), vs = [.ref b] ∧ b ≠ a ∧ H b = some (.lst [.ref a]) ∧ H a = some (.lst xs) ∧ DpAll K H xs (cs.map clD) ∧ cs.length ≤ 10000 ∧ ∀ H', (∀ x o, x ≠ a → x ≠ b → H x = some o → H' x = some o) → Q .non H'
  | _ + 5 => fun _ _ _ _ => False
theorem ok_spoil {f : Addr} {fd : FuncData} (F : Fun K "_law_spoil" "_law_spoil" s__law_spoil f fd) (T : Txt K mg) (hm : mg "_law_spoil" = some (.ref f)) (b : Binds K fd ["value"] []) : ∀ n : Nat, FnOk P w K mg base CX0 n f fd ["value"] (spSpoil K n) := by
  intro n
  induction n with
  | zero => exact ⟨fun _ _ _ _ h => h.elim, fun _ _ _ _ _ _ _ _ _ _ _ _ _ h => h.elim⟩
  | succ n ih =>
    have c__law_spoil : Cal P w K mg base n "_law_spoil" (spSpoil K n) [] := ⟨f, fd, _, _, ih, hm, F.kp, b, .nil⟩
    refine F.ok sc__law_spoil (fun vs H Q E h => ?_) (fun cdv A outer s H vs Q E hr h => ?_)
    · match n, h with
      | 0, ⟨i, e, _⟩ => subst e; rfl
      | 1, ⟨v, c, e, _⟩ => subst e; rfl
      | 2, ⟨a, xs, cs, e, _⟩ => subst e; rfl
      | 3, ⟨b, a, xs, cs, e, _⟩ => subst e; rfl
      | n + 4, h => exact h.elim
    · match n, h, c__law_spoil with
      | 0, ⟨i, e, k⟩, c__law_spoil =>
        subst e
        refine ⟨_, (pss_cut (ps_if (pt_val (pe_callB call_isiT (by rfl) T.b_isinstance boot_isinstance' (pa_cons (pv 0) (pa_cons (pe_tup (pa_cons (pe_bltn (v := .ty "list") (by rfl) T.b_list boot_list' rfl) (pa_cons (pe_bltn (v := .ty "tuple") (by rfl) T.b_tuple boot_tuple' rfl) pa_nil))) pa_nil)))) (pss_one (ps_for PassesOwn.never rfl (pi_list (pv 0)) (pg_name (i := 1) sc__law_spoil.nd rfl (Or.inl rfl)) (pss_one (ps_expr (pe_c c__law_spoil hr (by omega) rfl (pa_cons (pv 1) pa_nil)))))) pss_nil)
      (pss_one (ps_if (pt_val (pe_callB call_isi (by rfl) T.b_isinstance boot_isinstance' (pa_cons (pv 0) (pa_cons (pe_bltn (v := .ty "list") (by rfl) T.b_list boot_list' rfl) pa_nil)))) (pss_one (ps_expr (pe_bm PySem.F.plainAttrs_list PySem.F.slot_list_append PySem.F.type_list_append mt_append (pv 0) (pa_cons pe_int pa_nil)))) pss_nil))), ?_⟩
        have hd : ∀ Hx : Hp, Dp K Hx (.int i) (.int i) := fun _ => .int i
        refine ⟨fun σ' H' => ∃ o, σ' = [some (.int i), o] ∧ Same H H', ⟨_, rfl, by decide, fun p1 n1 => ?_⟩, ?_⟩
        · refine ⟨_, _, _, _, _, _, rfl, upd_same, clsv2 _ _, dp_ty (hd _), kitD2 K _ _ _ (by decide) (by decide), _, rfl, iteF ?_⟩
          exact ⟨_, rfl, same_new n1⟩
        · rintro σ' H' ⟨o, rfl, s1⟩
          refine ⟨_, rfl, _, _, _, _, _, rfl, .ty _, dp_ty (hd _), kitD K _ _ (by decide), _, rfl, iteF ?_⟩
          exact k H' s1
      | 1, ⟨v, c, e, hd, k⟩, c__law_spoil =>
        subst e
        obtain ⟨a, xs, rfl, hx, hxs⟩ := dp_tup hd
        cases dps_ints_of hxs
        refine ⟨_, (pss_cut (ps_if (pt_val (pe_callB call_isiT (by rfl) T.b_isinstance boot_isinstance' (pa_cons (pv 0) (pa_cons (pe_tup (pa_cons (pe_bltn (v := .ty "list") (by rfl) T.b_list boot_list' rfl) (pa_cons (pe_bltn (v := .ty "tuple") (by rfl) T.b_tuple boot_tuple' rfl) pa_nil))) pa_nil)))) (pss_one (ps_for PassesOwn.never rfl (pi_tup (pv 0)) (pg_name (i := 1) sc__law_spoil.nd rfl (Or.inl rfl)) (pss_one (ps_expr (pe_c c__law_spoil hr (by omega) rfl (pa_cons (pv 1) pa_nil)))))) pss_nil)
      (pss_one (ps_if (pt_val (pe_callB call_isi (by rfl) T.b_isinstance boot_isinstance' (pa_cons (pv 0) (pa_cons (pe_bltn (v := .ty "list") (by rfl) T.b_list boot_list' rfl) pa_nil)))) (pss_one (ps_expr (pe_bm PySem.F.plainAttrs_list PySem.F.slot_list_append PySem.F.type_list_append mt_append (pv 0) (pa_cons pe_int pa_nil)))) pss_nil))), ?_⟩
        refine ⟨fun σ' H' => ∃ o, σ' = [some (.ref a), o] ∧ Same H H', ⟨_, rfl, by decide, fun p1 n1 => ?_⟩, ?_⟩
        · have s1 := same_new (o := HO.tup [V.ty "list", V.ty "tuple"]) n1
          refine ⟨_, _, _, _, _, _, rfl, upd_same, clsv2 _ _, dp_ty (dp_same s1 hd), kitD2 K _ _ _ (by decide) (by decide), _, rfl, iteT ?_⟩
          refine ⟨_, rfl, a, rfl, ⟨_, Same.tup s1 hx⟩, for_tup (K := K) (a := a) (xs := c.map V.int) (fun i σ H' => ∃ o, σ = [some (.ref a), o] ∧ Same H H') ⟨none, rfl, s1⟩ ?_ ?_ ?_⟩
          · rintro i σ H' _ ⟨o, _, s2⟩
            exact Same.tup s2 hx
          · rintro i y σ H' hi ⟨o, rfl, s2⟩
            rw [List.getElem?_map] at hi
            obtain ⟨z, _, rfl⟩ := Option.map_eq_some_iff.mp hi
            exact ⟨_, rfl, z, rfl, fun H2 s3 => ⟨_, rfl, s2.trans s3⟩⟩
          · rintro σ H' ⟨o, rfl, s2⟩
            exact ⟨_, rfl, s2⟩
        · rintro σ' H' ⟨o, rfl, s1⟩
          refine ⟨_, rfl, _, _, _, _, _, rfl, .ty _, dp_ty (dp_same s1 hd), kitD K _ _ (by decide), _, rfl, iteF ?_⟩
          exact k H' s1
      | 2, ⟨a, xs, cs, e, ha, hxs, hl, k⟩, c__law_spoil =>
        subst e
        have hd : Dp K H (.ref a) (.list (cs.map clD)) := .lst (SqL.of ha) hxs
        refine ⟨_, (pss_cut (ps_if (pt_val (pe_callB call_isiT (by rfl) T.b_isinstance boot_isinstance' (pa_cons (pv 0) (pa_cons (pe_tup (pa_cons (pe_bltn (v := .ty "list") (by rfl) T.b_list boot_list' rfl) (pa_cons (pe_bltn (v := .ty "tuple") (by rfl) T.b_tuple boot_tuple' rfl) pa_nil))) pa_nil)))) (pss_one (ps_for PassesOwn.never rfl (pi_list (pv 0)) (pg_name (i := 1) sc__law_spoil.nd rfl (Or.inl rfl)) (pss_one (ps_expr (pe_c c__law_spoil hr (by omega) rfl (pa_cons (pv 1) pa_nil)))))) pss_nil)
      (pss_one (ps_if (pt_val (pe_callB call_isi (by rfl) T.b_isinstance boot_isinstance' (pa_cons (pv 0) (pa_cons (pe_bltn (v := .ty "list") (by rfl) T.b_list boot_list' rfl) pa_nil)))) (pss_one (ps_expr (pe_bm PySem.F.plainAttrs_list PySem.F.slot_list_append PySem.F.type_list_append mt_append (pv 0) (pa_cons pe_int pa_nil)))) pss_nil))), ?_⟩
        refine ⟨fun σ' H' => ∃ o, σ' = [some (.ref a), o] ∧ Same H H', ⟨_, rfl, by decide, fun p1 n1 => ?_⟩, ?_⟩
        · have s1 := same_new (o := HO.tup [V.ty "list", V.ty "tuple"]) n1
          refine ⟨_, _, _, _, _, _, rfl, upd_same, clsv2 _ _, dp_ty (dp_same s1 hd), kitD2 K _ _ _ (by decide) (by decide), _, rfl, iteT ?_⟩
          refine ⟨_, rfl, a, rfl, ⟨_, SqL.of (s1 _ _ ha)⟩, for_list (K := K) (a := a) (xs := xs) (fun i σ H' => ∃ o, σ = [some (.ref a), o] ∧ Same H H') ⟨none, rfl, s1⟩ ?_ ?_ ?_⟩
          · rintro i σ H' _ ⟨o, _, s2⟩
            exact SqL.of (s2 _ _ ha)
          · rintro i y σ H' hi ⟨o, rfl, s2⟩
            obtain ⟨d, hdi, dx⟩ := dps_getv hxs hi
            rw [List.getElem?_map] at hdi
            obtain ⟨z, _, rfl⟩ := Option.map_eq_some_iff.mp hdi
            exact ⟨_, rfl, y, z, rfl, dp_same s2 dx, fun H2 s3 => ⟨_, rfl, s2.trans s3⟩⟩
          · rintro σ H' ⟨o, rfl, s2⟩
            exact ⟨_, rfl, s2⟩
        · rintro σ' H' ⟨o, rfl, s1⟩
          refine ⟨_, rfl, _, _, _, _, _, rfl, .ty _, dp_ty (dp_same s1 hd), kitD K _ _ (by decide), _, rfl, iteT ?_⟩
          have ha' := s1 _ _ ha
          refine ⟨_, rfl, .inl ⟨rfl, _, SqL.of ha'⟩, _, _, _, rfl, rfl, ha', size_lt (by rw [dps_len hxs, List.length_map]; omega), ?_⟩
          exact k _ ((But.of s1).trans but_upd)
      | 3, ⟨b, a, xs, cs, e, nba, hb, ha, hxs, hl, k⟩, c__law_spoil =>
        subst e
        have hd : ∀ {Hx : Hp} {ys : List V}, Hx b = some (.lst ys) → TyX K Hx (.ref b) (.type "list") := fun h => .base (.lst h)
        refine ⟨_, (pss_cut (ps_if (pt_val (pe_callB call_isiT (by rfl) T.b_isinstance boot_isinstance' (pa_cons (pv 0) (pa_cons (pe_tup (pa_cons (pe_bltn (v := .ty "list") (by rfl) T.b_list boot_list' rfl) (pa_cons (pe_bltn (v := .ty "tuple") (by rfl) T.b_tuple boot_tuple' rfl) pa_nil))) pa_nil)))) (pss_one (ps_for PassesOwn.never rfl (pi_list (pv 0)) (pg_name (i := 1) sc__law_spoil.nd rfl (Or.inl rfl)) (pss_one (ps_expr (pe_c c__law_spoil hr (by omega) rfl (pa_cons (pv 1) pa_nil)))))) pss_nil)
      (pss_one (ps_if (pt_val (pe_callB call_isi (by rfl) T.b_isinstance boot_isinstance' (pa_cons (pv 0) (pa_cons (pe_bltn (v := .ty "list") (by rfl) T.b_list boot_list' rfl) pa_nil)))) (pss_one (ps_expr (pe_bm PySem.F.plainAttrs_list PySem.F.slot_list_append PySem.F.type_list_append mt_append (pv 0) (pa_cons pe_int pa_nil)))) pss_nil))), ?_⟩
        refine ⟨fun σ' H' => ∃ o, σ' = [some (.ref b), o] ∧ But a H H', ⟨_, rfl, by decide, fun p1 n1 => ?_⟩, ?_⟩
        · have s1 := same_new (o := HO.tup [V.ty "list", V.ty "tuple"]) n1
          refine ⟨_, _, _, _, _, _, rfl, upd_same, clsv2 _ _, hd (s1 _ _ hb), kitD2 K (.list []) _ _ (by decide) (by decide), _, rfl, iteT ?_⟩
          refine ⟨_, rfl, b, rfl, ⟨_, SqL.of (s1 _ _ hb)⟩, for_list (K := K) (a := b) (xs := [V.ref a]) (fun i σ H' => ∃ o, σ = [some (.ref b), o] ∧ But a H H' ∧ (i = 0 → Same H H')) ⟨none, rfl, But.of s1, fun _ => s1⟩ ?_ ?_ ?_⟩
          · rintro i σ H' _ ⟨o, _, s2, _⟩
            exact SqL.of (s2 _ _ nba hb)
          · rintro i y σ H' hi ⟨o, rfl, s2, s3⟩
            match i, hi with
            | 0, hi =>
              cases hi
              have s3 := s3 rfl
              exact ⟨_, rfl, a, xs, cs, rfl, s3 _ _ ha, dps_same s3 hxs, hl, fun H2 s4 => ⟨_, rfl, (But.of s3).trans s4, fun z => by cases z⟩⟩
            | i + 1, hi => cases hi
          · rintro σ H' ⟨o, rfl, s2, _⟩
            exact ⟨_, rfl, s2⟩
        · rintro σ' H' ⟨o, rfl, s1⟩
          have hb' := s1 _ _ nba hb
          refine ⟨_, rfl, _, _, _, _, _, rfl, .ty _, hd hb', kitD K (.list []) _ (by decide), _, rfl, iteT ?_⟩
          refine ⟨_, rfl, .inl ⟨rfl, _, SqL.of hb'⟩, _, _, _, rfl, rfl, hb', (show 1 < sizeLine by decide), ?_⟩
          exact k _ fun x o n1 n2 e => by rw [upd_ne n2]; exact s1 _ _ n1 e
      | n + 4, h, _ => exact h.elim
end
end Q41



set_option pp.maxSteps 1500
namespace Q41
open PySem L2 G M03 M41
open C8 (Cal Met Mak pe_c pe_mk pe_mt pe_mt0 pe_gc pss_cut tCut)
/-! ### draws in a comprehension -/
def DrawP (dk D : Addr) (H1 : Hp) (m : Int) (i : Nat) (H : Hp) : Prop := ∃ rs : List Int, rs.length = i ∧ (∀ r ∈ rs, 0 ≤ r ∧ r < m) ∧ But dk H1 H ∧ H D = some (.lst (rs.map V.int)) ∧ Deck H dk
theorem draw0 {dk D : Addr} {H1 : Hp} {m : Int} (hD : H1 D = none) (hk : Deck H1 dk) : DrawP dk D H1 m 0 (upd H1 D (.lst [])) :=
  ⟨[], rfl, (fun _ h => by cases h), But.of (same_new hD), upd_same, hk.same (same_new hD)⟩
theorem draw_next {dk D : Addr} {H1 H : Hp} {m : Int} {i : Nat} {E : XK} (hD : H1 D = none) (hk : Deck H1 dk) (hm : 0 < m) (hi : i < 100000) (p : DrawP dk D H1 m i H) :
    spTake [.ref dk, .int m] H (fun y H4 => ∃ acc, H4 D = some (.lst acc) ∧ acc.length < sizeLine ∧ DrawP dk D H1 m (i + 1) (upd H4 D (.lst (acc ++ [y])))) E := by
  obtain ⟨rs, hl, hr, b, hd, k⟩ := p
  have ne := Deck.ne hk hD
  refine ⟨dk, m, rfl, hm, k, fun r H' r0 r1 b2 k2 => ⟨rs.map V.int, b2 _ _ ne hd, size_lt (by rw [List.length_map]; omega), rs ++ [r], by rw [List.length_append, hl]; rfl, fun x hx => ?_, ?_, by rw [upd_same, List.map_append]; rfl, ?_⟩⟩
  · rcases List.mem_append.mp hx with hx | hx
    · exact hr x hx
    · rw [List.mem_singleton.mp hx]
      exact ⟨r0, r1⟩
  · intro c o nc e
    have q := b2 c o nc (b c o nc e)
    rw [upd_ne (fun z => by rw [z, hD] at e; cases e)]
    exact q
  · obtain ⟨ds, h1, h2⟩ := k2
    exact ⟨ds, h1, by rw [upd_ne (Ne.symm ne)]; exact h2⟩
theorem draw_keep {dk D : Addr} {H1 H H' : Hp} {m : Int} {i : Nat} (hD : H1 D = none) (hk : Deck H1 dk) (p : DrawP dk D H1 m i H) (b : But dk H H') (k : Deck H' dk) : DrawP dk D H1 m i H' := by
  obtain ⟨rs, hl, hr, b1, hd, _⟩ := p
  exact ⟨rs, hl, hr, b1.trans b, b _ _ (Deck.ne hk hD) hd, k⟩
theorem draw_put {dk D : Addr} {H1 H : Hp} {m r : Int} {i : Nat} (hD : H1 D = none) (hk : Deck H1 dk) (p : DrawP dk D H1 m i H) (r0 : 0 ≤ r) (r1 : r < m) (hi : i < 100000) :
    ∃ acc, H D = some (.lst acc) ∧ acc.length < sizeLine ∧ DrawP dk D H1 m (i + 1) (upd H D (.lst (acc ++ [.int r]))) := by
  obtain ⟨rs, hl, hr, b1, hd, k⟩ := p
  have ne := Deck.ne hk hD
  refine ⟨_, hd, size_lt (by rw [List.length_map]; omega), rs ++ [r], by rw [List.length_append, hl]; rfl, fun x hx => ?_, but_mut b1 hD, by rw [upd_same, List.map_append]; rfl, ?_⟩
  · rcases List.mem_append.mp hx with hx | hx
    · exact hr x hx
    · rw [List.mem_singleton.mp hx]
      exact ⟨r0, r1⟩
  · obtain ⟨ds, h1, h2⟩ := k
    exact ⟨ds, h1, by rw [upd_ne (Ne.symm ne)]; exact h2⟩
def dkv : List (Key × V) := mergeK [] [(.inr "not", .int 1), (.inr "mux", .int 3)]
theorem word_drawn {r : Int} (r0 : 0 ≤ r) (r1 : r < 7) : ∃ (wd : Str) (sz : Nat), atI [V.str "and", V.str "or", V.str "xor", V.str "not", V.str "mux", V.str "and", V.str "xor"] r = some (.str wd) ∧ (wd, sz + 1) ∈ sizes ∧ 0 < sz ∧ sz ≤ 3 ∧ (valV dkv (.inr wd)).getD (.int 2) = .int (sz : Int) := by
  have h : r = 0 ∨ r = 1 ∨ r = 2 ∨ r = 3 ∨ r = 4 ∨ r = 5 ∨ r = 6 := by omega
  rcases h with rfl | rfl | rfl | rfl | rfl | rfl | rfl
  · exact ⟨"and", 2, rfl, by decide +kernel, by decide, by decide, by rfl⟩
  · exact ⟨"or", 2, rfl, by decide +kernel, by decide, by decide, by rfl⟩
  · exact ⟨"xor", 2, rfl, by decide +kernel, by decide, by decide, by rfl⟩
  · exact ⟨"not", 1, rfl, by decide +kernel, by decide, by decide, by rfl⟩
  · exact ⟨"mux", 3, rfl, by decide +kernel, by decide, by decide, by rfl⟩
  · exact ⟨"and", 2, rfl, by decide +kernel, by decide, by decide, by rfl⟩
  · exact ⟨"xor", 2, rfl, by decide +kernel, by decide, by decide, by rfl⟩
theorem okG_drawn {m : Int} {wd : Str} {sz : Nat} {rs : List Int} (h : (wd, sz + 1) ∈ sizes) (hl : rs.length = sz) (hr : ∀ r ∈ rs, 0 ≤ r ∧ r < m) : okG m (wd, rs) = true := by
  unfold okG
  rw [show (wd, rs).2.length = sz from hl, decide_eq_true h, Bool.true_and, List.all_eq_true]
  intro x hx
  unfold inR
  rw [decide_eq_true (hr x hx).1, decide_eq_true (hr x hx).2]
  rfl
theorem noLs_gates (gs : List Gate) : noLs (gs.map gateD) = true := noLs_map fun g _ => by
  unfold gateD noL noLs
  exact noLs_map fun _ _ => rfl
section
variable {P : Program} {w : World} {K : PySem.W.Frag} {mg : Str → Option Value} {base : Heap}
/-! ### _law_net -/
def spNet (K : PySem.W.Frag) : Sp := fun vs H Q _ => ∃ (dk : Addr) (ni nf ng no : Nat), vs = [.ref dk, .int ni, .int nf, .int ng, .int no] ∧ ni ≤ 10 ∧ nf ≤ 10 ∧ ng ≤ 20 ∧ no ≤ 10 ∧ Deck H dk ∧
  ∀ (v : V) (n : Net) (H' : Hp), But dk H H' → Deck H' dk → Dp K (del1 H' dk) v (netD n) → okNet n = true → n.inp = ni → n.firsts.length = nf → n.gates.length = ng → n.outs.length = no →
    (∃ t af an ag ao : Addr, v = .ref t ∧ del1 H' dk t = some (.tup [.int n.inp, .ref af, .ref an, .ref ag, .ref ao]) ∧ del1 H' dk ao = some (.lst (n.outs.map V.int))) → Q v H'
theorem ok_net {f : Addr} {fd : FuncData} (F : Fun K "_law_net" "_law_net" s__law_net f fd) (T : Txt K mg) (c__law_take : Cal P w K mg base 1 "_law_take" spTake []) : FnOk P w K mg base CX0 2 f fd ["deck", "inputs", "flops", "gates", "outputs"] (spNet K) := by
  refine F.ok sc__law_net (fun vs H Q E h => ?_) (fun cdv A outer s H vs Q E hr h => ?_)
  · obtain ⟨dk, ni, nf, ng, no, rfl, _⟩ := h
    rfl
  · obtain ⟨dk, ni, nf, ng, no, rfl, hi, hf, hg, ho, hk, k⟩ := h
    have hu := hu_of hr
    refine ⟨_, (pss_cons (ps_set (i := 5) sc__law_net.nd rfl (Or.inr rfl) (pe_op op_add (pe_op op_add pe_int (pv 1)) (pv 2)))
      (pss_cons (ps_set (i := 6) sc__law_net.nd rfl (Or.inl rfl) (pe_lst pa_nil))
      (pss_cons (ps_for PassesOwn.never rfl (pi_range1 (by rfl) T.b_range (pa_cons (pv 3) pa_nil)) (pg_name (i := 7) sc__law_net.nd rfl (Or.inr rfl)) (pss_cons (ps_set (i := 8) sc__law_net.nd rfl (Or.inl rfl) (pe_ix ix_list (pe_lst (pa_cons pe_str (pa_cons pe_str (pa_cons pe_str (pa_cons pe_str (pa_cons pe_str (pa_cons pe_str (pa_cons pe_str pa_nil)))))))) (pe_c c__law_take hr (by omega) rfl (pa_cons (pv 0) (pa_cons pe_int pa_nil))) (fun _ _ => rfl)))
      (pss_cons (ps_set (i := 9) sc__law_net.nd rfl (Or.inl rfl) (pe_dget2 hu (pe_disp (pps_cons pe_str pe_int (pps_cons pe_str pe_int pps_nil)) (by rfl) (by rfl) (fun z => by cases z) (by decide)) (pv 8) pe_int ⟨rfl, rfl, rfl, rfl⟩))
      (pss_cons (ps_setLc (i := 10) (own := [("at", 13)]) rfl sc__law_net.nd rfl rfl (sw_true rfl rfl rfl (by decide +kernel)) (pi_range1 (by rfl) T.b_range (pa_cons (pv 9) pa_nil)) (blkOk_by (own := [("at", 13)]) (N := ["deck", "inputs", "flops", "gates", "outputs", "many", "made", "turn", "kind", "size", "near", "total", "ends", "at"]) (sc := defScope s__law_net) (by decide +kernel)) (fun _ _ _ _ _ => (pg_name (i := 13) sc__law_net.nd rfl (Or.inl rfl))) (fun _ _ _ _ _ => pts_nil) (fun _ _ _ _ _ => (pe_c c__law_take hr (by omega) rfl (pa_cons (pv 0) (pa_cons (pe_op op_add (pv 5) (pv 7)) pa_nil)))))
      (pss_cut (ps_if (PW.pt (pw_and (pt_cmpR op_eq (pe_c c__law_take hr (by omega) rfl (pa_cons (pv 0) (pa_cons pe_int pa_nil))) pe_int (nomark _)) (pw_and1 (pt_cmpR op_gt (pv 7) pe_int (nomark _))))) (pss_one (ps_asg (pe_op op_sub (pe_op op_add (pv 5) (pv 7)) pe_int) (pg_sub (pv 10) pe_int set_list))) pss_nil)
      (pss_one (ps_expr (pe_bm PySem.F.plainAttrs_list PySem.F.slot_list_append PySem.F.type_list_append mt_append (pv 6) (pa_cons (pe_op op_catA (pe_tup (pa_cons (pv 8) pa_nil)) (pe_callTy call_tuple_of (by rfl) T.b_tuple boot_tuple' (pa_cons (pv 10) pa_nil))) pa_nil)))))))))
      (pss_cons (ps_set (i := 11) sc__law_net.nd rfl (Or.inr rfl) (pe_op op_add (pv 5) (pv 3)))
      (pss_cons (ps_setLc (i := 12) (own := [("turn", 7)]) rfl sc__law_net.nd rfl rfl (sw_true rfl rfl rfl (by decide +kernel)) (pi_range1 (by rfl) T.b_range (pa_cons (pe_op op_add (pv 2) (pv 4)) pa_nil)) (blkOk_by (own := [("turn", 7)]) (N := ["deck", "inputs", "flops", "gates", "outputs", "many", "made", "turn", "kind", "size", "near", "total", "ends", "at"]) (sc := defScope s__law_net) (by decide +kernel)) (fun _ _ _ _ _ => (pg_name (i := 7) sc__law_net.nd rfl (Or.inl rfl))) (fun _ _ _ _ _ => pts_nil) (fun _ _ _ _ _ => (pe_ifExp (pt_cmpR op_gt (pe_c c__law_take hr (by omega) rfl (pa_cons (pv 0) (pa_cons pe_int pa_nil))) pe_int (nomark _)) (pe_callB (call_max2 rfl) (by rfl) T.b_max boot_max' (pa_cons pe_int (pa_cons (pe_op op_sub (pe_op op_sub (pv 11) pe_int) (pe_c c__law_take hr (by omega) rfl (pa_cons (pv 0) (pa_cons pe_int pa_nil)))) pa_nil))) (pe_c c__law_take hr (by omega) rfl (pa_cons (pv 0) (pa_cons (pv 11) pa_nil))))))
      (pss_one (ps_ret (pe_tup (pa_cons (pv 1) (pa_cons (pe_lc (own := [("turn", 7)]) rfl sc__law_net.nd (pi_range1 (by rfl) T.b_range (pa_cons (pv 2) pa_nil)) (blkOk_by (own := [("turn", 7)]) (N := ["deck", "inputs", "flops", "gates", "outputs", "many", "made", "turn", "kind", "size", "near", "total", "ends", "at"]) (sc := defScope s__law_net) (by decide +kernel)) (fun _ _ _ _ _ => (pg_name (i := 7) sc__law_net.nd rfl (Or.inl rfl))) (fun _ _ _ _ _ => pts_nil) (fun _ _ _ _ _ => (pe_c c__law_take hr (by omega) rfl (pa_cons (pv 0) (pa_cons pe_int pa_nil))))) (pa_cons (pe_slice sl_list (pv 12) po_none (po_some (pv 2))) (pa_cons (pv 6) (pa_cons (pe_slice sl_list (pv 12) (po_some (pv 2)) po_none) pa_nil))))))))))))), ?_⟩
    refine ⟨_, rfl, _, _, rfl, rfl, _, rfl, _, _, rfl, rfl, ?_⟩
    generalize hW : (1 : Int) + (ni : Int) + (nf : Int) = W
    change gName 5 (.int (1 + (ni : Int) + (nf : Int))) _ _ _
    rw [hW]
    have wpos : 0 < W := by omega
    refine ⟨Nat.zero_le _, fun pg mg => ?_⟩
    have t1 := same_new (o := HO.lst []) mg
    refine ⟨_, rfl, ng, rfl, by omega, by omega, ?_⟩
    refine for_range (lo := 0) (n := ((ng : Nat) : Int).toNat) (fun i σ H' => ∃ (gs : List Gate) (xs : List V) (o7 o8 o9 o10 : Option V), σ = [some (.ref dk), some (.int ni), some (.int nf), some (.int ng), some (.int no), some (.int W), some (.ref pg), o7, o8, o9, o10, none, none, none] ∧
      gs.length = i ∧ But dk H H' ∧ Deck H' dk ∧ H' pg = some (.lst xs) ∧ DpAll K H' xs (gs.map gateD) ∧ okGs W gs = true) ⟨[], [], none, none, none, none, rfl, rfl, But.of t1, hk.same t1, upd_same, .nil, rfl⟩ ?_ ?_
    · rintro i σ H' hi' ⟨gs, xs, o7, o8, o9, o10, rfl, hgl, bi, ki, hpi, hxi, oki⟩
      refine ⟨(show 7 ≤ sizeLine by decide), fun q nq => ?_⟩
      have u1 := same_new (o := HO.lst [V.str "and", V.str "or", V.str "xor", V.str "not", V.str "mux", V.str "and", V.str "xor"]) nq
      refine ⟨_, rfl, dk, 7, rfl, by decide, ki.same u1, fun r H6 r0 r1 b6 k6 => ?_⟩
      obtain ⟨wd, sz, e1, e2, e3, e4, e5⟩ := word_drawn r0 r1
      have hq6 := b6 q _ (Deck.ne ki nq) upd_same
      refine ⟨q, _, r, _, rfl, rfl, SqL.of hq6, e1, ?_⟩
      have K6 : KeepT H' H6 := (KeepT.of_same u1).trans (KeepT.of_but (ki.same u1) b6)
      have npk : pg ≠ dk := Deck.ne hk mg
      have hp6 : H6 pg = some (.lst xs) := b6 _ _ npk (u1 _ _ hpi)
      have b6' : But dk H H6 := (bi.trans (But.of u1)).trans b6
      refine fun pd nd => ⟨upd_same, [(.inr "not", .int 1), (.inr "mux", .int 3)], rfl, by decide, ?_⟩
      rw [upd_upd]
      refine ⟨pd, rfl, .inl ⟨_, .inl upd_same⟩, _, rfl, _, .inl ⟨_, .inr wd, .inl upd_same, rfl, rfl⟩, ?_⟩
      have u2 := same_new (o := HO.dK dkv) nd
      change gName 9 ((valV dkv (.inr wd)).getD (.int 2)) _ (upd H6 pd (.dK dkv)) _
      rw [e5]
      have k7 := k6.same u2
      have K7 := K6.trans (KeepT.of_same u2)
      have hp7 := u2 _ _ hp6
      have b7 : But dk H (upd H6 pd (.dK dkv)) := b6'.trans (But.of u2)
      generalize upd H6 pd (.dK dkv) = H7 at k7 K7 hp7 b7
      -- near
      refine ⟨_, rfl, sz, rfl, by omega, by omega, fun D hD => ?_⟩
      have wpos2 : 0 < W + (0 + (i : Int)) := by omega
      refine lc_range (lo := 0) (n := (sz : Int).toNat) (DrawP dk D H7 (W + (0 + (i : Int)))) (draw0 hD k7) (fun j G hj p => ⟨rfl, _, rfl, _, rfl, _, rfl, _, _, rfl, rfl, draw_next (E := C8.E0) hD k7 wpos2 (by omega) p⟩) ?_
      rintro G ⟨rs, hrl, hrr, bG, hGD, kG⟩
      have hpG := bG _ _ npk hp7
      have hrl2 : rs.length = sz := by rw [hrl]; exact Int.toNat_natCast sz
      have KG := K7.trans (KeepT.of_but k7 bG)
      have bHG := b7.trans bG
      have nDk : D ≠ dk := Deck.ne k7 hD
      have nDp : D ≠ pg := Ne.symm (ne_of_none hp7 hD)
      have D0 : H D = none := none_of_but k7 b7 hD
      refine ⟨fun σ' H2 => ∃ rs' : List Int, σ' = [some (.ref dk), some (.int ni), some (.int nf), some (.int ng), some (.int no), some (.int W), some (.ref pg), some (.int (0 + (i : Int))), some (.str wd), some (.int sz), some (.ref D), none, none, none] ∧
        rs'.length = sz ∧ (∀ r ∈ rs', 0 ≤ r ∧ r < W + (0 + (i : Int))) ∧ But dk H H2 ∧ KeepT H' H2 ∧ Deck H2 dk ∧ H2 D = some (.lst (rs'.map V.int)) ∧ H2 pg = some (.lst xs), ?_, ?_⟩
      · refine ⟨_, rfl, dk, 2, rfl, by decide, kG, fun r2 H8 c0 c1 b8 k8 => ⟨rfl, _, rfl, ?_⟩⟩
        have hD8 := b8 _ _ nDk hGD
        have hp8 := b8 _ _ npk hpG
        have K8 := KG.trans (KeepT.of_but kG b8)
        have skip : ∃ rs' : List Int, [some (V.ref dk), some (.int ni), some (.int nf), some (.int ng), some (.int no), some (.int W), some (.ref pg), some (.int (0 + (i : Int))), some (.str wd), some (.int sz), some (.ref D), none, none, none] = [some (V.ref dk), some (.int ni), some (.int nf), some (.int ng), some (.int no), some (.int W), some (.ref pg), some (.int (0 + (i : Int))), some (.str wd), some (.int sz), some (.ref D), none, none, none] ∧
          rs'.length = sz ∧ (∀ r ∈ rs', 0 ≤ r ∧ r < W + (0 + (i : Int))) ∧ But dk H H8 ∧ KeepT H' H8 ∧ Deck H8 dk ∧ H8 D = some (.lst (rs'.map V.int)) ∧ H8 pg = some (.lst xs) := ⟨rs, rfl, hrl2, hrr, bHG.trans b8, K8, k8, hD8, hp8⟩
        refine ite2 (fun _ => ?_) (fun _ => ?_)
        · refine ⟨_, rfl, _, _, rfl, rfl, _, rfl, ?_⟩
          refine ite2 (fun ht => ?_) (fun _ => skip)
          have ht : 0 < 0 + (i : Int) := of_decide_eq_true ht
          refine ⟨_, rfl, _, rfl, _, _, rfl, rfl, _, _, rfl, rfl, _, rfl, D, _, 0, 0, rfl, rfl, hD8, ?_, ?_⟩
          · rw [List.length_map, hrl2]
            exact ixN_at (i := 0) (by omega)
          · refine ⟨rs.set 0 (W + (0 + (i : Int)) - 1), rfl, by rw [List.length_set]; exact hrl2, fun x hx => ?_, but_mut (bHG.trans b8) D0, K8.upd hD8, ?_, by rw [upd_same, List.map_set], by rw [upd_ne (Ne.symm nDp)]; exact hp8⟩
            · rcases List.mem_or_eq_of_mem_set hx with hx | rfl
              · exact hrr x hx
              · omega
            · obtain ⟨ds, d1, d2⟩ := k8
              exact ⟨ds, d1, by rw [upd_ne (Ne.symm nDk)]; exact d2⟩
        · exact skip
      · rintro σ' H2 ⟨rs', rfl, hrl', hrr', b2, K2, k2, hD2, hp2⟩
        refine ⟨_, rfl, .inl ⟨rfl, _, SqL.of hp2⟩, _, rfl, (show 1 ≤ sizeLine by decide), fun pt nt => ?_⟩
        have u3 := same_new (o := HO.tup [V.str wd]) nt
        refine ⟨_, rfl, D, _, rfl, .inl ⟨SqL.of (u3 _ _ hD2), fun ta nta => ?_⟩⟩
        have u4 := same_new (o := HO.tup (rs'.map V.int)) nta
        refine catD (ds := [.str wd]) (es := intsD rs') (.tup (SqT.of (u4 _ _ upd_same)) (.cons (.str _) .nil)) (.tup (SqT.of upd_same) (dps_ints rs')) (by rw [intsD, List.length_map]; simp only [List.length_singleton]; omega) fun z H9 s9 dz => ?_
        have s29 := (u3.trans u4).trans s9
        have hp9 := s29 _ _ hp2
        refine ⟨_, _, _, rfl, rfl, hp9, size_lt (by rw [dps_len hxi, List.length_map, hgl]; omega), ?_⟩
        have K9 : KeepT H9 (upd H9 pg (.lst (xs ++ [z]))) := KeepT.upd (KeepT.of_same (Same.refl _)) hp9
        have hgate : okG (W + (gs.length : Int)) (wd, rs') = true := okG_drawn e2 hrl' (by rw [hgl]; intro r hr; have := hrr' r hr; omega)
        refine ⟨gs ++ [(wd, rs')], xs ++ [z], _, _, _, _, rfl, by rw [List.length_append, hgl]; rfl, but_mut (b2.trans (But.of s29)) (none_of_but hk (But.refl _ _) mg), ?_, upd_same, ?_, by rw [okGs_snoc, oki, hgate]; rfl⟩
        · obtain ⟨ds, d1, d2⟩ := k2.same s29
          exact ⟨ds, d1, by rw [upd_ne (Ne.symm npk)]; exact d2⟩
        · rw [List.map_append]
          exact dps_snoc (dps_keep ((K2.trans (KeepT.of_same s29)).trans K9) (noLs_gates gs) hxi) (dp_keep K9 (by have := noLs_gates [(wd, rs')]; simpa [noLs] using this) dz)
    · rintro σ H' ⟨gs, xs, o7, o8, o9, o10, rfl, hgl, bi, ki, hpi, hxi, oki⟩
      have npk : pg ≠ dk := Deck.ne hk mg
      have gng : gs.length = ng := by rw [hgl]; exact Int.toNat_natCast ng
      refine ⟨_, rfl, _, rfl, _, _, rfl, rfl, ?_⟩
      refine ⟨_, rfl, _, rfl, _, _, rfl, rfl, _, rfl, by omega, by omega, fun D hD => ?_⟩
      have nDk : D ≠ dk := Deck.ne ki hD
      refine lc_range (lo := 0) (n := ((nf : Int) + (no : Int)).toNat) (DrawP dk D H' (W + (ng : Int))) (draw0 hD ki) (fun j G hj p => ?_) ?_
      · obtain ⟨_, _, _, _, _, kG⟩ := id p
        refine ⟨rfl, _, rfl, dk, 3, rfl, by decide, kG, fun r G2 r0 r1 b2 k2 => ⟨_, _, rfl, rfl, _, rfl, ?_⟩⟩
        have p2 := draw_keep hD ki p b2 k2
        refine ite2 (fun _ => ?_) (fun _ => ?_)
        · refine ⟨_, rfl, _, _, rfl, rfl, _, rfl, dk, 4, rfl, by decide, k2, fun r3 G3 c0 c1 b3 k3 => ⟨_, _, rfl, rfl, _, _, rfl, ?_⟩⟩
          refine draw_put hD ki (draw_keep hD ki p2 b3 k3) (by split <;> omega) (by split <;> omega) (by omega)
        · exact ⟨_, rfl, _, rfl, draw_next (E := C8.E0) hD ki (by omega) (by omega) p2⟩
      rintro G ⟨es, hel, her, bG, hGD, kG⟩
      have hpG := bG _ _ npk hpi
      have KG : KeepT H' G := KeepT.of_but ki bG
      refine ⟨_, rfl, _, rfl, nf, rfl, by omega, by omega, fun D2 hD2 => ?_⟩
      have nD2k : D2 ≠ dk := Deck.ne kG hD2
      refine lc_range (lo := 0) (n := ((nf : Nat) : Int).toNat) (DrawP dk D2 G 2) (draw0 hD2 kG) (fun j G2 hj p => ⟨rfl, _, rfl, draw_next (E := C8.E0) hD2 kG (by decide) (by omega) p⟩) ?_
      rintro G2 ⟨fs, hfl, hfr, bG2, hGD2, kG2⟩
      have hD1 := bG2 _ _ nDk hGD
      have hp2 := bG2 _ _ npk hpG
      have K2 := KG.trans (KeepT.of_but kG bG2)
      refine ⟨_, rfl, _, rfl, _, rfl, D, _, rfl, SqL.of hD1, fun q1 n1 => ?_⟩
      have v1 := same_new (o := HO.lst (cutV (es.map V.int) none (some (nf : Int)))) n1
      refine ⟨_, rfl, _, rfl, _, rfl, _, rfl, D, _, rfl, SqL.of (v1 _ _ hD1), fun q2 n2 => ⟨(show 5 ≤ sizeLine by decide), fun t nt => ?_⟩⟩
      have v2 := same_new (o := HO.lst (cutV (es.map V.int) (some (nf : Int)) none)) n2
      have v3 := same_new (o := HO.tup [V.int ni, V.ref D2, V.ref q1, V.ref pg, V.ref q2]) nt
      have hel2 : es.length = nf + no := by rw [hel]; omega
      have hfl2 : fs.length = nf := by rw [hfl]; omega
      have c1 : cutV (es.map V.int) none (some (nf : Int)) = (es.take nf).map V.int := by rw [cut_to (by rw [List.length_map]; omega), List.map_take]
      have c2 : cutV (es.map V.int) (some (nf : Int)) none = (es.drop nf).map V.int := by rw [cut_from (by rw [List.length_map]; omega), List.map_drop]
      have hq1 := (v2.trans v3) _ _ (upd_same (H := G2) (a := q1) (o := HO.lst (cutV (es.map V.int) none (some (nf : Int)))))
      have hq2 := v3 _ _ (upd_same (H := upd G2 q1 (.lst (cutV (es.map V.int) none (some (nf : Int))))) (a := q2) (o := HO.lst (cutV (es.map V.int) (some (nf : Int)) none)))
      have v123 := (v1.trans v2).trans v3
      have kE := kG2.same v123
      have KE := K2.trans (KeepT.of_same v123)
      have ht := upd_same (H := upd (upd G2 q1 (.lst (cutV (es.map V.int) none (some (nf : Int))))) q2 (.lst (cutV (es.map V.int) (some (nf : Int)) none))) (a := t) (o := HO.tup [V.int ni, V.ref D2, V.ref q1, V.ref pg, V.ref q2])
      have hpE := v123 _ _ hp2
      have hDE := v123 _ _ hGD2
      have nq1 : q1 ≠ dk := Deck.ne kG2 n1
      have nq2 : q2 ≠ dk := Deck.ne (kG2.same v1) n2
      have ntk : t ≠ dk := Deck.ne ((kG2.same v1).same v2) nt
      have bE : But dk H (upd (upd (upd G2 q1 (.lst (cutV (es.map V.int) none (some (nf : Int))))) q2 (.lst (cutV (es.map V.int) (some (nf : Int)) none))) t (.tup [V.int ni, V.ref D2, V.ref q1, V.ref pg, V.ref q2])) := ((bi.trans bG).trans bG2).trans (But.of v123)
      generalize upd (upd (upd G2 q1 (.lst (cutV (es.map V.int) none (some (nf : Int))))) q2 (.lst (cutV (es.map V.int) (some (nf : Int)) none))) t (.tup [V.int ni, V.ref D2, V.ref q1, V.ref pg, V.ref q2]) = HE at hq1 hq2 kE KE ht hpE hDE bE
      rw [c1] at hq1
      rw [c2] at hq2
      obtain ⟨dks, dk1, dk2⟩ := id kE
      refine k _ ⟨ni, fs, es.take nf, gs, es.drop nf⟩ HE bE kE (.tup (SqT.of (by rw [del1_ne ntk]; exact ht)) (.cons (.int _) (.cons (.lst (SqL.of (by rw [del1_ne nD2k]; exact hDE)) (dps_ints _)) (.cons (.lst (SqL.of (by rw [del1_ne nq1]; exact hq1)) (dps_ints _))
        (.cons (.lst (SqL.of (by rw [del1_ne npk]; exact hpE)) (dps_keep (KE.trans (KeepT.del dk2)) (noLs_gates gs) hxi)) (.cons (.lst (SqL.of (by rw [del1_ne nq2]; exact hq2)) (dps_ints _)) .nil)))))) ?_ rfl hfl2 gng (by show (es.drop nf).length = no; rw [List.length_drop]; omega) ⟨t, D2, q1, pg, q2, rfl, by rw [del1_ne ntk]; exact ht, by rw [del1_ne nq2]; exact hq2⟩
      have hw : w0 ⟨ni, fs, es.take nf, gs, es.drop nf⟩ = W := by
        show (1 : Int) + (ni : Int) + ((fs.length : Nat) : Int) = W
        rw [hfl2]
        exact hW
      unfold okNet
      rw [hw]
      simp only [Bool.and_eq_true, decide_eq_true_eq, List.all_eq_true]
      refine ⟨⟨⟨⟨by omega, oki⟩, by rw [List.length_take]; omega⟩, fun x hx => ?_⟩, fun x hx => ?_⟩
      · have := hfr x hx
        exact ⟨this.1, by omega⟩
      · rw [List.take_append_drop] at hx
        have := her x hx
        unfold inR
        rw [Bool.and_eq_true, decide_eq_true_eq, decide_eq_true_eq, gng]
        exact this
end
end Q41



set_option pp.maxSteps 1500
namespace Q41
open PySem L2 G M03 M41
open C8 (Cal Met Mak pe_c pe_mk pe_mt pe_mt0 pe_gc pss_cut tCut)
theorem bit_and_ {a b : Int} (ha : Bit a) (hb : Bit b) : Builtin.bitAnd a b = a * b := by
  rcases ha with rfl | rfl <;> rcases hb with rfl | rfl <;> decide +kernel
theorem bit_xor_ {a b : Int} (ha : Bit a) (hb : Bit b) : Builtin.bitXor a b = if a = b then 0 else 1 := by
  rcases ha with rfl | rfl <;> rcases hb with rfl | rfl <;> decide +kernel
theorem bit_or_ {a b : Int} (ha : Bit a) (hb : Bit b) : Builtin.bitOr a b = if b > a then b else a := by
  rcases ha with rfl | rfl <;> rcases hb with rfl | rfl <;> decide +kernel
section
variable {P : Program} {w : World} {K : PySem.W.Frag} {mg : Str → Option Value} {base : Heap}
/-! ### _law_wires -/
def spLWires (K : PySem.W.Frag) : Sp := fun vs H Q _ => ∃ (v vi vf : V) (n : Net) (fl ins : List Int), vs = [v, vi, vf] ∧ Dp K H v (netD n) ∧ Dp K H vi (clD ins) ∧ Dp K H vf (clD fl) ∧ Small n ∧ Row n fl ins ∧
  ∀ (p : Addr) (H' : Hp), Same H H' → H p = none → H' p = some (.lst ((wv n fl ins).map V.int)) → Q (.ref p) H'
theorem ok_lwires {f : Addr} {fd : FuncData} (F : Fun K "_law_wires" "_law_wires" s__law_wires f fd) (T : Txt K mg) : FnOk P w K mg base CX0 1 f fd ["net", "inputs", "states"] (spLWires K) := by
  refine F.ok sc__law_wires (fun vs H Q E h => ?_) (fun cdv A outer s H vs Q E hr h => ?_)
  · obtain ⟨v, vi, vf, n, fl, ins, rfl, _⟩ := h
    rfl
  · obtain ⟨v, vi, vf, n, fl, ins, rfl, hv, hi, hf, hs, R, k⟩ := h
    obtain ⟨a, _, _, ag, _, xg, rfl, ha, _, _, hG, hGs, _⟩ := net_dp hv
    obtain ⟨ai, xi, rfl, hi, hxi⟩ := dp_tup hi
    obtain ⟨al, xl, rfl, hf, hxl⟩ := dp_tup hf
    cases dps_ints_of hxi
    cases dps_ints_of hxl
    have li := R.li
    have lf := R.lf
    have gl : xg.length = n.gates.length := by rw [dps_len hGs, List.length_map]
    obtain ⟨s0, s1', s2', _, s4', _⟩ := id hs
    refine ⟨_, (pss_cons (ps_set (i := 3) sc__law_wires.nd rfl (Or.inr rfl) (pe_op op_cat (pe_op op_cat (pe_lst (pa_cons pe_int pa_nil)) (pe_callTy call_list_of (by rfl) T.b_list boot_list' (pa_cons (pv 1) pa_nil))) (pe_callTy call_list_of (by rfl) T.b_list boot_list' (pa_cons (pv 2) pa_nil))))
      (pss_cons (ps_for PassesOwn.never rfl (pi_list (pe_ix ix_tup (pv 0) pe_int (fun _ _ => rfl))) (pg_name (i := 4) sc__law_wires.nd rfl (Or.inl rfl)) (pss_cons (ps_set (i := 5) sc__law_wires.nd rfl (Or.inl rfl) (pe_ix ix_tup (pv 4) pe_int (fun _ _ => rfl)))
      (pss_cons (ps_setLc (i := 6) (own := [("wire", 7)]) rfl sc__law_wires.nd rfl rfl (sw_true rfl rfl rfl (by decide +kernel)) (pi_tup (pe_slice sl_tupA (pv 4) (po_some pe_int) po_none)) (blkOk_by (own := [("wire", 7)]) (N := ["net", "inputs", "states", "values", "gate", "kind", "near", "wire"]) (sc := defScope s__law_wires) (by decide +kernel)) (fun _ _ _ _ _ => (pg_name (i := 7) sc__law_wires.nd rfl (Or.inl rfl))) (fun _ _ _ _ _ => pts_nil) (fun _ _ _ _ _ => (pe_ix (ix_listK (K := K) rfl) (pv 3) (pv 7) (fun _ _ => rfl))))
      (pss_one (ps_if (pt_cmpR op_eq (pv 5) pe_str (nomark _)) (pss_one (ps_expr (pe_bm PySem.F.plainAttrs_list PySem.F.slot_list_append PySem.F.type_list_append mt_append (pv 3) (pa_cons (pe_op op_sub pe_int (pe_ix ix_list (pv 6) pe_int (fun _ _ => rfl))) pa_nil)))) (pss_one (ps_if (pt_cmpR op_eq (pv 5) pe_str (nomark _)) (pss_one (ps_expr (pe_bm PySem.F.plainAttrs_list PySem.F.slot_list_append PySem.F.type_list_append mt_append (pv 3) (pa_cons (pe_ifExp (pt_cmpR op_eq (pe_ix ix_list (pv 6) pe_int (fun _ _ => rfl)) pe_int (nomark _)) (pe_ix ix_list (pv 6) pe_int (fun _ _ => rfl)) (pe_ix ix_list (pv 6) pe_int (fun _ _ => rfl))) pa_nil)))) (pss_one (ps_if (pt_cmpR op_eq (pv 5) pe_str (nomark _)) (pss_one (ps_expr (pe_bm PySem.F.plainAttrs_list PySem.F.slot_list_append PySem.F.type_list_append mt_append (pv 3) (pa_cons (pe_op op_xor (pe_ix ix_list (pv 6) pe_int (fun _ _ => rfl)) (pe_ix ix_list (pv 6) pe_int (fun _ _ => rfl))) pa_nil)))) (pss_one (ps_expr (pe_bm PySem.F.plainAttrs_list PySem.F.slot_list_append PySem.F.type_list_append mt_append (pv 3) (pa_cons (pe_ifExp (pt_cmpR op_eq (pv 5) pe_str (nomark _)) (pe_op op_and (pe_ix ix_list (pv 6) pe_int (fun _ _ => rfl)) (pe_ix ix_list (pv 6) pe_int (fun _ _ => rfl))) (pe_op op_or (pe_ix ix_list (pv 6) pe_int (fun _ _ => rfl)) (pe_ix ix_list (pv 6) pe_int (fun _ _ => rfl)))) pa_nil)))))))))))))
      (pss_one (ps_ret (pv 3))))), ?_⟩
    refine ⟨(show 1 ≤ sizeLine by decide), fun p1 m1 => ?_⟩
    have t1 := same_new (o := HO.lst [V.int 0]) m1
    refine ⟨_, rfl, ai, _, rfl, .inr (Same.tup t1 hi), fun p2 m2 => ?_⟩
    have t2 := same_new (o := HO.lst (ins.map V.int)) m2
    refine ⟨p1, p2, _, _, rfl, rfl, t2 _ _ upd_same, upd_same, size_of (by rw [List.length_map]; simp only [List.length_singleton]; omega), fun p3 m3 => ?_⟩
    have t3 := same_new (o := HO.lst ([V.int 0] ++ ins.map V.int)) m3
    have t123 := (t1.trans t2).trans t3
    refine ⟨_, rfl, al, _, rfl, .inr (Same.tup t123 hf), fun p4 m4 => ?_⟩
    have t4 := same_new (o := HO.lst (fl.map V.int)) m4
    refine ⟨p3, p4, _, _, rfl, rfl, t4 _ _ upd_same, upd_same, size_of (by rw [List.length_append, List.length_map, List.length_map]; simp only [List.length_singleton]; omega), fun p5 m5 => ?_⟩
    have t1234 := t123.trans t4
    have e5 : [V.int 0] ++ ins.map V.int ++ fl.map V.int = (0 :: (ins ++ fl)).map V.int := by simp
    rw [e5]
    have n5 : H p5 = none := none_of_same t1234 m5
    have s5 : Same H (upd (upd (upd (upd (upd H p1 (.lst [V.int 0])) p2 (.lst (ins.map V.int))) p3 (.lst ([V.int 0] ++ ins.map V.int))) p4 (.lst (fl.map V.int))) p5 (.lst ((0 :: (ins ++ fl)).map V.int))) := t1234.trans (same_new m5)
    have h5 := upd_same (H := upd (upd (upd (upd H p1 (.lst [V.int 0])) p2 (.lst (ins.map V.int))) p3 (.lst ([V.int 0] ++ ins.map V.int))) p4 (.lst (fl.map V.int))) (a := p5) (o := .lst ((0 :: (ins ++ fl)).map V.int))
    generalize upd (upd (upd (upd (upd H p1 (.lst [V.int 0])) p2 (.lst (ins.map V.int))) p3 (.lst ([V.int 0] ++ ins.map V.int))) p4 (.lst (fl.map V.int))) p5 (.lst ((0 :: (ins ++ fl)).map V.int)) = H5 at s5 h5
    refine ⟨_, rfl, a, _, 3, _, rfl, rfl, Same.tup s5 ha, atI_nat (j := 3) rfl, ag, rfl, ⟨_, s5.seq hG⟩, ?_⟩
    refine for_list (K := K) (a := ag) (xs := xg) (fun i σ H' => ∃ (o4 o5 o6 : Option V), σ = [some (.ref a), some (.ref ai), some (.ref al), some (.ref p5), o4, o5, o6, none] ∧ Same H H' ∧ H' p5 = some (.lst ((runL (0 :: (ins ++ fl)) (n.gates.take i)).map V.int)))
      ⟨none, none, none, rfl, s5, h5⟩ ?_ ?_ ?_
    · rintro i σ H' _ ⟨_, _, _, _, Hs, _⟩
      exact Hs.seq hG
    · rintro i x σ H6 hix ⟨o4, o5, o6, rfl, Hs, h6⟩
      obtain ⟨d, hdi, dx⟩ := dps_getv hGs hix
      rw [List.getElem?_map] at hdi
      obtain ⟨gg, hgt, rfl⟩ := Option.map_eq_some_iff.mp hdi
      obtain ⟨ga, rfl, hga⟩ := gate_dp dx
      have il : i < n.gates.length := (List.getElem?_eq_some_iff.mp hgt).1
      have hlen : ((runL (0 :: (ins ++ fl)) (n.gates.take i)).length : Int) = w0 n + i := by
        have := R.len0
        rw [runL_len, List.length_take]
        omega
      have hrun := runL_snoc gg (n.gates.take i) (0 :: (ins ++ fl))
      rw [← take_snoc hgt] at hrun
      have hbits := Bits.run R.bits0 (okGs_take i (okNet_parts R.ok).2.1)
      generalize runL (0 :: (ins ++ fl)) (n.gates.take i) = cur at h6 hlen hrun hbits
      have og : okG cur.length gg = true := by rw [hlen]; exact okGs_get (okNet_parts R.ok).2.1 hgt
      have hl3 : gg.2.length ≤ 3 := by rcases okG_word og with ⟨_, h⟩ | ⟨_, h⟩ | ⟨_, h⟩ | ⟨_, h⟩ | ⟨_, h⟩ <;> omega
      have curl : cur.length ≤ 1000 := by unfold w0 at hlen; omega
      refine ⟨_, rfl, ga, _, 0, _, rfl, rfl, Same.tup Hs hga, atI_nat (j := 0) rfl, ?_⟩
      -- near
      refine ⟨_, rfl, 1, rfl, ?_⟩
      unfold tNoPart
      refine slA_new (Same.tup Hs hga) fun bb H7 s7 hb => ⟨bb, rfl, ⟨_, hb⟩, fun nr hD => ?_⟩
      rw [cut_tail] at hb
      have h7 := s7 _ _ h6
      refine lc_dataT (K := K) (a := bb) (xs := gg.2.map V.int) (ds := intsD gg.2) (fun _ => true) (gN cur) hb (dps_ints _) hD (by rw [intsD, List.length_map]; omega) ?_ ?_
      · intro v d G acc RR dm hv' sG hGD ha' _ hyes
        obtain ⟨jj, hjj, rfl⟩ := List.mem_map.mp dm
        cases dp_int hv'
        have hp : upd G nr (.lst acc) p5 = some (.lst (cur.map V.int)) := same_new hGD _ _ (sG _ _ h7)
        have hin2 : inR cur.length jj = true := by
          unfold okG at og
          simp only [Bool.and_eq_true, List.all_eq_true] at og
          exact og.2 jj hjj
        refine ⟨rfl, _, rfl, _, rfl, p5, _, _, _, rfl, rfl, SqL.of hp, nth_at hin2, acc, upd_same, ha', ?_⟩
        rw [upd_app]
        exact hyes rfl G _ (Same.refl _) hGD (.int _)
      intro G ys2 sG hGD hys
      rw [gN_map] at hys
      cases dps_ints_of hys
      have s8 : Same H (upd G nr (.lst ((gg.2.map (nth cur)).map V.int))) := ((Hs.trans s7).trans sG).trans (same_new hGD)
      have h8 := same_new (o := HO.lst ((gg.2.map (nth cur)).map V.int)) hGD _ _ (sG _ _ h7)
      have hnr : upd G nr (.lst ((gg.2.map (nth cur)).map V.int)) nr = some (.lst ((gg.2.map (nth cur)).map V.int)) := upd_same
      generalize upd G nr (.lst ((gg.2.map (nth cur)).map V.int)) = H8 at s8 h8 hnr
      have fin : ∀ z : Int, z = evL cur gg → ∃ (o4 o5 o6 : Option V), [some (V.ref a), some (.ref ai), some (.ref al), some (.ref p5), some (.ref ga), some (.str gg.1), some (.ref nr), none] = [some (V.ref a), some (.ref ai), some (.ref al), some (.ref p5), o4, o5, o6, none] ∧ Same H (upd H8 p5 (.lst (cur.map V.int ++ [V.int z]))) ∧
          upd H8 p5 (.lst (cur.map V.int ++ [V.int z])) p5 = some (.lst ((runL (0 :: (ins ++ fl)) (n.gates.take (i + 1))).map V.int)) := fun z hz => by
        refine ⟨_, _, _, rfl, same_mut s8 n5, ?_⟩
        rw [upd_same, hrun, hz, List.map_append]
        rfl
      have B := fun k => hbits.nth (side gg k)
      have sz : (cur.map V.int).length < sizeLine := size_lt (by rw [List.length_map]; omega)
      refine ⟨_, rfl, rfl, _, rfl, ?_⟩
      rcases okG_word og with ⟨e, hw⟩ | ⟨e, hw⟩ | ⟨e, hw⟩ | ⟨e, hw⟩ | ⟨e, hw⟩
      · rw [near2 hw] at hnr
        have ev : evL cur gg = nth cur (side gg 0) * nth cur (side gg 1) := by unfold evL; simp only [e, words_ne, show ("and" : Str) ≠ "mux" by decide, if_true, if_false]
        have b0 := B 0
        have b1 := B 1
        rw [ev] at fin
        generalize nth cur (side gg 0) = A at hnr b0 fin
        generalize nth cur (side gg 1) = B' at hnr b1 fin
        refine ifF (by rw [e]; decide) ?_
        refine ⟨_, rfl, rfl, _, rfl, ?_⟩
        refine ifF (by rw [e]; decide) ?_
        refine ⟨_, rfl, rfl, _, rfl, ?_⟩
        refine ifF (by rw [e]; decide) ?_
        refine ⟨_, rfl, .inl ⟨rfl, _, SqL.of h8⟩, ?_⟩
        refine ⟨_, rfl, rfl, _, rfl, ?_⟩
        refine ifT (by rw [e]; decide) ?_
        refine ⟨_, rfl, nr, _, 0, _, rfl, rfl, SqL.of hnr, atI_nat (j := 0) rfl, _, rfl, nr, _, 1, _, rfl, rfl, SqL.of hnr, atI_nat (j := 1) rfl, _, _, rfl, rfl, _, _, _, rfl, rfl, h8, sz, ?_⟩
        exact fin _ (bit_and_ b0 b1)
      · rw [near2 hw] at hnr
        have ev : evL cur gg = if nth cur (side gg 1) > nth cur (side gg 0) then nth cur (side gg 1) else nth cur (side gg 0) := by unfold evL; simp only [e, words_ne, show ("or" : Str) ≠ "mux" by decide, if_true, if_false]
        have b0 := B 0
        have b1 := B 1
        rw [ev] at fin
        generalize nth cur (side gg 0) = A at hnr b0 fin
        generalize nth cur (side gg 1) = B' at hnr b1 fin
        refine ifF (by rw [e]; decide) ?_
        refine ⟨_, rfl, rfl, _, rfl, ?_⟩
        refine ifF (by rw [e]; decide) ?_
        refine ⟨_, rfl, rfl, _, rfl, ?_⟩
        refine ifF (by rw [e]; decide) ?_
        refine ⟨_, rfl, .inl ⟨rfl, _, SqL.of h8⟩, ?_⟩
        refine ⟨_, rfl, rfl, _, rfl, ?_⟩
        refine ifF (by rw [e]; decide) ?_
        refine ⟨_, rfl, nr, _, 0, _, rfl, rfl, SqL.of hnr, atI_nat (j := 0) rfl, _, rfl, nr, _, 1, _, rfl, rfl, SqL.of hnr, atI_nat (j := 1) rfl, _, _, rfl, rfl, _, _, _, rfl, rfl, h8, sz, ?_⟩
        exact fin _ (bit_or_ b0 b1)
      · rw [near2 hw] at hnr
        have ev : evL cur gg = if nth cur (side gg 0) = nth cur (side gg 1) then 0 else 1 := by unfold evL; simp only [e, words_ne, show ("xor" : Str) ≠ "mux" by decide, if_true, if_false]
        have b0 := B 0
        have b1 := B 1
        rw [ev] at fin
        generalize nth cur (side gg 0) = A at hnr b0 fin
        generalize nth cur (side gg 1) = B' at hnr b1 fin
        refine ifF (by rw [e]; decide) ?_
        refine ⟨_, rfl, rfl, _, rfl, ?_⟩
        refine ifF (by rw [e]; decide) ?_
        refine ⟨_, rfl, rfl, _, rfl, ?_⟩
        refine ifT (by rw [e]; decide) ?_
        refine ⟨_, rfl, .inl ⟨rfl, _, SqL.of h8⟩, ?_⟩
        refine ⟨_, rfl, nr, _, 0, _, rfl, rfl, SqL.of hnr, atI_nat (j := 0) rfl, _, rfl, nr, _, 1, _, rfl, rfl, SqL.of hnr, atI_nat (j := 1) rfl, _, _, rfl, rfl, _, _, _, rfl, rfl, h8, sz, ?_⟩
        exact fin _ (bit_xor_ b0 b1)
      · rw [near1 hw] at hnr
        have ev : evL cur gg = 1 - nth cur (side gg 0) := by unfold evL; simp only [e, if_true]
        have b0 := B 0
        rw [ev] at fin
        generalize nth cur (side gg 0) = A at hnr b0 fin
        refine ifT (by rw [e]; decide) ?_
        refine ⟨_, rfl, .inl ⟨rfl, _, SqL.of h8⟩, ?_⟩
        refine ⟨_, rfl, nr, _, 0, _, rfl, rfl, SqL.of hnr, atI_nat (j := 0) rfl, _, _, rfl, rfl, _, _, _, rfl, rfl, h8, sz, ?_⟩
        exact fin _ rfl
      · rw [near3 hw] at hnr
        have ev : evL cur gg = if nth cur (side gg 0) = 1 then nth cur (side gg 1) else nth cur (side gg 2) := by unfold evL; simp only [e, words_ne, if_true, if_false]
        have b0 := B 0
        have b1 := B 1
        have b2 := B 2
        rw [ev] at fin
        generalize nth cur (side gg 0) = A at hnr b0 fin
        generalize nth cur (side gg 1) = B' at hnr b1 fin
        generalize nth cur (side gg 2) = C at hnr b2 fin
        refine ifF (by rw [e]; decide) ?_
        refine ⟨_, rfl, rfl, _, rfl, ?_⟩
        refine ifT (by rw [e]; decide) ?_
        refine ⟨_, rfl, .inl ⟨rfl, _, SqL.of h8⟩, ?_⟩
        refine ⟨_, rfl, nr, _, 0, _, rfl, rfl, SqL.of hnr, atI_nat (j := 0) rfl, rfl, _, rfl, ?_⟩
        refine ite2 (fun hz => ?_) (fun hz => ?_)
        · refine ⟨_, rfl, nr, _, 1, _, rfl, rfl, SqL.of hnr, atI_nat (j := 1) rfl, _, _, _, rfl, rfl, h8, sz, ?_⟩
          exact fin _ (by rw [if_pos (by simpa using hz)])
        · refine ⟨_, rfl, nr, _, 2, _, rfl, rfl, SqL.of hnr, atI_nat (j := 2) rfl, _, _, _, rfl, rfl, h8, sz, ?_⟩
          exact fin _ (by rw [if_neg (by simpa using hz)])
    · rintro σ H6 ⟨o4, o5, o6, rfl, Hs, h6⟩
      rw [gl, List.take_length] at h6
      exact ⟨_, rfl, k p5 H6 Hs n5 h6⟩
end
end Q41



set_option pp.maxSteps 1500
namespace Q41
open PySem L2 G M03 M41
open C8 (Cal Met Mak pe_c pe_mk pe_mt pe_mt0 pe_gc pss_cut tCut)
section
variable {P : Program} {w : World} {K : PySem.W.Frag} {mg : Str → Option Value} {base : Heap}
/-! ### _law_tuples -/
def RowB (m : Nat) (r : List Int) : Prop := r.length = m ∧ ∀ x ∈ r, Bit x
theorem RowB.snoc {m : Nat} {r : List Int} {x : Int} (h : RowB m r) (hx : Bit x) : RowB (m + 1) (r ++ [x]) := by
  refine ⟨by rw [List.length_append, h.1]; rfl, fun y hy => ?_⟩
  rcases List.mem_append.mp hy with hy | hy
  · exact h.2 y hy
  · rw [List.mem_singleton.mp hy]
    exact hx
def spTuples (K : PySem.W.Frag) : Sp := fun vs H Q _ => ∃ m : Nat, vs = [.int m] ∧ m ≤ 10 ∧ ∀ (p : Addr) (xs : List V) (rows : List (List Int)) (H' : Hp), Same H H' → H' p = some (.lst xs) → DpAll K H' xs (rows.map clD) → (∀ r ∈ rows, RowB m r) → rows.length ≤ 2000 → Q (.ref p) H'
theorem ok_tuples {f : Addr} {fd : FuncData} (F : Fun K "_law_tuples" "_law_tuples" s__law_tuples f fd) (T : Txt K mg) : FnOk P w K mg base CX0 1 f fd ["many"] (spTuples K) := by
  refine F.ok sc__law_tuples (fun vs H Q E h => ?_) (fun cdv A outer s H vs Q E hr h => ?_)
  · obtain ⟨m, rfl, _⟩ := h
    rfl
  · obtain ⟨m, rfl, hm, k⟩ := h
    refine ⟨_, (pss_cons (ps_set (i := 1) sc__law_tuples.nd rfl (Or.inl rfl) (pe_lst (pa_cons (pe_tup pa_nil) pa_nil)))
      (pss_cons (ps_for PassesOwn.never rfl (pi_range1 (by rfl) T.b_range (pa_cons (pv 0) pa_nil)) (pg_name (i := 2) sc__law_tuples.nd rfl (Or.inl rfl)) (pss_cons (ps_set (i := 3) sc__law_tuples.nd rfl (Or.inl rfl) (pe_lst pa_nil))
      (pss_cons (ps_for PassesOwn.never rfl (pi_list (pv 1)) (pg_name (i := 4) sc__law_tuples.nd rfl (Or.inl rfl)) (pss_one (ps_expr (pe_bm PySem.F.plainAttrs_list PySem.F.slot_list_extend PySem.F.type_list_extend mt_extend (pv 3) (pa_cons (pe_lst (pa_cons (pe_op op_catA (pv 4) (pe_tup (pa_cons pe_int pa_nil))) (pa_cons (pe_op op_catA (pv 4) (pe_tup (pa_cons pe_int pa_nil))) pa_nil))) pa_nil)))))
      (pss_one (ps_set (i := 1) sc__law_tuples.nd rfl (Or.inl rfl) (pv 3))))))
      (pss_one (ps_ret (pv 1))))), ?_⟩
    refine ⟨(show 0 ≤ sizeLine by decide), fun p0 n0 => ⟨(show 1 ≤ sizeLine by decide), fun p1 n1 => ?_⟩⟩
    have t0 := same_new (o := HO.tup []) n0
    have t1 := same_new (o := HO.lst [V.ref p0]) n1
    refine ⟨_, rfl, m, rfl, by omega, by omega, for_range (lo := 0) (n := ((m : Nat) : Int).toNat) (fun i σ H' => ∃ (p : Addr) (xs : List V) (rows : List (List Int)) (o2 o3 o4 : Option V), σ = [some (.int m), some (.ref p), o2, o3, o4] ∧ Same H H' ∧ H' p = some (.lst xs) ∧ DpAll K H' xs (rows.map clD) ∧ (∀ r ∈ rows, RowB i r) ∧ rows.length = 2 ^ i)
      ⟨p1, _, [[]], none, none, none, rfl, t0.trans t1, upd_same, .cons (.tup (SqT.of (t1 _ _ upd_same)) .nil) .nil, ?_, rfl⟩ ?_ ?_⟩
    · intro r hr
      rw [List.mem_singleton.mp hr]
      exact ⟨rfl, fun x hx => by cases hx⟩
    · rintro i σ H' hi ⟨p, xs, rows, o2, o3, o4, rfl, s1, hp, hxs, hrw, hrl⟩
      have i10 : i < 10 := by omega
      have r1k : rows.length ≤ 1024 := by
        rw [hrl]
        exact Nat.le_trans (Nat.pow_le_pow_right (by decide) (show i ≤ 10 by omega)) (by decide)
      have xl : xs.length = rows.length := by rw [dps_len hxs, List.length_map]
      refine ⟨Nat.zero_le _, fun pl npl => ?_⟩
      have F0 : Fnd K H' pl [] (upd H' pl (.lst [])) := ⟨[], same_new npl, upd_same, .nil⟩
      refine ⟨_, rfl, p, rfl, ⟨_, SqL.of (same_new npl _ _ hp)⟩, for_list (K := K) (a := p) (xs := xs) (fun j σ H'' => ∃ (cs : List Cl) (o4 : Option V), σ = [some (.int m), some (.ref p), some (.int (0 + (i : Int))), some (.ref pl), o4] ∧ Fnd K H' pl cs H'' ∧ (∀ c ∈ cs, RowB (i + 1) c) ∧ cs.length = 2 * j)
        ⟨[], o4, rfl, F0, (fun _ h => by cases h), rfl⟩ ?_ ?_ ?_⟩
      · rintro j σ H'' _ ⟨_, _, _, ⟨_, sF, _, _⟩, _⟩
        exact SqL.of (sF _ _ hp)
      · rintro j y σ H'' hj ⟨cs, o4', rfl, FF, hcs, hcl⟩
        obtain ⟨d, hdi, dx⟩ := dps_getv hxs hj
        rw [List.getElem?_map] at hdi
        obtain ⟨r, hr', rfl⟩ := Option.map_eq_some_iff.mp hdi
        have hrB := hrw r (List.mem_of_getElem? hr')
        have jl : j < rows.length := (List.getElem?_eq_some_iff.mp hr').1
        obtain ⟨_, sF, hpl, _⟩ := id FF
        refine ⟨_, rfl, .inl ⟨rfl, _, SqL.of hpl⟩, _, rfl, (show 1 ≤ sizeLine by decide), fun q1 m1 => ?_⟩
        have u1 := same_new (o := HO.tup [V.int 0]) m1
        refine catD (es := intsD [0]) (dp_same (sF.trans u1) dx) (.tup (SqT.of upd_same) (dps_ints [0])) (by rw [ints_len, ints_len, hrB.1]; simp only [List.length_singleton]; omega) fun z1 H2 s2 d1 => ?_
        refine ⟨_, rfl, (show 1 ≤ sizeLine by decide), fun q2 m2 => ?_⟩
        have u2 := same_new (o := HO.tup [V.int 1]) m2
        refine catD (es := intsD [1]) (dp_same (((sF.trans u1).trans s2).trans u2) dx) (.tup (SqT.of upd_same) (dps_ints [1])) (by rw [ints_len, ints_len, hrB.1]; simp only [List.length_singleton]; omega) fun z2 H3 s3 d2 => ?_
        refine ⟨(show 2 ≤ sizeLine by decide), fun q3 m3 => ?_⟩
        have u3 := same_new (o := HO.lst [z1, z2]) m3
        have e0 : PyData.tuple (intsD r ++ intsD [0]) = clD (r ++ [0]) := by unfold clD intsD; rw [List.map_append]
        have e1 : PyData.tuple (intsD r ++ intsD [1]) = clD (r ++ [1]) := by unfold clD intsD; rw [List.map_append]
        rw [e0] at d1
        rw [e1] at d2
        obtain ⟨zs, z3, z4, F9, _⟩ := Fnd.ext (ds := [r ++ [0], r ++ [1]]) npl FF ((((u1.trans s2).trans u2).trans s3).trans u3) (.cons (dp_same ((u2.trans s3).trans u3) d1) (.cons (dp_same u3 d2) .nil)) (by rw [hcl]; simp only [List.length_cons, List.length_nil]; omega)
        refine ⟨pl, q3, zs, _, rfl, rfl, z3, upd_same, z4, _, _, rfl, F9, fun c hc => ?_, by rw [List.length_append, hcl]; simp only [List.length_cons, List.length_nil]; omega⟩
        rcases List.mem_append.mp hc with hc | hc
        · exact hcs c hc
        · simp only [List.mem_cons, List.not_mem_nil, or_false] at hc
          rcases hc with rfl | rfl
          · exact hrB.snoc (.inl rfl)
          · exact hrB.snoc (.inr rfl)
      · rintro σ H'' ⟨cs, o4', rfl, ⟨ys, sF, hpl, dcs⟩, hcs, hcl⟩
        refine ⟨_, rfl, pl, ys, cs, _, _, _, rfl, s1.trans sF, hpl, dcs, hcs, ?_⟩
        rw [hcl, xl, hrl, Nat.pow_succ, Nat.mul_comm]
    · rintro σ H' ⟨p, xs, rows, o2, o3, o4, rfl, s1, hp, hxs, hrw, hrl⟩
      have em : ((m : Nat) : Int).toNat = m := Int.toNat_natCast m
      rw [em] at hrw hrl
      refine ⟨_, rfl, k p xs rows H' s1 hp hxs hrw ?_⟩
      rw [hrl]
      exact Nat.le_trans (Nat.pow_le_pow_right (by decide) hm) (by decide)
/-! ### _law_why -/
structure WhyT (K : PySem.W.Frag) (mg : Str → Option Value) (C1 C2 CG : Addr) : Prop where
  gC : mg "GateError" = some (.ref CG)
  g1 : mg "InvalidNet" = some (.ref C1)
  g2 : mg "InvalidProof" = some (.ref C2)
  m1 : PySem.W.exmOne K (.ref C1) (.ref CG) = some true
  m2 : PySem.W.exmOne K (.ref C2) (.ref CG) = some true
  e1 : ExcC K C1
  e2 : ExcC K C2
  k11 : PySem.W.kitOne K (.ref C1) (.ref C1) = some true
  k12 : PySem.W.kitOne K (.ref C1) (.ref C2) = some false
  k22 : PySem.W.kitOne K (.ref C2) (.ref C2) = some true
  x1 : XfC K C1
  x2 : XfC K C2
  n1 : PySem.W.findIn K (.ref C1) "what" = some none
  n2 : PySem.W.findIn K (.ref C2) "what" = some none
def spWhy (K : PySem.W.Frag) (C1 C2 : Addr) : Sp := fun vs H Q _ => ∃ v u x g : V, vs = [v, u, x, g] ∧ (((∀ (Q' : VK) (E' : XK), RaiseF C1 "sizes" H E' → spGiven K C1 C2 [v, u, x, g] H Q' E') ∧ ∀ (z : V) (H' : Hp), Same H H' → Dp K H' z (.tuple [.str "net", .str "sizes"]) → Q z H') ∨
  ((∀ (Q' : VK) (E' : XK), RaiseF C2 "goal" H E' → spGiven K C1 C2 [v, u, x, g] H Q' E') ∧ ∀ (z : V) (H' : Hp), Same H H' → Dp K H' z (.tuple [.str "proof", .str "goal"]) → Q z H'))
theorem ok_why {C1 C2 CG : Addr} {f : Addr} {fd : FuncData} (F : Fun K "_law_why" "_law_why" s__law_why f fd) (T : Txt K mg) (R_GateError : WhyT K mg C1 C2 CG) (c_given_clauses : CalX P w K mg base 4 "given_clauses" (spGiven K C1 C2)) : FnOk P w K mg base CX0 5 f fd ["first", "second", "pairs", "goal"] (spWhy K C1 C2) := by
  refine F.ok sc__law_why (fun vs H Q E h => ?_) (fun cdv A outer s H vs Q E hr h => ?_)
  · obtain ⟨v, u, x, g, rfl, _⟩ := h
    rfl
  · obtain ⟨v, u, x, g, rfl, h⟩ := h
    have g_InvalidNet : ∃ u, mg "InvalidNet" = some u ∧ RelV (V.ref C1) u := ⟨_, R_GateError.g1, rfl⟩
    have g_InvalidProof : ∃ u, mg "InvalidProof" = some u ∧ RelV (V.ref C2) u := ⟨_, R_GateError.g2, rfl⟩
    refine ⟨_, (pss_cons (ps_try_as (i := 4) rfl rfl sc__law_why.nd rfl rfl ⟨rfl, by decide, .inl R_GateError.gC⟩ takes0 (fun W pn xe tk po => (pss_one (ps_expr (pe_cx c_given_clauses hr (by omega) rfl tk (pa_cons (pv 0) (pa_cons (pv 1) (pa_cons (pv 2) (pa_cons (pv 3) pa_nil)))))))) (fun a oe cls d pn hz hf => (pss_cons (ps_if (pt_val (pe_callB (call_isD hz hf) (by rfl) T.b_isinstance boot_isinstance' (pa_cons (pv 4) (pa_cons (pe_gc (by rfl) g_InvalidProof) pa_nil)))) (pss_one (ps_ret (pe_tup (pa_cons pe_str (pa_cons (pe_xg hz hf (pv 4)) pa_nil))))) pss_nil)
      (pss_one (ps_ret (pe_ifExp (pt_val (pe_callB (call_isD hz hf) (by rfl) T.b_isinstance boot_isinstance' (pa_cons (pv 4) (pa_cons (pe_gc (by rfl) g_InvalidNet) pa_nil)))) (pe_tup (pa_cons pe_str (pa_cons (pe_xg hz hf (pv 4)) pa_nil))) pe_str))))))
      (pss_one (ps_ret pe_non))), ?_⟩
    rcases h with ⟨hc, k⟩ | ⟨hc, k⟩
    · refine ⟨_, rfl, _, rfl, _, rfl, _, rfl, ?_⟩
      dsimp only [tNil]
      refine hc _ _ fun H' d s1 hd => ?_
      refine ⟨true, R_GateError.m1, fun _ a ha => ?_, fun q => Bool.noConfusion q⟩
      refine ⟨_, rfl, C1, _, .ref C2, false, d, _, rfl, rfl, hd, R_GateError.e1, rfl, fun _ h => h, R_GateError.k12, _, rfl, ifF rfl ?_⟩
      refine ⟨_, rfl, C1, _, .ref C1, true, d, _, rfl, rfl, hd, R_GateError.e1, rfl, fun _ h => h, R_GateError.k11, _, rfl, ifT rfl ?_⟩
      refine ⟨_, rfl, rfl, C1, d, _, _, rfl, R_GateError.x1, R_GateError.n1, rfl, hd, rfl, (show 2 ≤ sizeLine by decide), fun p np => ?_⟩
      exact k _ _ (s1.trans (same_new np)) (.tup (SqT.of upd_same) (.cons (.str _) (.cons (.str _) .nil)))
    · refine ⟨_, rfl, _, rfl, _, rfl, _, rfl, ?_⟩
      dsimp only [tNil]
      refine hc _ _ fun H' d s1 hd => ?_
      refine ⟨true, R_GateError.m2, fun _ a ha => ?_, fun q => Bool.noConfusion q⟩
      refine ⟨_, rfl, C2, _, .ref C2, true, d, _, rfl, rfl, hd, R_GateError.e2, rfl, fun _ h => h, R_GateError.k22, _, rfl, ifT rfl ?_⟩
      refine ⟨_, rfl, rfl, C2, d, _, _, rfl, R_GateError.x2, R_GateError.n2, rfl, hd, rfl, (show 2 ≤ sizeLine by decide), fun p np => ?_⟩
      exact k _ _ (s1.trans (same_new np)) (.tup (SqT.of upd_same) (.cons (.str _) (.cons (.str _) .nil)))
end
end Q41



set_option pp.maxSteps 1500
namespace Q41
open PySem L2 G M03 M41
open C8 (Cal Met Mak pe_c pe_mk pe_mt pe_mt0 pe_gc pss_cut tCut)
/-! ### data of numbers in lists and tuples, made plain -/
mutual
def numD : Nat → PyData → Bool
  | _, .int _ => true
  | n + 1, .list ds => decide (ds.length ≤ 10000) && numDs n ds
  | n + 1, .tuple ds => decide (ds.length ≤ 10000) && numDs n ds
  | _, _ => false
def numDs : Nat → List PyData → Bool
  | _, [] => true
  | n, d :: r => numD n d && numDs n r
end
mutual
theorem num_flat : ∀ {n : Nat} {d : PyData}, numD n d = true → flat (n + 1) (plain d) = true ∧ tall d n
  | n, .int _, _ => ⟨rfl, by cases n <;> trivial⟩
  | n + 1, .list ds, h => by
    simp only [numD, Bool.and_eq_true, decide_eq_true_eq] at h
    obtain ⟨a, c⟩ := nums_flat h.2
    exact ⟨by show (flat (n + 1) (.bool true) && flats (n + 1) (plains ds)) = true; rw [a]; rfl, h.1, c⟩
  | n + 1, .tuple ds, h => by
    simp only [numD, Bool.and_eq_true, decide_eq_true_eq] at h
    obtain ⟨a, c⟩ := nums_flat h.2
    exact ⟨by show (flat (n + 1) (.bool false) && flats (n + 1) (plains ds)) = true; rw [a]; rfl, h.1, c⟩
  | 0, .list _, h => by simp [numD] at h
  | 0, .tuple _, h => by simp [numD] at h
  | _, .none, h => by simp [numD] at h
  | _, .bool _, h => by simp [numD] at h
  | _, .str _, h => by simp [numD] at h
  | _, .dict _, h => by simp [numD] at h
theorem nums_flat : ∀ {n : Nat} {ds : List PyData}, numDs n ds = true → flats (n + 1) (plains ds) = true ∧ talls ds n
  | n, [], _ => ⟨rfl, by cases n <;> trivial⟩
  | n, d :: r, h => by
    simp only [numDs, Bool.and_eq_true] at h
    obtain ⟨a, c⟩ := num_flat h.1
    obtain ⟨a', c'⟩ := nums_flat h.2
    exact ⟨by show (flat (n + 1) (plain d) && flats (n + 1) (plains r)) = true; rw [a, a']; rfl, c, c'⟩
end
theorem numDs_all {n : Nat} {ds : List PyData} (h : ∀ d ∈ ds, numD n d = true) : numDs n ds = true := by
  induction ds with
  | nil => rfl
  | cons d r ih =>
    unfold numDs
    rw [h d List.mem_cons_self, ih fun x hx => h x (List.mem_cons_of_mem _ hx)]
    rfl
theorem num_shaped {n : Nat} {d : PyData} (h : numD n d = true) (hn : n ≤ 60) : SeqAt.shaped (plain d) = true := shaped_flat (num_flat h).1 (by omega)
theorem num_eqv {n : Nat} {d : PyData} (h : numD n d = true) (hn : n ≤ 60) : PyData.eqv (plain d) (plain d) = true := SeqAt.eqv_refl _ (SeqAt.canLay_of_shaped (num_shaped h hn))
theorem num_cls {cs : List Cl} (n : Nat) (h : cs.length ≤ 10000) (hr : ∀ c ∈ cs, c.length ≤ 10000) : numD (n + 2) (.list (cs.map fun c => clD (ordC c))) = true := by
  unfold numD
  rw [numDs_all (fun d hd => by
    obtain ⟨c, hm, rfl⟩ := List.mem_map.mp hd
    unfold clD numD
    rw [numDs_all (fun d hd => by
      obtain ⟨i, _, rfl⟩ := List.mem_map.mp hd
      cases n <;> rfl), decide_eq_true (by rw [ints_len]; have := ordC_len c; have := hr c hm; omega)]
    rfl), decide_eq_true (by rw [List.length_map]; exact h)]
  rfl
def goalsL (no np : Nat) : List (Str × Int) := ((List.range no).map fun (q : Nat) => (("output" : Str), (q : Int))) ++ (List.range np).map fun (q : Nat) => (("pair" : Str), (q : Int))
theorem goals_ok {n : Net} {prs : List Pr} {no : Nat} (h : n.outs.length = no) : ∀ z ∈ goalsL no prs.length, okGoal n prs z.1 z.2 = true ∧ PyData.strOk z.1 = true := by
  intro z hz
  unfold goalsL at hz
  rcases List.mem_append.mp hz with hz | hz
  · obtain ⟨q, hq, rfl⟩ := List.mem_map.mp hz
    have := List.mem_range.mp hq
    refine ⟨?_, show PyData.strOk "output" = true by decide +kernel⟩
    show okGoal n prs "output" (q : Int) = true
    unfold okGoal
    rw [if_pos rfl]
    simp only [Bool.and_eq_true, decide_eq_true_eq]
    omega
  · obtain ⟨q, hq, rfl⟩ := List.mem_map.mp hz
    have := List.mem_range.mp hq
    refine ⟨?_, show PyData.strOk "pair" = true by decide +kernel⟩
    show okGoal n prs "pair" (q : Int) = true
    unfold okGoal
    rw [if_neg (show ("pair" : Str) ≠ "output" by decide +kernel)]
    simp only [Bool.and_eq_true, decide_eq_true_eq]
    exact ⟨trivial, by omega, by omega⟩
theorem cut_init {xs : List V} {v : V} : cutV (xs ++ [v]) none (some (-1)) = xs := by
  have e : HT.sIx (xs ++ [v]).length (xs ++ [v]).length (some (-1)) = xs.length := by
    show (if (-1 : Int) < 0 then ((-1 : Int) + ((xs ++ [v]).length : Int)).toNat else min (-1 : Int).toNat (xs ++ [v]).length) = xs.length
    rw [if_pos (by decide), List.length_append, List.length_singleton]
    omega
  unfold cutV
  rw [HT.sIx_none, e, List.drop_zero, Nat.sub_zero]
  exact List.take_left' rfl
theorem flats_bools (n : Nat) : ∀ bs : List Bool, flats n (bs.map PyData.bool) = true
  | [] => by simp [flats]
  | i :: r => by simp [flats, flat, flats_bools n r]
theorem bools_shaped (bs : List Bool) : SeqAt.shaped (.list (bs.map PyData.bool)) = true := shaped_flat (n := 2) (by
  show flats 1 (bs.map PyData.bool) = true
  exact flats_bools 1 bs) (by decide)
theorem dps_bools {K : PySem.W.Frag} {H : Hp} : ∀ bs : List Bool, DpAll K H (bs.map V.bl) (bs.map PyData.bool)
  | [] => .nil
  | b :: r => .cons (.bl b) (dps_bools r)
theorem no_false (m : Nat) : ((List.replicate m true).map PyData.bool).any (fun z => PyData.eqv z (.bool false)) = false := by
  rw [List.any_eq_false]
  intro d hd
  obtain ⟨b, hb, rfl⟩ := List.mem_map.mp hd
  rw [(List.mem_replicate.mp hb).2]
  decide +kernel
/-- the test of a comprehension over a clause -/
def truD (vs : List Int) : PyData → Bool
  | .int x => tru vs x
  | _ => false
theorem tru_len {vs : List Int} {c : Cl} : decide (0 < (((((intsD c).filter (truD vs)).map id).length : Nat) : Int)) = sat vs c := by
  rw [List.length_map]
  unfold sat
  rw [Bool.eq_iff_iff, decide_eq_true_iff, List.any_eq_true]
  have e : ((intsD c).filter (truD vs)).length = (c.filter (tru vs)).length := by
    unfold intsD
    rw [List.filter_map, List.length_map]
    rfl
  rw [e]
  constructor
  · intro h
    obtain ⟨x, hx⟩ := List.exists_mem_of_length_pos (show 0 < (c.filter (tru vs)).length by omega)
    exact ⟨x, (List.mem_filter.mp hx).1, (List.mem_filter.mp hx).2⟩
  · rintro ⟨x, hx, ht⟩
    have := List.length_pos_of_mem (List.mem_filter.mpr ⟨hx, ht⟩)
    omega
theorem vals_at {rest : List Int} {x : Int} (h : Bd (rest.length : Int) x) : atI (V.non :: rest.map V.int) (if x < 0 then -x else x) = some (.int ((0 :: rest).getD x.natAbs 0)) := by
  unfold Bd at h
  obtain ⟨j, hj⟩ : ∃ j : Nat, x.natAbs = j + 1 := ⟨x.natAbs - 1, by omega⟩
  have e : (if x < 0 then -x else x) = ((j + 1 : Nat) : Int) := by split <;> omega
  rw [e, hj]
  refine atI_nat ?_
  show (rest.map V.int)[j]? = _
  have jl : j < rest.length := by omega
  rw [List.getElem?_map, List.getElem?_eq_getElem jl]
  show some (V.int rest[j]) = some (V.int (rest.getD j 0))
  rw [List.getD_eq_getElem?_getD, List.getElem?_eq_getElem jl]
  rfl
theorem tru_test {vs : List Int} {x : Int} : decide (V.int (vs.getD x.natAbs 0) = V.int (if decide (0 < x) = true then 1 else 0)) = tru vs x := by
  unfold tru
  by_cases h : 0 < x <;> simp [h]
def disB (fl gl : List Int) : PyData → Bool
  | .tuple [.int p, .int q, .int t] => decide (xorB (fl.getD p.toNat 0) (gl.getD q.toNat 0) ≠ t)
  | _ => false
theorem given_len {n m : Net} {prs : List Pr} {g : Int × Int × Int} (sn : Small n) (sm : Small m) (h : prs.length ≤ 100) : (givenC n m prs g).length ≤ 3000 := by
  have PL := pairsC_len n m prs
  have g1 := gatesC_len (one n) (w0 n) n.gates n.gates.length
  have g2 := gatesC_len (two n m) (w0 m) m.gates m.gates.length
  have := sn.2.2.2.2.1
  have := sm.2.2.2.2.1
  unfold givenC headC xorC
  simp only [List.length_append, List.length_cons, List.length_nil, PL]
  omega
section
variable {P : Program} {w : World} {K : PySem.W.Frag} {mg : Str → Option Value} {base : Heap}
def spLaw (K : PySem.W.Frag) : Sp := fun vs H Q _ => ∃ (a : Addr) (ns : List Int), vs = [.ref a] ∧ SqL K H a (ns.map V.int) ∧ ns.length ≤ 63 ∧ ∀ H', Q (.bl true) H'
structure Cals (P : Program) (w : World) (K : PySem.W.Frag) (mg : Str → Option Value) (base : Heap) (C1 C2 : Addr) : Prop where
  deck : Cal P w K mg base 1 "_law_deck" (spDeck K) []
  take : Cal P w K mg base 1 "_law_take" spTake []
  plain : ∀ n, Cal P w K mg base n "_law_plain" (spPlain K n) []
  spoil : Cal P w K mg base 4 "_law_spoil" (spSpoil K 4) []
  net : Cal P w K mg base 2 "_law_net" (spNet K) []
  wires : Cal P w K mg base 1 "_law_wires" (spLWires K) []
  tuples : Cal P w K mg base 1 "_law_tuples" (spTuples K) []
  lgiven : Cal P w K mg base 2 "_law_given" (spLGiven K) []
  given : CalX P w K mg base 4 "given_clauses" (spGiven K C1 C2)
  why : Cal P w K mg base 5 "_law_why" (spWhy K C1 C2) []
theorem ok_law {C1 C2 f : Addr} {fd : FuncData} (F : Fun K "law" "law" s_law f fd) (T : Txt K mg) (c : Cals P w K mg base C1 C2) : FnOk P w K mg base CX0 10 f fd ["script"] (spLaw K) := by
  refine F.ok sc_law (fun vs H Q E h => ?_) (fun cdv A outer s H vs Q E hr h => ?_)
  · obtain ⟨a, ns, rfl, _⟩ := h
    rfl
  · obtain ⟨a, ns, rfl, ha, hn, k⟩ := h
    have hu65 := hu65_of hr
    have c__law_deck := c.deck
    have c__law_take := c.take
    have c__law_plain := c.plain 8
    have c__law_spoil := c.spoil
    have c__law_net := c.net
    have c__law_wires := c.wires
    have c__law_tuples := c.tuples
    have c__law_given := c.lgiven
    have c_given_clauses := c.given
    have c__law_why := c.why
    refine ⟨_, (pss_cons (ps_set (i := 1) sc_law.nd rfl (Or.inl rfl) (pe_c c__law_deck hr (by omega) rfl (pa_cons (pv 0) (pa_cons pe_int (pa_cons pe_int pa_nil)))))
      (pss_cons (ps_set (i := 2) sc_law.nd rfl (Or.inl rfl) (pe_c c__law_take hr (by omega) rfl (pa_cons (pv 1) (pa_cons pe_int pa_nil))))
      (pss_cons (ps_set (i := 3) sc_law.nd rfl (Or.inl rfl) (pe_op op_add pe_int (pe_c c__law_take hr (by omega) rfl (pa_cons (pv 1) (pa_cons pe_int pa_nil)))))
      (pss_cons (ps_set (i := 4) sc_law.nd rfl (Or.inl rfl) (pe_c c__law_net hr (by omega) rfl (pa_cons (pv 1) (pa_cons (pv 2) (pa_cons (pe_c c__law_take hr (by omega) rfl (pa_cons (pv 1) (pa_cons pe_int pa_nil))) (pa_cons (pe_c c__law_take hr (by omega) rfl (pa_cons (pv 1) (pa_cons pe_int pa_nil))) (pa_cons (pv 3) pa_nil)))))))
      (pss_cons (ps_set (i := 5) sc_law.nd rfl (Or.inl rfl) (pe_c c__law_net hr (by omega) rfl (pa_cons (pv 1) (pa_cons (pv 2) (pa_cons (pe_c c__law_take hr (by omega) rfl (pa_cons (pv 1) (pa_cons pe_int pa_nil))) (pa_cons (pe_c c__law_take hr (by omega) rfl (pa_cons (pv 1) (pa_cons pe_int pa_nil))) (pa_cons (pv 3) pa_nil)))))))
      (pss_cons (ps_set (i := 6) sc_law.nd rfl (Or.inl rfl) (pe_lst pa_nil))
      (pss_cons (ps_for PassesOwn.never rfl (pi_range1 (by rfl) T.b_range (pa_cons (pe_callB call_len_seq (by rfl) T.b_len boot_len' (pa_cons (pe_ix ix_tup (pv 4) pe_int (fun _ _ => rfl)) pa_nil)) pa_nil)) (pg_name (i := 7) sc_law.nd rfl (Or.inl rfl)) (pss_one (ps_for PassesOwn.never rfl (pi_range1 (by rfl) T.b_range (pa_cons (pe_callB call_len_seq (by rfl) T.b_len boot_len' (pa_cons (pe_ix ix_tup (pv 5) pe_int (fun _ _ => rfl)) pa_nil)) pa_nil)) (pg_name (i := 8) sc_law.nd rfl (Or.inl rfl)) (pss_one (ps_if (pt_cmpR op_eq (pe_c c__law_take hr (by omega) rfl (pa_cons (pv 1) (pa_cons pe_int pa_nil))) pe_int (nomark _)) (pss_one (ps_expr (pe_bm PySem.F.plainAttrs_list PySem.F.slot_list_append PySem.F.type_list_append mt_append (pv 6) (pa_cons (pe_tup (pa_cons (pv 7) (pa_cons (pv 8) (pa_cons (pe_c c__law_take hr (by omega) rfl (pa_cons (pv 1) (pa_cons pe_int pa_nil))) pa_nil)))) pa_nil)))) pss_nil)))))
      (pss_cons (ps_set (i := 9) sc_law.nd rfl (Or.inl rfl) (pe_op op_cat (pe_lc (own := [("k", 28)]) rfl sc_law.nd (pi_range1 (by rfl) T.b_range (pa_cons (pv 3) pa_nil)) (blkOk_by (own := [("k", 28)]) (N := ["script", "deck", "inputs", "outputs", "first", "second", "pairs", "p", "q", "goals", "goal", "due", "told", "clauses", "bits", "one", "two", "left", "right", "turned", "x", "y", "values", "good", "clause", "wide", "short", "answers", "k", "one_of"]) (sc := defScope s_law) (by decide +kernel)) (fun _ _ _ _ _ => (pg_name (i := 28) sc_law.nd rfl (Or.inl rfl))) (fun _ _ _ _ _ => pts_nil) (fun _ _ _ _ _ => (pe_tup (pa_cons pe_str (pa_cons (pv 28) pa_nil))))) (pe_lc (own := [("k", 28)]) rfl sc_law.nd (pi_range1 (by rfl) T.b_range (pa_cons (pe_callB call_len_seq (by rfl) T.b_len boot_len' (pa_cons (pv 6) pa_nil)) pa_nil)) (blkOk_by (own := [("k", 28)]) (N := ["script", "deck", "inputs", "outputs", "first", "second", "pairs", "p", "q", "goals", "goal", "due", "told", "clauses", "bits", "one", "two", "left", "right", "turned", "x", "y", "values", "good", "clause", "wide", "short", "answers", "k", "one_of"]) (sc := defScope s_law) (by decide +kernel)) (fun _ _ _ _ _ => (pg_name (i := 28) sc_law.nd rfl (Or.inl rfl))) (fun _ _ _ _ _ => pts_nil) (fun _ _ _ _ _ => (pe_tup (pa_cons pe_str (pa_cons (pv 28) pa_nil)))))))
      (pss_cons (ps_for PassesOwn.never rfl (pi_list (pv 9)) (pg_name (i := 10) sc_law.nd rfl (Or.inl rfl)) (pss_cons (ps_set (i := 11) sc_law.nd rfl (Or.inl rfl) (pe_c c__law_given hr (by omega) rfl (pa_cons (pv 4) (pa_cons (pv 5) (pa_cons (pv 6) (pa_cons (pv 10) pa_nil))))))
      (pss_cons (ps_set (i := 12) sc_law.nd rfl (Or.inl rfl) (pe_cx c_given_clauses hr (by omega) rfl takes0 (pa_cons (pv 4) (pa_cons (pv 5) (pa_cons (pe_callTy call_tuple_of (by rfl) T.b_tuple boot_tuple' (pa_cons (pv 6) pa_nil)) (pa_cons (pv 10) pa_nil))))))
      (pss_cons (ps_if (pt_cmpR (op_neD hr.units) (pe_c c__law_plain hr (by omega) rfl (pa_cons (pv 12) pa_nil)) (pe_c c__law_plain hr (by omega) rfl (pa_cons (pv 11) pa_nil)) (nomark _)) (pss_one (ps_ret pe_bl)) pss_nil)
      (pss_one (ps_expr (pe_c c__law_spoil hr (by omega) rfl (pa_cons (pe_lst (pa_cons (pv 12) pa_nil)) pa_nil))))))))
      (pss_cons (ps_set (i := 10) sc_law.nd rfl (Or.inl rfl) (pe_ix ix_list (pv 9) (pe_c c__law_take hr (by omega) rfl (pa_cons (pv 1) (pa_cons (pe_callB call_len_seq (by rfl) T.b_len boot_len' (pa_cons (pv 9) pa_nil)) pa_nil))) (fun _ _ => rfl)))
      (pss_cons (ps_set (i := 13) sc_law.nd rfl (Or.inl rfl) (pe_cx c_given_clauses hr (by omega) rfl takes0 (pa_cons (pv 4) (pa_cons (pv 5) (pa_cons (pv 6) (pa_cons (pv 10) pa_nil))))))
      (pss_cons (ps_for PassesOwn.never rfl (pi_list (pe_c c__law_tuples hr (by omega) rfl (pa_cons (pe_op op_add (pe_op op_add (pv 2) (pe_callB call_len_seq (by rfl) T.b_len boot_len' (pa_cons (pe_ix ix_tup (pv 4) pe_int (fun _ _ => rfl)) pa_nil))) (pe_callB call_len_seq (by rfl) T.b_len boot_len' (pa_cons (pe_ix ix_tup (pv 5) pe_int (fun _ _ => rfl)) pa_nil))) pa_nil))) (pg_name (i := 14) sc_law.nd rfl (Or.inl rfl)) (pss_cons (ps_set (i := 15) sc_law.nd rfl (Or.inr rfl) (pe_slice sl_tupA (pv 14) (po_some (pv 2)) (po_some (pe_op op_add (pv 2) (pe_callB call_len_seq (by rfl) T.b_len boot_len' (pa_cons (pe_ix ix_tup (pv 4) pe_int (fun _ _ => rfl)) pa_nil))))))
      (pss_cons (ps_set (i := 16) sc_law.nd rfl (Or.inr rfl) (pe_slice sl_tupA (pv 14) (po_some (pe_op op_add (pv 2) (pe_callB call_len_seq (by rfl) T.b_len boot_len' (pa_cons (pe_ix ix_tup (pv 4) pe_int (fun _ _ => rfl)) pa_nil)))) po_none))
      (pss_one (ps_if (pt_cmpR op_eq (pe_callB call_len_seq (by rfl) T.b_len boot_len' (pa_cons (pe_lc (own := [("p", 7), ("q", 8), ("turned", 19)]) rfl sc_law.nd (pi_list (pv 6)) (blkOk_by (own := [("p", 7), ("q", 8), ("turned", 19)]) (N := ["script", "deck", "inputs", "outputs", "first", "second", "pairs", "p", "q", "goals", "goal", "due", "told", "clauses", "bits", "one", "two", "left", "right", "turned", "x", "y", "values", "good", "clause", "wide", "short", "answers", "k", "one_of"]) (sc := defScope s_law) (by decide +kernel)) (fun _ _ _ _ _ => (kTup (K := K) rfl (pg_tup (n := 3) rfl (pgs_cons (pg_name (i := 7) sc_law.nd rfl (Or.inl rfl)) (pgs_cons (pg_name (i := 8) sc_law.nd rfl (Or.inl rfl)) (pgs_cons (pg_name (i := 19) sc_law.nd rfl (Or.inl rfl)) pgs_nil)))))) (fun _ _ _ _ _ => (pts_one (pt_cmpR op_ne (pe_op op_xor (pe_ix (ix_tupK (K := K) rfl) (pv 15) (pv 7) (fun _ _ => rfl)) (pe_ix (ix_tupK (K := K) rfl) (pv 16) (pv 8) (fun _ _ => rfl))) (pv 19) (nomark _)))) (fun _ _ _ _ _ => pe_int)) pa_nil)) pe_int (nomark _)) (pss_cons (ps_set (i := 17) sc_law.nd rfl (Or.inl rfl) (pe_c c__law_wires hr (by omega) rfl (pa_cons (pv 4) (pa_cons (pe_slice sl_tupA (pv 14) po_none (po_some (pv 2))) (pa_cons (pv 15) pa_nil)))))
      (pss_cons (ps_set (i := 18) sc_law.nd rfl (Or.inl rfl) (pe_c c__law_wires hr (by omega) rfl (pa_cons (pv 5) (pa_cons (pe_slice sl_tupA (pv 14) po_none (po_some (pv 2))) (pa_cons (pv 16) pa_nil)))))
      (pss_cut (ps_if (pt_cmpR op_eq (pe_ix ix_tup (pv 10) pe_int (fun _ _ => rfl)) pe_str (nomark _)) (pss_cons (ps_asg (pe_ix ix_list (pv 6) (pe_ix ix_tup (pv 10) pe_int (fun _ _ => rfl)) (fun _ _ => rfl)) (pg_tup rfl (pgs_cons (pg_name (i := 7) sc_law.nd rfl (Or.inl rfl)) (pgs_cons (pg_name (i := 8) sc_law.nd rfl (Or.inl rfl)) (pgs_cons (pg_name (i := 19) sc_law.nd rfl (Or.inl rfl)) pgs_nil)))))
      (pss_one (ps_par (i := 20) (j := 21) (by rfl) sc_law.nd rfl rfl (by decide) rfl rfl (pa_cons (pe_ix ix_list (pv 17) (pe_ix ix_list (pe_ix ix_tup (pv 4) pe_int (fun _ _ => rfl)) (pv 7) (fun _ _ => rfl)) (fun _ _ => rfl)) (pa_cons (pe_ix ix_list (pv 18) (pe_ix ix_list (pe_ix ix_tup (pv 5) pe_int (fun _ _ => rfl)) (pv 8) (fun _ _ => rfl)) (fun _ _ => rfl)) pa_nil)) (by rfl)))) (pss_one (ps_par3 (i := 20) (j := 21) (l := 19) (by rfl) sc_law.nd rfl rfl rfl (by decide) (by decide) (by decide) rfl rfl rfl (pa_cons (pe_ix ix_list (pv 17) (pe_ix ix_list (pe_ix ix_tup (pv 4) pe_int (fun _ _ => rfl)) (pe_ix ix_tup (pv 10) pe_int (fun _ _ => rfl)) (fun _ _ => rfl)) (fun _ _ => rfl)) (pa_cons (pe_ix ix_list (pv 18) (pe_ix ix_list (pe_ix ix_tup (pv 5) pe_int (fun _ _ => rfl)) (pe_ix ix_tup (pv 10) pe_int (fun _ _ => rfl)) (fun _ _ => rfl)) (fun _ _ => rfl)) (pa_cons pe_int pa_nil))) (by rfl))))
      (pss_cons (ps_set (i := 22) sc_law.nd rfl (Or.inr rfl) (pe_op op_cat (pe_op op_cat (pe_op op_cat (pe_lst (pa_cons pe_non pa_nil)) (pv 17)) (pe_slice sl_list (pv 18) (po_some (pe_op op_add pe_int (pv 2))) po_none)) (pe_lst (pa_cons (pe_op op_xor (pv 20) (pv 21)) pa_nil))))
      (pss_cons (ps_set (i := 23) sc_law.nd rfl (Or.inl rfl) (pe_lst pa_nil))
      (pss_cons (ps_for PassesOwn.never rfl (pi_list (pv 13)) (pg_name (i := 24) sc_law.nd rfl (Or.inl rfl)) (pss_one (ps_expr (pe_bm PySem.F.plainAttrs_list PySem.F.slot_list_append PySem.F.type_list_append mt_append (pv 23) (pa_cons (pe_cmpR op_gt (pe_callB call_len_seq (by rfl) T.b_len boot_len' (pa_cons (pe_lc (own := [("one_of", 29)]) rfl sc_law.nd (pi_tup (pv 24)) (blkOk_by (own := [("one_of", 29)]) (N := ["script", "deck", "inputs", "outputs", "first", "second", "pairs", "p", "q", "goals", "goal", "due", "told", "clauses", "bits", "one", "two", "left", "right", "turned", "x", "y", "values", "good", "clause", "wide", "short", "answers", "k", "one_of"]) (sc := defScope s_law) (by decide +kernel)) (fun _ _ _ _ _ => (pg_name (i := 29) sc_law.nd rfl (Or.inl rfl))) (fun _ _ _ _ _ => (pts_one (pt_cmpR op_eq (pe_ix (ix_listK (K := K) rfl) (pv 22) (pe_callB call_abs (by rfl) T.b_abs boot_abs' (pa_cons (pv 29) pa_nil)) (fun _ _ => rfl)) (pe_callTy call_int1 (by rfl) T.b_int boot_int' (pa_cons (pe_cmpR op_gt (pv 29) pe_int (nomark _)) pa_nil)) (nomark _)))) (fun _ _ _ _ _ => (pv 29))) pa_nil)) pe_int (nomark _)) pa_nil)))))
      (pss_one (ps_if (PW.pt (pw_or (pt_cmpR (op_inD hu65) pe_bl (pe_slice sl_list (pv 23) po_none (po_some (pe_un un_neg pe_int))) rfl) (pw_or1 (pt_cmpR op_ne (pe_ix ix_list (pv 23) (pe_un un_neg pe_int) (fun _ _ => rfl)) (pe_cmpR op_ne (pe_op op_xor (pv 20) (pv 21)) (pv 19) (nomark _)) (nomark _))))) (pss_one (ps_ret pe_bl)) pss_nil)))))))) pss_nil)))))
      (pss_cons (ps_set (i := 25) sc_law.nd rfl (Or.inl rfl) (pe_op op_catA (pe_tup (pa_cons (pe_op op_add (pe_ix ix_tup (pv 4) pe_int (fun _ _ => rfl)) pe_int) pa_nil)) (pe_slice sl_tupA (pv 4) (po_some pe_int) po_none)))
      (pss_cons (ps_set (i := 26) sc_law.nd rfl (Or.inl rfl) (pe_op op_catA (pe_slice sl_tupA (pv 4) po_none (po_some pe_int)) (pe_tup (pa_cons (pe_op op_cat (pe_ix ix_tup (pv 4) pe_int (fun _ _ => rfl)) (pe_lst (pa_cons pe_int pa_nil))) pa_nil))))
      (pss_cons (ps_set (i := 27) sc_law.nd rfl (Or.inl rfl) (pe_lst (pa_cons (pe_c c__law_why hr (by omega) rfl (pa_cons (pv 4) (pa_cons (pv 25) (pa_cons (pe_lst pa_nil) (pa_cons (pv 10) pa_nil))))) (pa_cons (pe_c c__law_why hr (by omega) rfl (pa_cons (pv 4) (pa_cons (pv 26) (pa_cons (pe_lst pa_nil) (pa_cons (pv 10) pa_nil))))) (pa_cons (pe_c c__law_why hr (by omega) rfl (pa_cons (pv 4) (pa_cons (pv 5) (pa_cons (pe_lst pa_nil) (pa_cons (pe_tup (pa_cons pe_str (pa_cons (pv 3) pa_nil))) pa_nil))))) pa_nil)))))
      (pss_cons (ps_set (i := 27) sc_law.nd rfl (Or.inl rfl) (pe_op op_cat (pv 27) (pe_lst (pa_cons (pe_c c__law_why hr (by omega) rfl (pa_cons (pv 4) (pa_cons (pv 5) (pa_cons (pe_lst pa_nil) (pa_cons (pe_tup (pa_cons pe_str (pa_cons pe_int pa_nil))) pa_nil))))) (pa_cons (pe_c c__law_why hr (by omega) rfl (pa_cons (pv 4) (pa_cons (pv 5) (pa_cons (pe_lst (pa_cons (pe_tup (pa_cons (pe_callB call_len_seq (by rfl) T.b_len boot_len' (pa_cons (pe_ix ix_tup (pv 4) pe_int (fun _ _ => rfl)) pa_nil)) (pa_cons pe_int (pa_cons pe_int pa_nil)))) pa_nil)) (pa_cons (pe_tup (pa_cons pe_str (pa_cons pe_int pa_nil))) pa_nil))))) pa_nil)))))
      (pss_cons (ps_set (i := 27) sc_law.nd rfl (Or.inl rfl) (pe_op op_cat (pv 27) (pe_lst (pa_cons (pe_c c__law_why hr (by omega) rfl (pa_cons (pv 4) (pa_cons (pv 5) (pa_cons (pe_lst pa_nil) (pa_cons (pe_tup (pa_cons pe_str (pa_cons pe_int pa_nil))) pa_nil))))) (pa_cons (pe_c c__law_why hr (by omega) rfl (pa_cons (pv 4) (pa_cons (pv 5) (pa_cons (pe_lst pa_nil) (pa_cons (pe_tup (pa_cons pe_str (pa_cons (pe_un un_neg pe_int) pa_nil))) pa_nil))))) pa_nil)))))
      (pss_one (ps_ret (pe_cmpR (op_eqD hr.units) (pv 27) (pe_op op_cat (pe_op op_rep (pe_lst (pa_cons (pe_tup (pa_cons pe_str (pa_cons pe_str pa_nil))) pa_nil)) pe_int) (pe_op op_rep (pe_lst (pa_cons (pe_tup (pa_cons pe_str (pa_cons pe_str pa_nil))) pa_nil)) pe_int)) (nomark _))))))))))))))))))))), ?_⟩
    refine ⟨_, rfl, a, ns, 60, 14, rfl, ha, by omega, by decide, by decide, by decide, fun dk H1 nd s1 k1 => ?_⟩
    refine ⟨_, rfl, dk, 4, rfl, by decide, k1, fun ri H2 i0 i1 b2 k2 => ?_⟩
    obtain ⟨ni, rfl⟩ := Int.eq_ofNat_of_zero_le i0
    refine ⟨_, rfl, dk, 2, rfl, by decide, k2, fun ro H3 o0 o1 b3 k3 => ⟨_, _, rfl, rfl, ?_⟩⟩
    obtain ⟨no1, rfl⟩ := Int.eq_ofNat_of_zero_le o0
    change gName 3 (.int (1 + (no1 : Int))) _ _ _
    rw [show (1 : Int) + (no1 : Int) = ((no1 + 1 : Nat) : Int) by omega]
    have hno : no1 + 1 ≤ 2 := by omega
    have hno1 : 1 ≤ no1 + 1 := by omega
    generalize no1 + 1 = no at hno hno1
    -- first
    refine ⟨_, rfl, _, rfl, _, rfl, dk, 4, rfl, by decide, k3, fun rf H4 f0 f1 b4 k4 => ⟨_, rfl, dk, 8, rfl, by decide, k4, fun rg' H5 g0 g1 b5 k5 => ?_⟩⟩
    obtain ⟨nf1, rfl⟩ := Int.eq_ofNat_of_zero_le f0
    obtain ⟨ng1, rfl⟩ := Int.eq_ofNat_of_zero_le g0
    refine ⟨_, rfl, dk, ni, nf1, ng1, no, rfl, by omega, by omega, by omega, by omega, k5, fun v1 n H6 b6 k6 dn ok1 ei1 ef1 eg1 eo1 hxn => ?_⟩
    refine ⟨_, rfl, _, rfl, _, rfl, dk, 4, rfl, by decide, k6, fun rf H7 f0 f1' b7 k7 => ⟨_, rfl, dk, 8, rfl, by decide, k7, fun rg' H8 g0 g1' b8 k8 => ?_⟩⟩
    obtain ⟨nf2, rfl⟩ := Int.eq_ofNat_of_zero_le f0
    obtain ⟨ng2, rfl⟩ := Int.eq_ofNat_of_zero_le g0
    refine ⟨_, rfl, dk, ni, nf2, ng2, no, rfl, by omega, by omega, by omega, by omega, k8, fun v2 m H9 b9 k9 dm ok2 ei2 ef2 eg2 eo2 _ => ?_⟩
    have dn9 : Dp K (del1 H9 dk) v1 (netD n) := dp_same (del1_but ((b7.trans b8).trans b9)) dn
    obtain ⟨fa, xf, xn, xg, xo, rfl, hx6, ho6⟩ := hxn
    have s69 := del1_but ((b7.trans b8).trans b9)
    have hx9 := s69 _ _ hx6
    have ho9 := s69 _ _ ho6
    obtain ⟨fb, _, _, _, _, _, rfl, _⟩ := net_dp dm
    have sn : Small n := ⟨by omega, by omega, by omega, by have := (okNet_parts ok1).2.2.1; omega, by omega, by omega⟩
    have sm : Small m := ⟨by omega, by omega, by omega, by have := (okNet_parts ok2).2.2.1; omega, by omega, by omega⟩
    have sz : sameSz n m := ⟨by omega, by omega⟩
    clear b2 b3 b4 b5 b6 b7 b8 b9 k1 k2 k3 k4 k5 k6 k7 k8
    -- pairs
    refine ⟨Nat.zero_le _, fun pp npp => ?_⟩
    have u0 := same_new (o := HO.lst []) npp
    have nppk : pp ≠ dk := Deck.ne k9 npp
    obtain ⟨_, af, _, _, _, _, e, ha1, hf1, _⟩ := net_dp dn9
    cases e
    obtain ⟨_, bf, _, _, _, _, e, ha2, hf2, _⟩ := net_dp dm
    cases e
    refine ⟨_, rfl, fa, _, 1, _, rfl, rfl, Same.tup (del1_sub.trans u0) ha1, atI_nat (j := 1) rfl, af, _, rfl, .inl ((del1_sub.trans u0).seq hf1), _, rfl, by omega, by rw [List.length_map]; omega, ?_⟩
    rw [List.length_map]
    refine for_range (lo := 0) (n := ((n.firsts.length : Nat) : Int).toNat) (fun i σ H' => ∃ (prs : List Pr) (xs : List V) (o7 o8 : Option V), σ = [some (.ref a), some (.ref dk), some (.int ni), some (.int no), some (.ref fa), some (.ref fb), some (.ref pp), o7, o8, none, none, none, none, none, none, none, none, none, none, none, none, none, none, none, none, none, none, none, none, none] ∧
      But dk H9 H' ∧ Deck H' dk ∧ H' pp = some (.lst xs) ∧ DpAll K H' xs (prs.map prD) ∧ prs.all (okPrB n m) = true ∧ prs.length ≤ i * 3) ⟨[], [], none, none, rfl, But.of u0, k9.same u0, upd_same, .nil, rfl, Nat.zero_le _⟩ ?_ ?_
    · rintro i σ H' hi ⟨prs, xs, o7, o8, rfl, bi, ki, hpi, hxi, hal, hlen⟩
      have s9 : Same (del1 H9 dk) H' := (del1_but bi).trans del1_sub
      refine ⟨_, rfl, fb, _, 1, _, rfl, rfl, Same.tup s9 ha2, atI_nat (j := 1) rfl, bf, _, rfl, .inl (s9.seq hf2), _, rfl, by omega, by rw [List.length_map]; omega, ?_⟩
      rw [List.length_map]
      refine for_range (lo := 0) (n := ((m.firsts.length : Nat) : Int).toNat) (fun j σ H' => ∃ (prs : List Pr) (xs : List V) (o8 : Option V), σ = [some (.ref a), some (.ref dk), some (.int ni), some (.int no), some (.ref fa), some (.ref fb), some (.ref pp), some (.int (0 + (i : Int))), o8, none, none, none, none, none, none, none, none, none, none, none, none, none, none, none, none, none, none, none, none, none] ∧
        But dk H9 H' ∧ Deck H' dk ∧ H' pp = some (.lst xs) ∧ DpAll K H' xs (prs.map prD) ∧ prs.all (okPrB n m) = true ∧ prs.length ≤ i * 3 + j) ⟨prs, xs, o8, rfl, bi, ki, hpi, hxi, hal, hlen⟩ ?_ ?_
      · rintro j σ H' hj ⟨prs, xs, o8, rfl, bi, ki, hpi, hxi, hal, hlen⟩
        refine ⟨_, rfl, dk, 3, rfl, by decide, ki, fun r H2 r0 r1 b2 k2 => ⟨rfl, _, rfl, ?_⟩⟩
        have hp2 := b2 _ _ nppk hpi
        have K2 : KeepT H' H2 := KeepT.of_but ki b2
        have dl : noLs (prs.map prD) = true := noLs_map fun r _ => rfl
        refine ite2 (fun _ => ?_) (fun _ => ?_)
        · refine ⟨_, rfl, .inl ⟨rfl, _, SqL.of hp2⟩, _, rfl, _, rfl, _, rfl, dk, 2, rfl, by decide, k2, fun t H3 t0 t1 b3 k3 => ⟨(show 3 ≤ sizeLine by decide), fun q nq => ?_⟩⟩
          have u1 := same_new (o := HO.tup [V.int (0 + (i : Int)), V.int (0 + (j : Int)), V.int t]) nq
          have hp3 := u1 _ _ (b3 _ _ nppk hp2)
          have K3 := (K2.trans (KeepT.of_but k2 b3)).trans (KeepT.of_same u1)
          have K4 : KeepT (upd H3 q (.tup [V.int (0 + (i : Int)), V.int (0 + (j : Int)), V.int t])) (upd (upd H3 q (.tup [V.int (0 + (i : Int)), V.int (0 + (j : Int)), V.int t])) pp (.lst (xs ++ [V.ref q]))) := KeepT.upd (KeepT.of_same (Same.refl _)) hp3
          refine ⟨_, _, _, rfl, rfl, hp3, size_lt (by rw [dps_len hxi, List.length_map]; omega), ?_⟩
          refine ⟨prs ++ [(0 + (i : Int), 0 + (j : Int), t)], xs ++ [.ref q], _, rfl, but_mut (((bi.trans b2).trans b3).trans (But.of u1)) npp, ?_, upd_same, ?_, ?_, by rw [List.length_append, List.length_singleton]; omega⟩
          · obtain ⟨ds, d1, d2⟩ := k3.same u1
            exact ⟨ds, d1, by rw [upd_ne (Ne.symm nppk)]; exact d2⟩
          · rw [List.map_append]
            exact dps_snoc (dps_keep (K3.trans K4) dl hxi) (dp_keep K4 rfl (.tup (SqT.of upd_same) (.cons (.int _) (.cons (.int _) (.cons (.int _) .nil)))))
          · rw [List.all_append, hal, List.all_cons, List.all_nil]
            unfold okPrB
            simp only [Bool.true_and, Bool.and_true, Bool.and_eq_true, decide_eq_true_eq, Bool.or_eq_true]
            omega
        · exact ⟨prs, xs, _, rfl, bi.trans b2, k2, hp2, dps_keep K2 dl hxi, hal, by omega⟩
      · rintro σ H' ⟨prs, xs, o8, rfl, bi, ki, hpi, hxi, hal, hlen⟩
        refine ⟨prs, xs, _, _, rfl, bi, ki, hpi, hxi, hal, ?_⟩
        have : ((m.firsts.length : Nat) : Int).toNat ≤ 3 := by omega
        omega
    · rintro σ H10 ⟨prs, xs, o7, o8, rfl, b10, k10, hp10, hxs10, hal, hlen⟩
      have hpl : prs.length ≤ 9 := by
        have : ((n.firsts.length : Nat) : Int).toNat ≤ 3 := by omega
        omega
      have d1F : Dp K (del1 H10 dk) (.ref fa) (netD n) := dp_same (del1_but b10) dn9
      have d1S : Dp K (del1 H10 dk) (.ref fb) (netD m) := dp_same (del1_but b10) dm
      have hx10 := (del1_but b10) _ _ hx9
      have ho10 := (del1_but b10) _ _ ho9
      obtain ⟨dks, hdk1, hdk2⟩ := id k10
      have d1P : Dp K (del1 H10 dk) (.ref pp) (.list (prs.map prD)) := .lst (SqL.of (by rw [del1_ne nppk]; exact hp10)) (dps_keep (KeepT.del hdk2) (noLs_map fun r _ => rfl) hxs10)
      clear dn9 dm ha1 ha2 hf1 hf2 u0
      -- goals
      refine ⟨_, rfl, no, rfl, by omega, by omega, fun D1 hD1 => ?_⟩
      refine lc_range (lo := 0) (n := ((no : Nat) : Int).toNat) (fun j H => ∃ (G : Hp) (ys : List V), Same H10 G ∧ G D1 = none ∧ H = upd G D1 (.lst ys) ∧ DpAll K G ys ((List.range j).map fun (q : Nat) => goalD "output" (q : Int))) ⟨H10, [], Same.refl _, hD1, rfl, .nil⟩ ?_ ?_
      · rintro j H hj ⟨G, ys, sG, hG, rfl, hys⟩
        refine ⟨rfl, _, rfl, (show 2 ≤ sizeLine by decide), fun l nl => ?_⟩
        obtain ⟨nlD, nlG⟩ := upd_none nl
        refine ⟨ys, by rw [upd_ne (Ne.symm nlD)]; exact upd_same, size_lt (by rw [dps_len hys, List.length_map, List.length_range]; omega), upd G l (.tup [V.str "output", V.int (0 + (j : Int))]), ys ++ [.ref l], sG.trans (same_new nlG), by rw [upd_ne (Ne.symm nlD)]; exact hG, by rw [upd_comm (Ne.symm nlD), upd_upd], ?_⟩
        rw [List.range_succ, List.map_append]
        refine dps_snoc (dps_same (same_new nlG) hys) (.tup (SqT.of upd_same) (.cons (.str _) (.cons ?_ .nil)))
        rw [Int.zero_add]
        exact .int _
      rintro H ⟨G1, ys1, sG1, hG1, rfl, hys1⟩
      have w1 : Same H10 (upd G1 D1 (.lst ys1)) := sG1.trans (same_new hG1)
      have hys1' := dps_same (same_new (o := HO.lst ys1) hG1) hys1
      have hD1' : upd G1 D1 (.lst ys1) D1 = some (.lst ys1) := upd_same
      generalize upd G1 D1 (.lst ys1) = J1 at w1 hys1' hD1'
      refine ⟨_, rfl, pp, _, rfl, .inl (SqL.of (w1 _ _ hp10)), _, rfl, by omega, by rw [dps_len hxs10, List.length_map]; omega, fun D2 hD2 => ?_⟩
      rw [dps_len hxs10, List.length_map]
      refine lc_range (lo := 0) (n := ((prs.length : Nat) : Int).toNat) (fun j H => ∃ (G : Hp) (ys : List V), Same J1 G ∧ G D2 = none ∧ H = upd G D2 (.lst ys) ∧ DpAll K G ys ((List.range j).map fun (q : Nat) => goalD "pair" (q : Int))) ⟨J1, [], Same.refl _, hD2, rfl, .nil⟩ ?_ ?_
      · rintro j H hj ⟨G, ys, sG, hG, rfl, hys⟩
        refine ⟨rfl, _, rfl, (show 2 ≤ sizeLine by decide), fun l nl => ?_⟩
        obtain ⟨nlD, nlG⟩ := upd_none nl
        refine ⟨ys, by rw [upd_ne (Ne.symm nlD)]; exact upd_same, size_lt (by rw [dps_len hys, List.length_map, List.length_range]; omega), upd G l (.tup [V.str "pair", V.int (0 + (j : Int))]), ys ++ [.ref l], sG.trans (same_new nlG), by rw [upd_ne (Ne.symm nlD)]; exact hG, by rw [upd_comm (Ne.symm nlD), upd_upd], ?_⟩
        rw [List.range_succ, List.map_append]
        refine dps_snoc (dps_same (same_new nlG) hys) (.tup (SqT.of upd_same) (.cons (.str _) (.cons ?_ .nil)))
        rw [Int.zero_add]
        exact .int _
      rintro H ⟨G2, ys2, sG2, hG2, rfl, hys2⟩
      have w2 : Same J1 (upd G2 D2 (.lst ys2)) := sG2.trans (same_new hG2)
      refine ⟨D1, D2, _, _, rfl, rfl, w2 _ _ hD1', upd_same, size_of (by rw [dps_len hys1', dps_len hys2, List.length_map, List.length_map, List.length_range, List.length_range]; omega), fun pgl npgl => ?_⟩
      have w3 := same_new (o := HO.lst (ys1 ++ ys2)) npgl
      have w123 := (w1.trans w2).trans w3
      have nglk : pgl ≠ dk := Deck.ne ((k10.same w1).same w2) npgl
      have hgl : upd (upd G2 D2 (.lst ys2)) pgl (.lst (ys1 ++ ys2)) pgl = some (.lst (ys1 ++ ys2)) := upd_same
      have dgl := dps_app (dps_same (w2.trans w3) hys1') (dps_same ((same_new hG2).trans w3) hys2)
      generalize upd (upd G2 D2 (.lst ys2)) pgl (.lst (ys1 ++ ys2)) = H11 at w123 hgl dgl
      have egs : ((List.range ((no : Nat) : Int).toNat).map fun (q : Nat) => goalD "output" (q : Int)) ++ ((List.range ((prs.length : Nat) : Int).toNat).map fun (q : Nat) => goalD "pair" (q : Int)) = (goalsL no prs.length).map fun z => goalD z.1 z.2 := by
        rw [Int.toNat_natCast, Int.toNat_natCast]
        unfold goalsL
        rw [List.map_append, List.map_map, List.map_map]
        rfl
      rw [egs] at dgl
      generalize ys1 ++ ys2 = gxs at hgl dgl
      have gall : ∀ z ∈ goalsL no prs.length, okGoal n prs z.1 z.2 = true ∧ PyData.strOk z.1 = true := goals_ok eo1
      have gmin : (goalsL no prs.length).length = no + prs.length := by simp [goalsL]
      generalize goalsL no prs.length = gsL at dgl gall gmin
      clear hys1 hys2 hys1'
      -- for goal in goals
      refine ⟨_, rfl, pgl, rfl, ⟨_, SqL.of hgl⟩, ?_⟩
      refine for_list (K := K) (a := pgl) (xs := gxs) (fun i σ H' => ∃ (o10 o11 o12 : Option V), σ = [some (.ref a), some (.ref dk), some (.int ni), some (.int no), some (.ref fa), some (.ref fb), some (.ref pp), o7, o8, some (.ref pgl), o10, o11, o12, none, none, none, none, none, none, none, none, none, none, none, none, none, none, none, none, none] ∧ Same H11 H') ⟨none, none, none, rfl, Same.refl _⟩ ?_ ?_ ?_
      · rintro i σ H' _ ⟨_, _, _, _, sF⟩
        exact SqL.of (sF _ _ hgl)
      · rintro i y σ H' hi ⟨o10, o11, o12, rfl, sF⟩
        obtain ⟨d, hdi, dy⟩ := dps_getv dgl hi
        rw [List.getElem?_map] at hdi
        obtain ⟨⟨wd, gk⟩, hz, rfl⟩ := Option.map_eq_some_iff.mp hdi
        obtain ⟨hgo, hwd⟩ := gall _ (List.mem_of_getElem? hz)
        have sX : Same (del1 H10 dk) H' := (del1_sub.trans w123).trans sF
        refine ⟨_, rfl, _, rfl, _, rfl, _, rfl, .ref fa, .ref fb, .ref pp, y, n, m, prs, wd, gk, rfl, dp_same sX d1F, dp_same sX d1S, dp_same sX d1P, dp_same sF dy, sn, sm, by omega, ok1, ok2, sz, hal, hgo, fun p1 xs1 H2 s2 np1 h1 d1 => ?_⟩
        have sX2 := sX.trans s2
        have hpp : H2 pp = some (.lst xs) := (w123.trans (sF.trans s2)) _ _ hp10
        refine ⟨_, rfl, _, rfl, _, rfl, pp, _, rfl, .inl ⟨SqL.of hpp, fun tp ntp => ?_⟩⟩
        have u1 := same_new (o := HO.tup xs) ntp
        have dtp : Dp K (upd H2 tp (.tup xs)) (.ref tp) (.tuple (prs.map prD)) := .tup (SqT.of upd_same) (dps_same ((w123.trans (sF.trans s2)).trans u1) hxs10)
        have sX3 := sX2.trans u1
        refine ⟨_, rfl, .ref fa, .ref fb, .ref tp, y, n, m, prs, wd, gk, rfl, dp_same sX3 d1F, dp_same sX3 d1S, .inr dtp, dp_same ((sF.trans s2).trans u1) dy, hwd, sn, sm, by omega, fun _ => ⟨ok1, ok2⟩, fun q => absurd sz q, fun _ e => absurd hal (by rw [e]; decide), fun _ _ e => absurd hgo (by rw [e]; decide), fun _ _ _ p2 xs2 H3 s3 np2 h2 d2 => ?_⟩
        have nG : numD 7 (.list ((givenC n m prs (goalW n m prs wd gk)).map fun c => clD (ordC c))) = true := num_cls 5 (Nat.le_trans (given_len (prs := prs) sn sm (by omega)) (by decide)) (fun c hc => by have := given_cl c hc; omega)
        refine ⟨_, rfl, .ref p2, _, rfl, .lst (SqL.of h2) d2, (num_flat nG).2, fun x1 H4 s4 dx1 => ?_⟩
        have hp1 := ((u1.trans s3).trans s4) _ _ h1
        refine ⟨_, rfl, .ref p1, _, rfl, .lst (SqL.of hp1) (dps_same ((u1.trans s3).trans s4) d1), (num_flat nG).2, fun x2 H5 s5 dx2 => ?_⟩
        refine ⟨_, _, dp_same s5 dx1, dx2, num_shaped nG (by decide), num_shaped nG (by decide), _, rfl, ?_⟩
        refine ifF (by rw [num_eqv nG (by decide)]; rfl) ?_
        have h2' := (s4.trans s5) _ _ h2
        have d2' := dps_same (s4.trans s5) d2
        have S5 : Same H11 H5 := sF.trans (((s2.trans u1).trans s3).trans (s4.trans s5))
        refine ⟨_, rfl, (show 1 ≤ sizeLine by decide), fun pb npb => ?_⟩
        have u2 := same_new (o := HO.lst [V.ref p2]) npb
        have np2' : H11 p2 = none := none_of_same ((sF.trans s2).trans u1) np2
        have npb' : H11 pb = none := none_of_same S5 npb
        have nbp : pb ≠ p2 := fun z => by rw [z, h2'] at npb; cases npb
        have d2' : DpAll K H5 xs2 (((givenC n m prs (goalW n m prs wd gk)).map ordC).map clD) := by rw [List.map_map]; exact d2'
        refine ⟨pb, p2, xs2, (givenC n m prs (goalW n m prs wd gk)).map ordC, rfl, nbp, upd_same, u2 _ _ h2', dps_same u2 d2', by rw [List.length_map]; exact Nat.le_trans (given_len (prs := prs) sn sm (by omega)) (by decide), fun H6 fr6 => ?_⟩
        exact ⟨_, _, _, rfl, fun b o e => fr6 b o (ne_of_none e np2') (ne_of_none e npb') (u2 _ _ (S5 _ _ e))⟩
      · rintro σ H12 ⟨o10, o11, o12, rfl, w12⟩
        have hgl12 := w12 _ _ hgl
        have gxl : gxs.length = gsL.length := by rw [dps_len dgl, List.length_map]
        have k12 := (k10.same w123).same w12
        refine ⟨_, rfl, _, rfl, _, rfl, pgl, _, rfl, .inl (SqL.of hgl12), dk, _, rfl, by omega, k12, fun r H13 r0 r1 b13 k13 => ?_⟩
        obtain ⟨rn, rfl⟩ := Int.eq_ofNat_of_zero_le r0
        obtain ⟨wd, gk, hz⟩ : ∃ (wd : Str) (gk : Int), gsL[rn]? = some (wd, gk) := ⟨_, _, List.getElem?_eq_getElem (by omega : rn < gsL.length)⟩
        obtain ⟨hgo, hwd⟩ := gall _ (List.mem_of_getElem? hz)
        obtain ⟨y, hy, dy⟩ := dps_get (i := rn) (d := goalD wd gk) dgl (by rw [List.getElem?_map, hz]; rfl)
        have hgl13 := b13 _ _ nglk hgl12
        have s13 : Same (del1 H10 dk) H13 := ((del1_same (w123.trans w12)).trans (del1_but b13)).trans del1_sub
        have dy13 : Dp K H13 y (goalD wd gk) := dp_keep ((KeepT.of_same w12).trans (KeepT.of_but k12 b13)) rfl dy
        obtain ⟨_, af, an, _, ao, _, e, ha1, hf1, hN1, _, _, hO1⟩ := net_dp d1F
        cases e
        obtain ⟨_, bf, bn, _, bo, _, e, ha2, hf2, hN2, _, _, hO2⟩ := net_dp d1S
        cases e
        obtain ⟨_, pxs, e, hpp, dpx⟩ := dp_lst d1P
        cases e
        refine ⟨pgl, _, _, y, rfl, rfl, SqL.of hgl13, atI_nat hy, ?_⟩
        -- clauses
        refine ⟨_, rfl, _, rfl, _, rfl, _, rfl, .ref fa, .ref fb, .ref pp, y, n, m, prs, wd, gk, rfl, dp_same s13 d1F, dp_same s13 d1S, .inl (dp_same s13 d1P), dy13, hwd, sn, sm, by omega, fun _ => ⟨ok1, ok2⟩, fun q => absurd sz q, fun _ e => absurd hal (by rw [e]; decide), fun _ _ e => absurd hgo (by rw [e]; decide), fun _ _ _ pc cxs H14 s14 npc hc dc => ?_⟩
        have B14 := s13.trans s14
        -- for bits
        refine ⟨_, rfl, _, rfl, fa, _, 1, _, rfl, rfl, Same.tup B14 ha1, atI_nat (j := 1) rfl, af, _, rfl, .inl (B14.seq hf1), _, _, rfl, rfl, _, rfl, fb, _, 1, _, rfl, rfl, Same.tup B14 ha2, atI_nat (j := 1) rfl, bf, _, rfl, .inl (B14.seq hf2), _, _, rfl, rfl, ?_⟩
        rw [List.length_map, List.length_map, ef1, ef2]
        refine ⟨ni + nf1 + nf2, congrArg (fun z => [V.int z]) (by omega), by omega, fun pt txs rows H15 s15 ht dt hrows hrl => ⟨pt, rfl, ⟨_, SqL.of ht⟩, ?_⟩⟩
        have B15 := B14.trans s15
        have dc15 := dps_same s15 dc
        have hc15 := s15 _ _ hc
        have k15 := (k13.same s14).same s15
        have dg15 := dp_same (s14.trans s15) dy13
        have hal' : ∀ r ∈ prs, okPr n m r := fun r hr => by
          have q := List.all_eq_true.mp hal r hr
          unfold okPrB at q
          simp only [Bool.and_eq_true, decide_eq_true_eq, Bool.or_eq_true] at q
          exact ⟨q.1.1.1.1, q.1.1.1.2, q.1.1.2, q.1.2, q.2⟩
        obtain ⟨gin1, gin2, gin3⟩ := goal_in sz ok1 ok2 hal hgo
        refine for_list (K := K) (a := pt) (xs := txs) (fun i σ H' => ∃ (t7 t8 t14 t15 t16 t17 t18 t19 t20 t21 t22 t23 t24 : Option V), σ = [some (.ref a), some (.ref dk), some (.int ni), some (.int no), some (.ref fa), some (.ref fb), some (.ref pp), t7, t8, some (.ref pgl), some y, o11, o12, some (.ref pc), t14, t15, t16, t17, t18, t19, t20, t21, t22, t23, t24, none, none, none, none, none] ∧ Same H15 H')
          ⟨o7, o8, none, none, none, none, none, none, none, none, none, none, none, rfl, Same.refl _⟩ ?_ ?_ ?_
        · rintro i σ H' _ ⟨_, _, _, _, _, _, _, _, _, _, _, _, _, _, sF⟩
          exact SqL.of (sF _ _ ht)
        · rintro i z σ H' hi ⟨t7, t8, t14, t15, t16, t17, t18, t19, t20, t21, t22, t23, t24, rfl, sF⟩
          obtain ⟨d, hdi, dz⟩ := dps_getv dt hi
          rw [List.getElem?_map] at hdi
          obtain ⟨r, hr', rfl⟩ := Option.map_eq_some_iff.mp hdi
          obtain ⟨hrl1, hrb⟩ := hrows r (List.mem_of_getElem? hr')
          obtain ⟨bz, rv, rfl, hbz, hrv⟩ := dp_tup (dp_same sF dz)
          cases dps_ints_of hrv
          have B16 := B15.trans sF
          -- one, two
          refine ⟨_, rfl, _, rfl, _, rfl, _, rfl, _, rfl, fa, _, 1, _, rfl, rfl, Same.tup B16 ha1, atI_nat (j := 1) rfl, af, _, rfl, .inl (B16.seq hf1), _, _, rfl, rfl, _, rfl, ?_⟩
          refine slA_new hbz fun b1 Ha sa hb1 => ?_
          have c1 : cutV (r.map V.int) (some (ni : Int)) (some ((ni : Int) + ((n.firsts.map V.int).length : Int))) = ((r.drop ni).take nf1).map V.int := by
            rw [List.length_map, ef1, show (ni : Int) + (nf1 : Int) = ((ni + nf1 : Nat) : Int) by omega, cut_mid (by omega) (by rw [List.length_map]; omega), List.map_take, List.map_drop, show ni + nf1 - ni = nf1 by omega]
          rw [c1] at hb1
          have Ba := B16.trans sa
          refine ⟨_, rfl, _, rfl, _, rfl, fa, _, 1, _, rfl, rfl, Same.tup Ba ha1, atI_nat (j := 1) rfl, af, _, rfl, .inl (Ba.seq hf1), _, _, rfl, rfl, _, rfl, ?_⟩
          unfold tNoPart
          refine slA_new (Same.tup sa hbz) fun b2 Hb sb hb2 => ?_
          have c2 : cutV (r.map V.int) (some ((ni : Int) + ((n.firsts.map V.int).length : Int))) none = (r.drop (ni + nf1)).map V.int := by
            rw [List.length_map, ef1, show (ni : Int) + (nf1 : Int) = ((ni + nf1 : Nat) : Int) by omega, cut_from (by rw [List.length_map]; omega), List.map_drop]
          rw [c2] at hb2
          have Bb := Ba.trans sb
          have hb1 := Same.tup sb hb1
          have sab := sa.trans sb
          have lfl : ((r.drop ni).take nf1).length = nf1 := by rw [List.length_take, List.length_drop]; omega
          have lgl : (r.drop (ni + nf1)).length = nf2 := by rw [List.length_drop]; omega
          have lin : (r.take ni).length = ni := by rw [List.length_take]; omega
          have bfl : Bits ((r.drop ni).take nf1) := Bits.of_all fun x hx => hrb x (List.mem_of_mem_drop (List.mem_of_mem_take hx))
          have bgl : Bits (r.drop (ni + nf1)) := Bits.of_all fun x hx => hrb x (List.mem_of_mem_drop hx)
          have bin : Bits (r.take ni) := Bits.of_all fun x hx => hrb x (List.mem_of_mem_take hx)
          generalize hflE : (r.drop ni).take nf1 = fl at hb1 lfl bfl
          generalize hglE : r.drop (ni + nf1) = gl at hb2 lgl bgl
          have R1 : Row n fl (r.take ni) := ⟨ok1, by omega, by omega, bin, bfl⟩
          have R2 : Row m gl (r.take ni) := ⟨ok2, by omega, by omega, bin, bgl⟩
          -- len([1 for p, q, turned in pairs if ..]) == 0
          refine ⟨_, rfl, pp, rfl, ⟨_, Bb.seq hpp⟩, fun D hD => ?_⟩
          refine lc_data (K := K) (a := pp) (xs := pxs) (ds := prs.map prD) (disB fl gl) (fun _ => .int 1) (Bb.seq hpp) (dps_same Bb dpx) hD (by rw [List.length_map]; omega) ?_ ?_
          · intro v d G acc RR dm hv2 sG hG ha2 hno hyes
            obtain ⟨r0, hr0, rfl⟩ := List.mem_map.mp dm
            obtain ⟨pa, rfl, hpa⟩ := pr_dp hv2
            obtain ⟨q0, q1, q2, q3, _⟩ := hal' r0 hr0
            have vG := same_new (o := HO.lst acc) hG
            refine ⟨pa, _, rfl, Same.tup vG hpa, rfl, ?_⟩
            refine ⟨_, _, rfl, _, _, rfl, _, _, rfl, rfl, rfl, ?_⟩
            have a1 : atI (fl.map V.int) r0.1 = some (.int (nth fl r0.1)) := nth_at (by unfold inR; rw [decide_eq_true q0, decide_eq_true (show r0.1 < (fl.length : Int) by omega)]; rfl)
            have a2 : atI (gl.map V.int) r0.2.1 = some (.int (nth gl r0.2.1)) := nth_at (by unfold inR; rw [decide_eq_true q2, decide_eq_true (show r0.2.1 < (gl.length : Int) by omega)]; rfl)
            refine ⟨_, rfl, _, rfl, b1, _, _, _, rfl, rfl, Same.tup (sG.trans vG) hb1, a1, _, rfl, _, rfl, b2, _, _, _, rfl, rfl, Same.tup (sG.trans vG) hb2, a2, _, _, rfl, rfl, _, rfl, rfl, _, rfl, ?_⟩
            have ex : Builtin.bitXor (nth fl r0.1) (nth gl r0.2.1) = xorB (fl.getD r0.1.toNat 0) (gl.getD r0.2.1.toNat 0) := bit_xor_ (bfl _) (bgl _)
            by_cases hd : xorB (fl.getD r0.1.toNat 0) (gl.getD r0.2.1.toNat 0) = r0.2.2
            · refine ifF (ne_int0 (ex.trans hd)) (hno ?_ G (Same.refl _) hG)
              exact decide_eq_false fun z => z hd
            · refine ifT (ne_int fun z => hd (ex.symm.trans z)) ⟨acc, upd_same, ha2, ?_⟩
              rw [upd_app]
              exact hyes (decide_eq_true hd) G _ (Same.refl _) hG (.int _)
          intro G ys sG hG hys
          have sD : Same Hb (upd G D (.lst ys)) := sG.trans (same_new hG)
          refine ⟨_, _, rfl, .inl (SqL.of upd_same), rfl, _, rfl, ?_⟩
          refine ite2 (fun he => ?_) (fun _ => ?_)
          · have hyl : ys.length = 0 := by
              have he2 := of_decide_eq_true he
              have := V.int.inj he2
              omega
            have hfil : (prs.map prD).filter (disB fl gl) = [] := by
              have q := dps_len hys
              rw [hyl, List.length_map] at q
              exact List.length_eq_zero_iff.mp q.symm
            have hag : ∀ r0 ∈ prs, xorB (fl.getD r0.1.toNat 0) (gl.getD r0.2.1.toNat 0) = r0.2.2 := fun r0 hr0 => by
              have q := List.filter_eq_nil_iff.mp hfil (prD r0) (List.mem_map_of_mem hr0)
              by_cases z : xorB (fl.getD r0.1.toNat 0) (gl.getD r0.2.1.toNat 0) = r0.2.2
              · exact z
              · exact absurd (decide_eq_true z) q
            generalize upd G D (.lst ys) = Hc at sD
            have Bc := Bb.trans sD
            have sAc := sab.trans sD
            have hbzc := Same.tup sAc hbz
            have c0 : cutV (r.map V.int) none (some (ni : Int)) = (r.take ni).map V.int := by rw [cut_to (by rw [List.length_map]; omega), List.map_take]
            -- left, right
            refine ⟨_, rfl, _, rfl, _, rfl, _, rfl, ?_⟩
            refine slA_new hbzc fun b3 Hd sd hb3 => ?_
            rw [c0] at hb3
            refine ⟨_, rfl, .ref fa, .ref b3, .ref b1, n, fl, r.take ni, rfl, dp_same (Bc.trans sd) d1F, .tup hb3 (dps_ints _), .tup (Same.tup (sD.trans sd) hb1) (dps_ints _), sn, R1, fun pL HL sL npL hL => ?_⟩
            have BL := (Bc.trans sd).trans sL
            refine ⟨_, rfl, _, rfl, _, rfl, _, rfl, ?_⟩
            refine slA_new (Same.tup (sd.trans sL) hbzc) fun b4 He se hb4 => ?_
            rw [c0] at hb4
            refine ⟨_, rfl, .ref fb, .ref b4, .ref b2, m, gl, r.take ni, rfl, dp_same (BL.trans se) d1S, .tup hb4 (dps_ints _), .tup (Same.tup ((sD.trans sd).trans (sL.trans se)) hb2) (dps_ints _), sm, R2, fun pR HR sR npR hR => ?_⟩
            have BR := (BL.trans se).trans sR
            have hL := (se.trans sR) _ _ hL
            have hag15 : Same H15 HR := (((sF.trans sAc).trans sd).trans sL).trans (se.trans sR)
            have wl1 := R1.len
            have wl2 := R2.len
            have hgR := dp_same hag15 dg15
            obtain ⟨gg, gs2, e, hgg, hgs⟩ := dp_tup hgR
            subst e
            cases hgs with
            | cons g0 hgs =>
              cases hgs with
              | cons g1 hgs =>
                cases hgs
                cases dp_str g0
                cases dp_int g1
                refine ⟨fun σ' H' => ∃ t7' t8' : Option V, σ' = [some (.ref a), some (.ref dk), some (.int ni), some (.int no), some (.ref fa), some (.ref fb), some (.ref pp), t7', t8', some (.ref pgl), some (.ref gg), o11, o12, some (.ref pc), some (.ref bz), some (.ref b1), some (.ref b2), some (.ref pL), some (.ref pR), some (.int (goalW n m prs wd gk).2.2), some (.int (nth (wv n fl (r.take ni)) (goalW n m prs wd gk).1)), some (.int (nth (wv m gl (r.take ni)) (goalW n m prs wd gk).2.1)), t22, t23, t24, none, none, none, none, none] ∧ H' = HR, ?_, ?_⟩
                · have j1 : inR (wv n fl (r.take ni)).length (goalW n m prs wd gk).1 = true := by rw [wl1]; exact gin1
                  have j2 : inR (wv m gl (r.take ni)).length (goalW n m prs wd gk).2.1 = true := by rw [wl2]; exact gin2
                  refine ⟨_, rfl, gg, _, 0, _, rfl, rfl, hgg, atI_nat (j := 0) rfl, rfl, _, rfl, ?_⟩
                  unfold goalW at j1 j2 ⊢
                  by_cases e : wd = "output"
                  · rw [if_pos e] at j1 j2 ⊢
                    have hgo' := hgo
                    unfold okGoal at hgo'
                    rw [if_pos e] at hgo'
                    have i1' : inR n.outs.length gk = true := hgo'
                    have i2' : inR m.outs.length gk = true := by rw [← sz.2]; exact i1'
                    refine ifF (by rw [e]; decide) ?_
                    refine ⟨_, rfl, _, rfl, fa, _, 4, _, rfl, rfl, Same.tup BR ha1, atI_nat (j := 4) rfl, _, rfl, gg, _, 1, _, rfl, rfl, hgg, atI_nat (j := 1) rfl, ao, _, _, _, rfl, rfl, BR.seq hO1, nth_at i1', pL, _, _, _, rfl, rfl, SqL.of hL, nth_at j1, ?_⟩
                    refine ⟨_, rfl, _, rfl, fb, _, 4, _, rfl, rfl, Same.tup BR ha2, atI_nat (j := 4) rfl, _, rfl, gg, _, 1, _, rfl, rfl, hgg, atI_nat (j := 1) rfl, bo, _, _, _, rfl, rfl, BR.seq hO2, nth_at i2', pR, _, _, _, rfl, rfl, SqL.of hR, nth_at j2, ?_⟩
                    exact ⟨_, _, _, rfl, _, _, rfl, rfl⟩
                  · rw [if_neg e] at j1 j2 ⊢
                    have hgo' := hgo
                    unfold okGoal at hgo'
                    rw [if_neg e] at hgo'
                    simp only [Bool.and_eq_true, decide_eq_true_eq] at hgo'
                    refine ifT (by rw [hgo'.1]; decide) ?_
                    have kl : gk.toNat < prs.length := by omega
                    have eg : prs.getD gk.toNat (0, 0, 0) = prs[gk.toNat] := by rw [List.getD_eq_getElem?_getD, List.getElem?_eq_getElem kl]; rfl
                    obtain ⟨y2, hy2, dy2⟩ := dps_get (i := gk.toNat) (d := prD prs[gk.toNat]) dpx (by rw [List.getElem?_map, List.getElem?_eq_getElem kl]; rfl)
                    obtain ⟨q0, q1, q2, q3, _⟩ := hal' _ (List.getElem_mem kl)
                    rw [eg] at j1 j2 ⊢
                    generalize prs[gk.toNat] = r0 at dy2 q0 q1 q2 q3 j1 j2
                    obtain ⟨pa, rfl, hpa⟩ := pr_dp (dp_same BR dy2)
                    have hat : atI pxs gk = some (.ref pa) := by
                      obtain ⟨kn, rfl⟩ := Int.eq_ofNat_of_zero_le hgo'.2.1
                      exact atI_nat hy2
                    refine ⟨_, rfl, _, rfl, gg, _, 1, _, rfl, rfl, hgg, atI_nat (j := 1) rfl, pp, _, _, _, rfl, rfl, BR.seq hpp, hat, pa, _, rfl, hpa, rfl, ?_⟩
                    refine ⟨_, _, rfl, _, _, rfl, _, _, rfl, rfl, ?_⟩
                    refine ⟨_, rfl, _, rfl, fa, _, 2, _, rfl, rfl, Same.tup BR ha1, atI_nat (j := 2) rfl, _, rfl, an, _, _, _, rfl, rfl, BR.seq hN1, nth_at (by unfold inR; rw [(okNet_parts ok1).2.2.1, decide_eq_true q0, decide_eq_true q1]; rfl), pL, _, _, _, rfl, rfl, SqL.of hL, nth_at j1, ?_⟩
                    refine ⟨_, rfl, _, rfl, fb, _, 2, _, rfl, rfl, Same.tup BR ha2, atI_nat (j := 2) rfl, _, rfl, bn, _, _, _, rfl, rfl, BR.seq hN2, nth_at (by unfold inR; rw [(okNet_parts ok2).2.2.1, decide_eq_true q2, decide_eq_true q3]; rfl), pR, _, _, _, rfl, rfl, SqL.of hR, nth_at j2, ?_⟩
                    exact ⟨_, _, rfl, _, _, rfl, rfl⟩
                · rintro σ' H' ⟨t7', t8', rfl, rfl⟩
                  have hxy : ∃ xy, xy = xorB (nth (wv n fl (r.take ni)) (goalW n m prs wd gk).1) (nth (wv m gl (r.take ni)) (goalW n m prs wd gk).2.1) := ⟨_, rfl⟩
                  obtain ⟨xy, hxy⟩ := hxy
                  have hsat := given_sat R1 R2 sz.1 hal' hag gin1 gin2 gin3 hxy
                  have hbds := given_bds R1 R2 sz.1 hal' gin1 gin2
                  have vlen := vals_len (xy := xy) R1 R2
                  have bx : Builtin.bitXor (nth (wv n fl (r.take ni)) (goalW n m prs wd gk).1) (nth (wv m gl (r.take ni)) (goalW n m prs wd gk).2.1) = xy := by rw [hxy]; exact bit_xor_ (R1.bits _) (R2.bits _)
                  have glen := given_len (g := goalW n m prs wd gk) sn sm (show prs.length ≤ 100 by omega)
                  generalize goalW n m prs wd gk = gw at hsat hbds bx glen dc15 gin3
                  generalize nth (wv n fl (r.take ni)) gw.1 = LX at bx
                  generalize nth (wv m gl (r.take ni)) gw.2.1 = LY at bx
                  have hval : valsC n m fl gl (r.take ni) xy = 0 :: (wv n fl (r.take ni) ++ (wv m gl (r.take ni)).drop (1 + ni) ++ [xy]) := by
                    unfold valsC
                    rw [show (1 + m.inp).toNat = 1 + ni by omega]
                  rw [hval] at hsat vlen
                  generalize wv n fl (r.take ni) = wL at hL wl1 hsat vlen
                  generalize wv m gl (r.take ni) = wR at hR wl2 hsat vlen
                  clear hval
                  have lL : wL.length ≤ 400 := by have := (wn_small sn).2; omega
                  have lR : wR.length ≤ 400 := by have := (wn_small sm).2; omega
                  have lR1 : 1 + ni ≤ wR.length := by unfold wn w0 at wl2; omega
                  -- values
                  refine ⟨(show 1 ≤ sizeLine by decide), fun q1 m1 => ?_⟩
                  have x1 := same_new (o := HO.lst [V.non]) m1
                  refine ⟨_, rfl, q1, pL, _, _, rfl, rfl, upd_same, x1 _ _ hL, size_of (by rw [List.length_map]; simp only [List.length_singleton]; omega), fun q2 m2 => ?_⟩
                  have x2 := same_new (o := HO.lst ([V.non] ++ wL.map V.int)) m2
                  refine ⟨_, rfl, _, rfl, _, _, rfl, rfl, _, rfl, pR, _, rfl, SqL.of ((x1.trans x2) _ _ hR), fun q3 m3 => ?_⟩
                  have c3 : cutV (wR.map V.int) (some (1 + (ni : Int))) none = (wR.drop (1 + ni)).map V.int := by
                    rw [show (1 : Int) + (ni : Int) = ((1 + ni : Nat) : Int) by omega, cut_from (by rw [List.length_map]; omega), List.map_drop]
                  rw [c3]
                  have x3 := same_new (o := HO.lst ((wR.drop (1 + ni)).map V.int)) m3
                  refine ⟨q2, q3, _, _, rfl, rfl, x3 _ _ upd_same, upd_same, size_of (by rw [List.length_append, List.length_map, List.length_map, List.length_drop]; simp only [List.length_singleton]; omega), fun q4 m4 => ?_⟩
                  have x4 := same_new (o := HO.lst ([V.non] ++ wL.map V.int ++ (wR.drop (1 + ni)).map V.int)) m4
                  refine ⟨_, rfl, _, rfl, _, _, rfl, rfl, (show 1 ≤ sizeLine by decide), fun q5 m5 => ?_⟩
                  have x5 := same_new (o := HO.lst [V.int (Builtin.bitXor LX LY)]) m5
                  refine ⟨q4, q5, _, _, rfl, rfl, x5 _ _ upd_same, upd_same, size_of (by rw [List.length_append, List.length_append, List.length_map, List.length_map, List.length_drop]; simp only [List.length_singleton]; omega), fun q6 m6 => ?_⟩
                  have x6 := same_new (o := HO.lst ([V.non] ++ wL.map V.int ++ (wR.drop (1 + ni)).map V.int ++ [V.int (Builtin.bitXor LX LY)])) m6
                  have x16 := ((((x1.trans x2).trans x3).trans x4).trans x5).trans x6
                  have ev : [V.non] ++ wL.map V.int ++ (wR.drop (1 + ni)).map V.int ++ [V.int (Builtin.bitXor LX LY)] = V.non :: (wL ++ wR.drop (1 + ni) ++ [xy]).map V.int := by
                    rw [bx, List.map_append, List.map_append]
                    rfl
                  rw [ev] at x6 x16 ⊢
                  have hq6 : upd (upd (upd (upd (upd (upd H' q1 (.lst [V.non])) q2 (.lst ([V.non] ++ wL.map V.int))) q3 (.lst ((wR.drop (1 + ni)).map V.int))) q4 (.lst ([V.non] ++ wL.map V.int ++ (wR.drop (1 + ni)).map V.int))) q5 (.lst [V.int (Builtin.bitXor LX LY)])) q6 (.lst (V.non :: (wL ++ wR.drop (1 + ni) ++ [xy]).map V.int)) q6 = some (.lst (V.non :: (wL ++ wR.drop (1 + ni) ++ [xy]).map V.int)) := upd_same
                  generalize upd (upd (upd (upd (upd (upd H' q1 (.lst [V.non])) q2 (.lst ([V.non] ++ wL.map V.int))) q3 (.lst ((wR.drop (1 + ni)).map V.int))) q4 (.lst ([V.non] ++ wL.map V.int ++ (wR.drop (1 + ni)).map V.int))) q5 (.lst [V.int (Builtin.bitXor LX LY)])) q6 (.lst (V.non :: (wL ++ wR.drop (1 + ni) ++ [xy]).map V.int)) = HV at x16 hq6 ⊢
                  clear x1 x2 x3 x4 x5 x6 m1 m2 m3 m4 m5 m6
                  generalize wL ++ wR.drop (1 + ni) ++ [xy] = rest at hq6 hsat vlen
                  have rlen : (rest.length : Int) = last n m := by
                    rw [List.length_cons] at vlen
                    omega
                  have sV := hag15.trans x16
                  -- good
                  refine ⟨Nat.zero_le _, fun pgd npgd => ?_⟩
                  have hcV : HV pc = some (.lst cxs) := sV _ _ hc15
                  have dcV := dps_same sV dc15
                  have cxl : cxs.length = (givenC n m prs gw).length := by rw [dps_len dcV, List.length_map]
                  refine ⟨_, rfl, pc, rfl, ⟨_, SqL.of (same_new npgd _ _ hcV)⟩, for_list (K := K) (a := pc) (xs := cxs) (fun i σ H2 => ∃ (t24' : Option V), σ = [some (.ref a), some (.ref dk), some (.int ni), some (.int no), some (.ref fa), some (.ref fb), some (.ref pp), t7', t8', some (.ref pgl), some (.ref gg), o11, o12, some (.ref pc), some (.ref bz), some (.ref b1), some (.ref b2), some (.ref pL), some (.ref pR), some (.int gw.2.2), some (.int LX), some (.int LY), some (.ref q6), some (.ref pgd), t24', none, none, none, none, none] ∧
                    Same HV H2 ∧ H2 pgd = some (.lst ((((givenC n m prs gw).take i).map (sat (0 :: rest))).map V.bl))) ⟨t24, rfl, same_new npgd, upd_same⟩ ?_ ?_ ?_⟩
                  · rintro i σ H2 _ ⟨_, _, s2, _⟩
                    exact SqL.of (s2 _ _ hcV)
                  · rintro i yc σ H2 hi2 ⟨t24', rfl, s2, hpg⟩
                    obtain ⟨d, hdi2, dyc⟩ := dps_getv dcV hi2
                    rw [List.getElem?_map] at hdi2
                    obtain ⟨cc, hcc, rfl⟩ := Option.map_eq_some_iff.mp hdi2
                    have hcm := List.mem_of_getElem? hcc
                    have il : i < (givenC n m prs gw).length := (List.getElem?_eq_some_iff.mp hcc).1
                    obtain ⟨cy, cv, rfl, hcy, hcv⟩ := dp_tup (dp_same s2 dyc)
                    cases dps_ints_of hcv
                    have ccl := given_cl cc hcm
                    have ocl := ordC_len cc
                    refine ⟨_, rfl, .inl ⟨rfl, _, SqL.of hpg⟩, _, rfl, cy, rfl, ⟨_, hcy⟩, fun D2 hD2 => ?_⟩
                    refine lc_dataT (K := K) (a := cy) (xs := (ordC cc).map V.int) (ds := intsD (ordC cc)) (truD (0 :: rest)) id hcy (dps_ints _) hD2 (by rw [ints_len]; omega) ?_ ?_
                    · intro v d G acc RR dm hv2 sG hG ha2 hno hyes
                      obtain ⟨x, hx, rfl⟩ := List.mem_map.mp dm
                      cases dp_int hv2
                      have hb := hbds cc hcm x (ordC_mem.mp hx)
                      rw [← rlen] at hb
                      refine ⟨rfl, _, rfl, _, rfl, _, rfl, q6, _, _, _, rfl, rfl, SqL.of (same_new hG _ _ ((s2.trans sG) _ _ hq6)), vals_at hb, _, rfl, _, _, rfl, rfl, .inr ⟨_, rfl, rfl, _, rfl, ?_⟩⟩
                      by_cases hT : tru (0 :: rest) x = true
                      · refine ifT (tru_test.trans hT) ⟨_, rfl, acc, upd_same, ha2, ?_⟩
                        rw [upd_app]
                        exact hyes hT G _ (Same.refl _) hG (.int _)
                      · have hT := Bool.eq_false_iff.mpr hT
                        exact ifF (tru_test.trans hT) (hno hT G (Same.refl _) hG)
                    · intro G ys sG hG hys
                      have ylen := dps_len hys
                      have hpg2 := (sG.trans (same_new (o := HO.lst ys) hG)) _ _ hpg
                      refine ⟨D2, _, rfl, .inl (SqL.of upd_same), _, _, rfl, rfl, _, _, _, rfl, rfl, hpg2, size_lt (by rw [List.length_map, List.length_map, List.length_take]; omega), _, rfl, same_mut ((s2.trans sG).trans (same_new hG)) npgd, ?_⟩
                      rw [upd_same, take_snoc hcc, List.map_append, List.map_append, ylen]
                      have q := tru_len (vs := 0 :: rest) (c := ordC cc)
                      rw [sat_ord] at q
                      exact congrArg (fun b => some (HO.lst (((((givenC n m prs gw).take i).map (sat (0 :: rest))).map V.bl) ++ [V.bl b]))) q
                  · rintro σ H2 ⟨t24', rfl, s2, hpg⟩
                    rw [cxl, List.take_length, hsat, List.map_append] at hpg
                    change H2 pgd = some (.lst ((List.replicate ((headC n m prs).length + 4) true).map V.bl ++ [V.bl (decide (xy ≠ gw.2.2))])) at hpg
                    refine ⟨_, rfl, _, rfl, _, rfl, pgd, _, rfl, SqL.of hpg, fun q7 m7 => ?_⟩
                    have x7 := same_new (o := HO.lst (cutV ((List.replicate ((headC n m prs).length + 4) true).map V.bl ++ [V.bl (decide (xy ≠ gw.2.2))]) none (some (-1)))) m7
                    have hpg7 := x7 _ _ hpg
                    refine ⟨.bool false, (List.replicate ((headC n m prs).length + 4) true).map PyData.bool, .bl false, .lst (SqL.of upd_same) (by rw [cut_init]; exact dps_bools _), rfl, bools_shaped _, _, rfl, ?_⟩
                    refine ifF (no_false _) ?_
                    refine ⟨_, rfl, _, rfl, pgd, _, -1, _, rfl, rfl, SqL.of hpg7, atI_last _ _, _, rfl, _, rfl, _, _, rfl, rfl, _, rfl, rfl, rfl, _, rfl, ?_⟩
                    have hbf : (!decide (V.bl (decide (xy ≠ gw.2.2)) = V.bl (!decide (V.int (Builtin.bitXor LX LY) = V.int gw.2.2)))) = false := by
                      rw [bx]
                      by_cases z : xy = gw.2.2 <;> simp [z]
                    exact ifF hbf ⟨_, _, _, _, _, _, _, _, _, _, _, _, _, rfl, sV.trans (s2.trans x7)⟩
          · exact ⟨_, _, _, _, _, _, _, _, _, _, _, _, _, rfl, (sF.trans sab).trans sD⟩
        · rintro σ H16 ⟨t7, t8, t14, t15, t16, t17, t18, t19, t20, t21, t22, t23, t24, rfl, w16⟩
          have B16 := B15.trans w16
          have hx16 := B16 _ _ hx10
          have ho16 := B16 _ _ ho10
          have dg16 := dp_same w16 dg15
          obtain ⟨_, xs5, e, hx5, hxs5⟩ := dp_tup d1F
          cases e
          obtain ⟨v0, v1, v2, v3, v4, rfl, e0, e1, e2, e3, e4⟩ := dps5 hxs5
          cases dp_int e0
          have hx5' := Same.tup B16 hx5
          -- wide
          refine ⟨_, rfl, fa, _, 0, _, rfl, rfl, hx5', atI_nat (j := 0) rfl, _, _, rfl, rfl, (show 1 ≤ sizeLine by decide), fun l1 n1 => ?_⟩
          have x1 := same_new (o := HO.tup [V.int (n.inp + 1)]) n1
          refine ⟨_, rfl, 1, rfl, ?_⟩
          unfold tNoPart
          refine slA_new (Same.tup x1 hx5') fun l2 J2 x2 hl2 => ?_
          rw [cut_tail] at hl2
          refine catD (ds := [.int (n.inp + 1)]) (es := [.list (intsD n.firsts), .list (intsD n.nexts), .list (n.gates.map gateD), .list (intsD n.outs)]) (.tup (SqT.of (x2 _ _ upd_same)) (.cons (.int _) .nil))
            (.tup hl2 (dps_same ((B16.trans x1).trans x2) (.cons e1 (.cons e2 (.cons e3 (.cons e4 .nil)))))) (show 1 + 4 ≤ 100000 by decide) fun zw J3 x3 dzw => ?_
          have X3 := (x1.trans x2).trans x3
          have dzw : Dp K J3 zw (netD { n with inp := n.inp + 1 }) := dzw
          -- short
          refine ⟨_, rfl, 4, rfl, ?_⟩
          refine slA_new (Same.tup X3 hx5') fun l3 J4 x4 hl3 => ?_
          have c4 : cutV [V.int n.inp, v1, v2, v3, v4] none (some 4) = [V.int n.inp, v1, v2, v3] := (cut_to (xs := [V.int n.inp, v1, v2, v3, v4]) (i := 4) (show 4 ≤ 5 by decide)).trans rfl
          rw [c4] at hl3
          have X4 := X3.trans x4
          refine ⟨_, rfl, fa, _, 4, _, rfl, rfl, SqT.of (X4 _ _ hx16), atI_nat (j := 4) rfl, (show 1 ≤ sizeLine by decide), fun l4 n4 => ?_⟩
          have x5 := same_new (o := HO.lst [V.int 0]) n4
          refine ⟨xo, l4, _, _, rfl, rfl, (X4.trans x5) _ _ ho16, upd_same, size_of (by rw [List.length_map]; simp only [List.length_singleton]; omega), fun l5 n5 => ⟨(show 1 ≤ sizeLine by decide), fun l6 n6 => ?_⟩⟩
          have x6 := same_new (o := HO.lst (n.outs.map V.int ++ [V.int 0])) n5
          have x7 := same_new (o := HO.tup [V.ref l5]) n6
          have x47 := (x5.trans x6).trans x7
          have dl5 : ∀ {Hx : Hp}, Hx l5 = some (.lst (n.outs.map V.int ++ [V.int 0])) → Dp K Hx (.ref l5) (.list (intsD (n.outs ++ [0]))) := fun h => .lst (SqL.of (xs := (n.outs ++ [0]).map V.int) (by rw [List.map_append]; exact h)) (dps_ints _)
          refine catD (ds := [.int n.inp, .list (intsD n.firsts), .list (intsD n.nexts), .list (n.gates.map gateD)]) (es := [.list (intsD (n.outs ++ [0]))]) (.tup (Same.tup x47 hl3) (dps_same ((B16.trans X4).trans x47) (.cons (.int _) (.cons e1 (.cons e2 (.cons e3 .nil))))))
            (.tup (SqT.of upd_same) (.cons (dl5 (x7 _ _ upd_same)) .nil)) (show 4 + 1 ≤ 100000 by decide) fun zs J5 x8 dzs => ?_
          have dzs : Dp K J5 zs (netD { n with outs := n.outs ++ [0] }) := dzs
          have X5 := (X4.trans x47).trans x8
          have dzw5 := dp_same ((x4.trans x47).trans x8) dzw
          have B5 := B16.trans X5
          have dg5 := dp_same X5 dg16
          have sw : Small { n with inp := n.inp + 1 } := ⟨by show 0 ≤ n.inp + 1; omega, by show n.inp + 1 ≤ 100; omega, sn.2.2⟩
          have ss : Small { n with outs := n.outs ++ [0] } := ⟨sn.1, sn.2.1, sn.2.2.1, sn.2.2.2.1, sn.2.2.2.2.1, by show (n.outs ++ [0]).length ≤ 100; rw [List.length_append, List.length_singleton]; omega⟩
          have nw : ¬ sameSz n { n with inp := n.inp + 1 } := fun z => by
            have z1 : n.inp = n.inp + 1 := z.1
            omega
          have nss : ¬ sameSz n { n with outs := n.outs ++ [0] } := fun z => by
            have z2 : n.outs.length = (n.outs ++ [0]).length := z.2
            rw [List.length_append, List.length_singleton] at z2
            omega
          -- answers
          refine ⟨_, rfl, _, rfl, Nat.zero_le _, fun a1 m1 => ?_⟩
          have y1 := same_new (o := HO.lst []) m1
          refine ⟨_, rfl, ?_⟩
          refine ⟨.ref fa, zw, .ref a1, y, rfl, .inl ⟨fun Q' E' r => ?_, fun r1 G1 g1 dr1 => ?_⟩⟩
          · exact ⟨.ref fa, zw, .ref a1, y, n, { n with inp := n.inp + 1 }, [], wd, gk, rfl, dp_same (B5.trans y1) d1F, (dp_same y1 dzw5), (.inl (.lst (SqL.of upd_same) .nil)), dp_same y1 dg5, hwd, sn, sw, Nat.zero_le _, fun z => absurd z nw, fun _ => r, fun z => absurd z nw, fun z => absurd z nw, fun z => absurd z nw⟩
          refine ⟨_, rfl, _, rfl, Nat.zero_le _, fun a2 m2 => ?_⟩
          have y2 := same_new (o := HO.lst []) m2
          refine ⟨_, rfl, ?_⟩
          refine ⟨.ref fa, zs, .ref a2, y, rfl, .inl ⟨fun Q' E' r => ?_, fun r2 G2 g2 dr2 => ?_⟩⟩
          · exact ⟨.ref fa, zs, .ref a2, y, n, { n with outs := n.outs ++ [0] }, [], wd, gk, rfl, dp_same (B5.trans ((y1.trans g1).trans y2)) d1F, (dp_same ((y1.trans g1).trans y2) dzs), (.inl (.lst (SqL.of upd_same) .nil)), dp_same ((y1.trans g1).trans y2) dg5, hwd, sn, ss, Nat.zero_le _, fun z => absurd z nss, fun _ => r, fun z => absurd z nss, fun z => absurd z nss, fun z => absurd z nss⟩
          refine ⟨_, rfl, _, rfl, Nat.zero_le _, fun a3 m3 => ?_⟩
          have y3 := same_new (o := HO.lst []) m3
          refine ⟨_, rfl, (show 2 ≤ sizeLine by decide), fun t3 nt3 => ?_⟩
          have yt3 := same_new (o := HO.tup [V.str "output", V.int (no : Int)]) nt3
          have bad3 : okGoal n [] "output" ((no : Int)) = false := by unfold okGoal; rw [if_pos rfl, decide_eq_false (show ¬ (no : Int) < (n.outs.length : Int) by omega), Bool.and_false]
          refine ⟨.ref fa, .ref fb, .ref a3, .ref t3, rfl, .inr ⟨fun Q' E' r => ?_, fun r3 G3 g3 dr3 => ?_⟩⟩
          · exact ⟨.ref fa, .ref fb, .ref a3, .ref t3, n, m, [], "output", (no : Int), rfl, dp_same (B5.trans (((((y1.trans g1).trans y2).trans g2).trans y3).trans yt3)) d1F, (dp_same (B5.trans (((((y1.trans g1).trans y2).trans g2).trans y3).trans yt3)) d1S), (.inl (.lst (SqL.of (yt3 _ _ upd_same)) .nil)), (.tup (SqT.of upd_same) (.cons (.str _) (.cons (.int _) .nil))), (by decide +kernel), sn, sm, Nat.zero_le _, fun _ => ⟨ok1, ok2⟩, fun z => absurd sz z, fun _ e => absurd e (show ¬ (true = false) by decide), fun _ _ _ => r, fun _ _ e => absurd e (by rw [bad3]; decide)⟩
          refine ⟨(show 3 ≤ sizeLine by decide), fun la nla => ?_⟩
          have zla := same_new (o := HO.lst [r1, r2, r3]) nla
          have dla : DpAll K _ [r1, r2, r3] [.tuple [.str "net", .str "sizes"], .tuple [.str "net", .str "sizes"], .tuple [.str "proof", .str "goal"]] := (.cons (dp_same (((((y2.trans g2).trans y3).trans yt3).trans g3).trans zla) dr1) (.cons (dp_same (((y3.trans yt3).trans g3).trans zla) dr2) (.cons (dp_same zla dr3) .nil)))
          refine ⟨_, rfl, ?_⟩
          refine ⟨_, rfl, _, rfl, Nat.zero_le _, fun a4 m4 => ?_⟩
          have y4 := same_new (o := HO.lst []) m4
          refine ⟨(show 2 ≤ sizeLine by decide), fun t4 nt4 => ?_⟩
          have yt4 := same_new (o := HO.tup [V.str "pair", V.int 0]) nt4
          have bad4 : okGoal n [] "pair" (0) = false := by unfold okGoal; rw [if_neg (show ("pair" : Str) ≠ "output" by decide +kernel)]; simp
          refine ⟨.ref fa, .ref fb, .ref a4, .ref t4, rfl, .inr ⟨fun Q' E' r => ?_, fun r4 G4 g4 dr4 => ?_⟩⟩
          · exact ⟨.ref fa, .ref fb, .ref a4, .ref t4, n, m, [], "pair", 0, rfl, dp_same (B5.trans (((((((((y1.trans g1).trans y2).trans g2).trans y3).trans yt3).trans g3).trans zla).trans y4).trans yt4)) d1F, (dp_same (B5.trans (((((((((y1.trans g1).trans y2).trans g2).trans y3).trans yt3).trans g3).trans zla).trans y4).trans yt4)) d1S), (.inl (.lst (SqL.of (yt4 _ _ upd_same)) .nil)), (.tup (SqT.of upd_same) (.cons (.str _) (.cons (.int _) .nil))), (by decide +kernel), sn, sm, Nat.zero_le _, fun _ => ⟨ok1, ok2⟩, fun z => absurd sz z, fun _ e => absurd e (show ¬ (true = false) by decide), fun _ _ _ => r, fun _ _ e => absurd e (by rw [bad4]; decide)⟩
          have badP : ([(((n.firsts.map V.int).length : Int), 0, 0)] : List Pr).all (okPrB n m) = false := by
            rw [List.all_cons, List.length_map]
            unfold okPrB
            rw [decide_eq_false (show ¬ (n.firsts.length : Int) < (n.firsts.length : Int) by omega)]
            simp
          refine ⟨_, rfl, _, rfl, _, rfl, fa, _, 1, _, rfl, rfl, Same.tup (B5.trans ((((((((((y1.trans g1).trans y2).trans g2).trans y3).trans yt3).trans g3).trans zla).trans y4).trans yt4).trans g4)) ha1, atI_nat (j := 1) rfl, af, _, rfl, .inl ((B5.trans ((((((((((y1.trans g1).trans y2).trans g2).trans y3).trans yt3).trans g3).trans zla).trans y4).trans yt4).trans g4)).seq hf1), (show 3 ≤ sizeLine by decide), fun tq5 nq5 => ⟨(show 1 ≤ sizeLine by decide), fun a5 m5 => ?_⟩⟩
          have yq5 := same_new (o := HO.tup [V.int ((n.firsts.map V.int).length : Nat), V.int 0, V.int 0]) nq5
          have y5 := same_new (o := HO.lst [V.ref tq5]) m5
          refine ⟨(show 2 ≤ sizeLine by decide), fun t5 nt5 => ?_⟩
          have yt5 := same_new (o := HO.tup [V.str "output", V.int 0]) nt5
          refine ⟨.ref fa, .ref fb, .ref a5, .ref t5, rfl, .inr ⟨fun Q' E' r => ?_, fun r5 G5 g5 dr5 => ?_⟩⟩
          · exact ⟨.ref fa, .ref fb, .ref a5, .ref t5, n, m, [(((n.firsts.map V.int).length : Int), 0, 0)], "output", 0, rfl, dp_same (B5.trans (((((((((((((y1.trans g1).trans y2).trans g2).trans y3).trans yt3).trans g3).trans zla).trans y4).trans yt4).trans g4).trans yq5).trans y5).trans yt5)) d1F, (dp_same (B5.trans (((((((((((((y1.trans g1).trans y2).trans g2).trans y3).trans yt3).trans g3).trans zla).trans y4).trans yt4).trans g4).trans yq5).trans y5).trans yt5)) d1S), (.inl (.lst (SqL.of (yt5 _ _ upd_same)) (.cons (.tup (SqT.of ((y5.trans yt5) _ _ upd_same)) (.cons (.int _) (.cons (.int _) (.cons (.int _) .nil)))) .nil))), (.tup (SqT.of upd_same) (.cons (.str _) (.cons (.int _) .nil))), (by decide +kernel), sn, sm, (show 1 ≤ 100 by decide), fun _ => ⟨ok1, ok2⟩, fun z => absurd sz z, fun _ _ => r, fun _ e => absurd e (by rw [badP]; decide), fun _ e => absurd e (by rw [badP]; decide)⟩
          refine ⟨(show 2 ≤ sizeLine by decide), fun lb nlb => ?_⟩
          have zlb := same_new (o := HO.lst [r4, r5]) nlb
          have dlb : DpAll K _ [r4, r5] [.tuple [.str "proof", .str "goal"], .tuple [.str "proof", .str "goal"]] := (.cons (dp_same ((((yq5.trans y5).trans yt5).trans g5).trans zlb) dr4) (.cons (dp_same zlb dr5) .nil))
          refine catL ((((((((y4.trans yt4).trans g4).trans yq5).trans y5).trans yt5).trans g5).trans zlb) _ _ upd_same) upd_same (dps_same (((((((y4.trans yt4).trans g4).trans yq5).trans y5).trans yt5).trans g5).trans zlb) dla) dlb (show 3 + 2 ≤ 100000 by decide) fun lc nlc dlc => ?_
          have zlc := same_new (o := HO.lst ([r1, r2, r3] ++ [r4, r5])) nlc
          refine ⟨_, rfl, ?_⟩
          refine ⟨_, rfl, _, rfl, Nat.zero_le _, fun a6 m6 => ?_⟩
          have y6 := same_new (o := HO.lst []) m6
          refine ⟨(show 2 ≤ sizeLine by decide), fun t6 nt6 => ?_⟩
          have yt6 := same_new (o := HO.tup [V.str "gate", V.int 0]) nt6
          have bad6 : okGoal n [] "gate" (0) = false := by unfold okGoal; rw [if_neg (show ("gate" : Str) ≠ "output" by decide +kernel), decide_eq_false (show ("gate" : Str) ≠ "pair" by decide +kernel), Bool.false_and]
          refine ⟨.ref fa, .ref fb, .ref a6, .ref t6, rfl, .inr ⟨fun Q' E' r => ?_, fun r6 G6 g6 dr6 => ?_⟩⟩
          · exact ⟨.ref fa, .ref fb, .ref a6, .ref t6, n, m, [], "gate", 0, rfl, dp_same (B5.trans ((((((((((((((((((y1.trans g1).trans y2).trans g2).trans y3).trans yt3).trans g3).trans zla).trans y4).trans yt4).trans g4).trans yq5).trans y5).trans yt5).trans g5).trans zlb).trans zlc).trans y6).trans yt6)) d1F, (dp_same (B5.trans ((((((((((((((((((y1.trans g1).trans y2).trans g2).trans y3).trans yt3).trans g3).trans zla).trans y4).trans yt4).trans g4).trans yq5).trans y5).trans yt5).trans g5).trans zlb).trans zlc).trans y6).trans yt6)) d1S), (.inl (.lst (SqL.of (yt6 _ _ upd_same)) .nil)), (.tup (SqT.of upd_same) (.cons (.str _) (.cons (.int _) .nil))), (by decide +kernel), sn, sm, Nat.zero_le _, fun _ => ⟨ok1, ok2⟩, fun z => absurd sz z, fun _ e => absurd e (show ¬ (true = false) by decide), fun _ _ _ => r, fun _ _ e => absurd e (by rw [bad6]; decide)⟩
          refine ⟨_, rfl, _, rfl, Nat.zero_le _, fun a7 m7 => ?_⟩
          have y7 := same_new (o := HO.lst []) m7
          refine ⟨_, rfl, (show 2 ≤ sizeLine by decide), fun t7 nt7 => ?_⟩
          have yt7 := same_new (o := HO.tup [V.str "output", V.int (-1)]) nt7
          have bad7 : okGoal n [] "output" ((-1)) = false := by unfold okGoal; rw [if_pos rfl, decide_eq_false (show ¬ (0 : Int) ≤ -1 by decide), Bool.false_and]
          refine ⟨.ref fa, .ref fb, .ref a7, .ref t7, rfl, .inr ⟨fun Q' E' r => ?_, fun r7 G7 g7 dr7 => ?_⟩⟩
          · exact ⟨.ref fa, .ref fb, .ref a7, .ref t7, n, m, [], "output", (-1), rfl, dp_same (B5.trans (((((((((((((((((((((y1.trans g1).trans y2).trans g2).trans y3).trans yt3).trans g3).trans zla).trans y4).trans yt4).trans g4).trans yq5).trans y5).trans yt5).trans g5).trans zlb).trans zlc).trans y6).trans yt6).trans g6).trans y7).trans yt7)) d1F, (dp_same (B5.trans (((((((((((((((((((((y1.trans g1).trans y2).trans g2).trans y3).trans yt3).trans g3).trans zla).trans y4).trans yt4).trans g4).trans yq5).trans y5).trans yt5).trans g5).trans zlb).trans zlc).trans y6).trans yt6).trans g6).trans y7).trans yt7)) d1S), (.inl (.lst (SqL.of (yt7 _ _ upd_same)) .nil)), (.tup (SqT.of upd_same) (.cons (.str _) (.cons (.int _) .nil))), (by decide +kernel), sn, sm, Nat.zero_le _, fun _ => ⟨ok1, ok2⟩, fun z => absurd sz z, fun _ e => absurd e (show ¬ (true = false) by decide), fun _ _ _ => r, fun _ _ e => absurd e (by rw [bad7]; decide)⟩
          refine ⟨(show 2 ≤ sizeLine by decide), fun ld nld => ?_⟩
          have zld := same_new (o := HO.lst [r6, r7]) nld
          have dld : DpAll K _ [r6, r7] [.tuple [.str "proof", .str "goal"], .tuple [.str "proof", .str "goal"]] := (.cons (dp_same (((y7.trans yt7).trans g7).trans zld) dr6) (.cons (dp_same zld dr7) .nil))
          refine catL (((((((y6.trans yt6).trans g6).trans y7).trans yt7).trans g7).trans zld) _ _ upd_same) upd_same (dps_same ((((((y6.trans yt6).trans g6).trans y7).trans yt7).trans g7).trans zld) dlc) dld (show 5 + 2 ≤ 100000 by decide) fun le nle dle => ?_
          refine ⟨_, rfl, (show 2 ≤ sizeLine by decide), fun e1 w1 => ⟨(show 1 ≤ sizeLine by decide), fun e2 w2 => ⟨e2, 2, _, rfl, rfl, upd_same, by decide, by decide, (show 1 * 2 ≤ sizeLine by decide), fun e3 w3 => ?_⟩⟩⟩
          have v1 := same_new (o := HO.tup [V.str "net", V.str "sizes"]) w1
          have v2 := same_new (o := HO.lst [V.ref e1]) w2
          have v3 := same_new (o := HO.lst (List.replicate (Int.toNat 2) [V.ref e1]).flatten) w3
          refine ⟨(show 2 ≤ sizeLine by decide), fun e4 w4 => ⟨(show 1 ≤ sizeLine by decide), fun e5 w5 => ⟨e5, 5, _, rfl, rfl, upd_same, by decide, by decide, (show 1 * 5 ≤ sizeLine by decide), fun e6 w6 => ?_⟩⟩⟩
          have v4 := same_new (o := HO.tup [V.str "proof", V.str "goal"]) w4
          have v5 := same_new (o := HO.lst [V.ref e4]) w5
          have v6 := same_new (o := HO.lst (List.replicate (Int.toNat 5) [V.ref e4]).flatten) w6
          have v46 := (v4.trans v5).trans v6
          refine ⟨e3, e6, _, _, rfl, rfl, v46 _ _ upd_same, upd_same, (show 2 + 5 ≤ sizeLine by decide), fun e7 w7 => ?_⟩
          have v7 := same_new (o := HO.lst ((List.replicate (Int.toNat 2) [V.ref e1]).flatten ++ (List.replicate (Int.toNat 5) [V.ref e4]).flatten)) w7
          have v17 := (((v1.trans v2).trans v3).trans v46).trans v7
          have h1 := (((v2.trans v3).trans v46).trans v7) _ _ (upd_same (a := e1) (o := HO.tup [V.str "net", V.str "sizes"]))
          have h4 := ((v5.trans v6).trans v7) _ _ (upd_same (a := e4) (o := HO.tup [V.str "proof", V.str "goal"]))
          have d1 : Dp K _ (.ref e1) (.tuple [.str "net", .str "sizes"]) := .tup (SqT.of h1) (.cons (.str _) (.cons (.str _) .nil))
          have d4 : Dp K _ (.ref e4) (.tuple [.str "proof", .str "goal"]) := .tup (SqT.of h4) (.cons (.str _) (.cons (.str _) .nil))
          refine ⟨.list [.tuple [.str "net", .str "sizes"], .tuple [.str "net", .str "sizes"], .tuple [.str "proof", .str "goal"], .tuple [.str "proof", .str "goal"], .tuple [.str "proof", .str "goal"], .tuple [.str "proof", .str "goal"], .tuple [.str "proof", .str "goal"]], .list [.tuple [.str "net", .str "sizes"], .tuple [.str "net", .str "sizes"], .tuple [.str "proof", .str "goal"], .tuple [.str "proof", .str "goal"], .tuple [.str "proof", .str "goal"], .tuple [.str "proof", .str "goal"], .tuple [.str "proof", .str "goal"]], .lst (SqL.of (v17 _ _ upd_same)) (dps_same v17 dle), .lst (SqL.of upd_same) (.cons d1 (.cons d1 (.cons d4 (.cons d4 (.cons d4 (.cons d4 (.cons d4 .nil))))))), by decide +kernel, by decide +kernel, ?_⟩
          rw [SeqAt.eqv_refl _ (SeqAt.canLay_of_shaped (by decide +kernel))]
          exact k _
end
end Q41



namespace Q41
open PySem L2 G M03 M41 NdefX
open C8 (Cal Met Mak pe_c pe_mk pe_mt pe_mt0 pe_gc pss_cut tCut)
/-! ### what the top has written, the head -/
theorem all_mk {l : PySem.W.OpenLaw} {w : World} {K : PySem.W.Frag} {h : Heap} {mg : Str → Option Value} {fa f__law_deck f__law_take f__law_plain f_check_sizes f_put_in_order f_wires_of f_first_names f_second_names f_last_name f_xor_clauses f_gate_clauses f_pair_clauses f_check_pairs f_goal_wires f_given_clauses f__law_spoil f__law_net f__law_wires f__law_tuples f__law_clause f__law_given f__law_why f_law C_InvalidNet f_InvalidNet cc_InvalidNet cda_InvalidNet C_InvalidProof f_InvalidProof cc_InvalidProof cda_InvalidProof C_GateError : Addr} (X : K.In h) (G : h.Ns mainGlobals mg) (hfa : mg "law" = some (.ref fa))
    {od__law_deck an__law_deck : Option Addr} {sl__law_deck : Array (Option Value)} {oc__law_deck kV__law_deck dc__law_deck pm__law_deck cd__law_deck ct__law_deck : Value}
    {od__law_take an__law_take : Option Addr} {sl__law_take : Array (Option Value)} {oc__law_take kV__law_take dc__law_take pm__law_take cd__law_take ct__law_take : Value}
    {od__law_plain an__law_plain : Option Addr} {sl__law_plain : Array (Option Value)} {oc__law_plain kV__law_plain dc__law_plain pm__law_plain cd__law_plain ct__law_plain : Value}
    {od_check_sizes an_check_sizes : Option Addr} {sl_check_sizes : Array (Option Value)} {oc_check_sizes kV_check_sizes dc_check_sizes pm_check_sizes cd_check_sizes ct_check_sizes : Value}
    {od_put_in_order an_put_in_order : Option Addr} {sl_put_in_order : Array (Option Value)} {oc_put_in_order kV_put_in_order dc_put_in_order pm_put_in_order cd_put_in_order ct_put_in_order : Value}
    {od_wires_of an_wires_of : Option Addr} {sl_wires_of : Array (Option Value)} {oc_wires_of kV_wires_of dc_wires_of pm_wires_of cd_wires_of ct_wires_of : Value}
    {od_first_names an_first_names : Option Addr} {sl_first_names : Array (Option Value)} {oc_first_names kV_first_names dc_first_names pm_first_names cd_first_names ct_first_names : Value}
    {od_second_names an_second_names : Option Addr} {sl_second_names : Array (Option Value)} {oc_second_names kV_second_names dc_second_names pm_second_names cd_second_names ct_second_names : Value}
    {od_last_name an_last_name : Option Addr} {sl_last_name : Array (Option Value)} {oc_last_name kV_last_name dc_last_name pm_last_name cd_last_name ct_last_name : Value}
    {od_xor_clauses an_xor_clauses : Option Addr} {sl_xor_clauses : Array (Option Value)} {oc_xor_clauses kV_xor_clauses dc_xor_clauses pm_xor_clauses cd_xor_clauses ct_xor_clauses : Value}
    {od_gate_clauses an_gate_clauses : Option Addr} {sl_gate_clauses : Array (Option Value)} {oc_gate_clauses kV_gate_clauses dc_gate_clauses pm_gate_clauses cd_gate_clauses ct_gate_clauses : Value}
    {od_pair_clauses an_pair_clauses : Option Addr} {sl_pair_clauses : Array (Option Value)} {oc_pair_clauses kV_pair_clauses dc_pair_clauses pm_pair_clauses cd_pair_clauses ct_pair_clauses : Value}
    {od_check_pairs an_check_pairs : Option Addr} {sl_check_pairs : Array (Option Value)} {oc_check_pairs kV_check_pairs dc_check_pairs pm_check_pairs cd_check_pairs ct_check_pairs : Value}
    {od_goal_wires an_goal_wires : Option Addr} {sl_goal_wires : Array (Option Value)} {oc_goal_wires kV_goal_wires dc_goal_wires pm_goal_wires cd_goal_wires ct_goal_wires : Value}
    {od_given_clauses an_given_clauses : Option Addr} {sl_given_clauses : Array (Option Value)} {oc_given_clauses kV_given_clauses dc_given_clauses pm_given_clauses cd_given_clauses ct_given_clauses : Value}
    {od__law_spoil an__law_spoil : Option Addr} {sl__law_spoil : Array (Option Value)} {oc__law_spoil kV__law_spoil dc__law_spoil pm__law_spoil cd__law_spoil ct__law_spoil : Value}
    {od__law_net an__law_net : Option Addr} {sl__law_net : Array (Option Value)} {oc__law_net kV__law_net dc__law_net pm__law_net cd__law_net ct__law_net : Value}
    {od__law_wires an__law_wires : Option Addr} {sl__law_wires : Array (Option Value)} {oc__law_wires kV__law_wires dc__law_wires pm__law_wires cd__law_wires ct__law_wires : Value}
    {od__law_tuples an__law_tuples : Option Addr} {sl__law_tuples : Array (Option Value)} {oc__law_tuples kV__law_tuples dc__law_tuples pm__law_tuples cd__law_tuples ct__law_tuples : Value}
    {od__law_clause an__law_clause : Option Addr} {sl__law_clause : Array (Option Value)} {oc__law_clause kV__law_clause dc__law_clause pm__law_clause cd__law_clause ct__law_clause : Value}
    {od__law_given an__law_given : Option Addr} {sl__law_given : Array (Option Value)} {oc__law_given kV__law_given dc__law_given pm__law_given cd__law_given ct__law_given : Value}
    {od__law_why an__law_why : Option Addr} {sl__law_why : Array (Option Value)} {oc__law_why kV__law_why dc__law_why pm__law_why cd__law_why ct__law_why : Value}
    {od_law an_law : Option Addr} {sl_law : Array (Option Value)} {oc_law kV_law dc_law pm_law cd_law ct_law : Value}
    {nm_InvalidNet qu_InvalidNet : Str} {N_InvalidNet : Addr} {bs_InvalidNet bm_InvalidNet : List Value} {sn_InvalidNet : List Str} {sub_InvalidNet : List Value} {ab_InvalidNet : Bool} {col_InvalidNet : Option Bool} {dd_InvalidNet : Option Addr} {m0_InvalidNet m1_InvalidNet m2_InvalidNet m3_InvalidNet m5_InvalidNet : Option Value} {oc_InvalidNet kV_InvalidNet dc_InvalidNet pm_InvalidNet ct_InvalidNet cl_InvalidNet ccl_InvalidNet : Value} {od_InvalidNet an_InvalidNet cld_InvalidNet cdd_InvalidNet : Option Addr} {sl_InvalidNet csl_InvalidNet ccs_InvalidNet : Array (Option Value)} {fv_InvalidNet : Array Value} {fi_InvalidNet : Str} {tf_InvalidNet : Tok}
    {nm_InvalidProof qu_InvalidProof : Str} {N_InvalidProof : Addr} {bs_InvalidProof bm_InvalidProof : List Value} {sn_InvalidProof : List Str} {sub_InvalidProof : List Value} {ab_InvalidProof : Bool} {col_InvalidProof : Option Bool} {dd_InvalidProof : Option Addr} {m0_InvalidProof m1_InvalidProof m2_InvalidProof m3_InvalidProof m5_InvalidProof : Option Value} {oc_InvalidProof kV_InvalidProof dc_InvalidProof pm_InvalidProof ct_InvalidProof cl_InvalidProof ccl_InvalidProof : Value} {od_InvalidProof an_InvalidProof cld_InvalidProof cdd_InvalidProof : Option Addr} {sl_InvalidProof csl_InvalidProof ccs_InvalidProof : Array (Option Value)} {fv_InvalidProof : Array Value} {fi_InvalidProof : Str} {tf_InvalidProof : Tok}
    (a__law_deck : PySem.W.nsIn K mainGlobals "_law_deck" = some (some (.ref f__law_deck)))
    (l__law_deck : K.lookup f__law_deck = some ⟨oc__law_deck, od__law_deck, .func (PySem.W.fnOf "_law_deck" "_law_deck" (defArgs s__law_deck) (defBody s__law_deck) (defScope s__law_deck) .none kV__law_deck dc__law_deck pm__law_deck an__law_deck cd__law_deck ct__law_deck), sl__law_deck⟩) (c__law_deck : PySem.W.codeIn K cd__law_deck "_law_deck" = true) (k__law_deck : PySem.W.keepIn K (.ref f__law_deck) = true)
    (a__law_take : PySem.W.nsIn K mainGlobals "_law_take" = some (some (.ref f__law_take)))
    (l__law_take : K.lookup f__law_take = some ⟨oc__law_take, od__law_take, .func (PySem.W.fnOf "_law_take" "_law_take" (defArgs s__law_take) (defBody s__law_take) (defScope s__law_take) .none kV__law_take dc__law_take pm__law_take an__law_take cd__law_take ct__law_take), sl__law_take⟩) (c__law_take : PySem.W.codeIn K cd__law_take "_law_take" = true) (k__law_take : PySem.W.keepIn K (.ref f__law_take) = true)
    (a__law_plain : PySem.W.nsIn K mainGlobals "_law_plain" = some (some (.ref f__law_plain)))
    (l__law_plain : K.lookup f__law_plain = some ⟨oc__law_plain, od__law_plain, .func (PySem.W.fnOf "_law_plain" "_law_plain" (defArgs s__law_plain) (defBody s__law_plain) (defScope s__law_plain) .none kV__law_plain dc__law_plain pm__law_plain an__law_plain cd__law_plain ct__law_plain), sl__law_plain⟩) (c__law_plain : PySem.W.codeIn K cd__law_plain "_law_plain" = true) (k__law_plain : PySem.W.keepIn K (.ref f__law_plain) = true)
    (a_check_sizes : PySem.W.nsIn K mainGlobals "check_sizes" = some (some (.ref f_check_sizes)))
    (l_check_sizes : K.lookup f_check_sizes = some ⟨oc_check_sizes, od_check_sizes, .func (PySem.W.fnOf "check_sizes" "check_sizes" (defArgs s_check_sizes) (defBody s_check_sizes) (defScope s_check_sizes) .none kV_check_sizes dc_check_sizes pm_check_sizes an_check_sizes cd_check_sizes ct_check_sizes), sl_check_sizes⟩) (c_check_sizes : PySem.W.codeIn K cd_check_sizes "check_sizes" = true) (k_check_sizes : PySem.W.keepIn K (.ref f_check_sizes) = true)
    (a_put_in_order : PySem.W.nsIn K mainGlobals "put_in_order" = some (some (.ref f_put_in_order)))
    (l_put_in_order : K.lookup f_put_in_order = some ⟨oc_put_in_order, od_put_in_order, .func (PySem.W.fnOf "put_in_order" "put_in_order" (defArgs s_put_in_order) (defBody s_put_in_order) (defScope s_put_in_order) .none kV_put_in_order dc_put_in_order pm_put_in_order an_put_in_order cd_put_in_order ct_put_in_order), sl_put_in_order⟩) (c_put_in_order : PySem.W.codeIn K cd_put_in_order "put_in_order" = true) (k_put_in_order : PySem.W.keepIn K (.ref f_put_in_order) = true)
    (a_wires_of : PySem.W.nsIn K mainGlobals "wires_of" = some (some (.ref f_wires_of)))
    (l_wires_of : K.lookup f_wires_of = some ⟨oc_wires_of, od_wires_of, .func (PySem.W.fnOf "wires_of" "wires_of" (defArgs s_wires_of) (defBody s_wires_of) (defScope s_wires_of) .none kV_wires_of dc_wires_of pm_wires_of an_wires_of cd_wires_of ct_wires_of), sl_wires_of⟩) (c_wires_of : PySem.W.codeIn K cd_wires_of "wires_of" = true) (k_wires_of : PySem.W.keepIn K (.ref f_wires_of) = true)
    (a_first_names : PySem.W.nsIn K mainGlobals "first_names" = some (some (.ref f_first_names)))
    (l_first_names : K.lookup f_first_names = some ⟨oc_first_names, od_first_names, .func (PySem.W.fnOf "first_names" "first_names" (defArgs s_first_names) (defBody s_first_names) (defScope s_first_names) .none kV_first_names dc_first_names pm_first_names an_first_names cd_first_names ct_first_names), sl_first_names⟩) (c_first_names : PySem.W.codeIn K cd_first_names "first_names" = true) (k_first_names : PySem.W.keepIn K (.ref f_first_names) = true)
    (a_second_names : PySem.W.nsIn K mainGlobals "second_names" = some (some (.ref f_second_names)))
    (l_second_names : K.lookup f_second_names = some ⟨oc_second_names, od_second_names, .func (PySem.W.fnOf "second_names" "second_names" (defArgs s_second_names) (defBody s_second_names) (defScope s_second_names) .none kV_second_names dc_second_names pm_second_names an_second_names cd_second_names ct_second_names), sl_second_names⟩) (c_second_names : PySem.W.codeIn K cd_second_names "second_names" = true) (k_second_names : PySem.W.keepIn K (.ref f_second_names) = true)
    (a_last_name : PySem.W.nsIn K mainGlobals "last_name" = some (some (.ref f_last_name)))
    (l_last_name : K.lookup f_last_name = some ⟨oc_last_name, od_last_name, .func (PySem.W.fnOf "last_name" "last_name" (defArgs s_last_name) (defBody s_last_name) (defScope s_last_name) .none kV_last_name dc_last_name pm_last_name an_last_name cd_last_name ct_last_name), sl_last_name⟩) (c_last_name : PySem.W.codeIn K cd_last_name "last_name" = true) (k_last_name : PySem.W.keepIn K (.ref f_last_name) = true)
    (a_xor_clauses : PySem.W.nsIn K mainGlobals "xor_clauses" = some (some (.ref f_xor_clauses)))
    (l_xor_clauses : K.lookup f_xor_clauses = some ⟨oc_xor_clauses, od_xor_clauses, .func (PySem.W.fnOf "xor_clauses" "xor_clauses" (defArgs s_xor_clauses) (defBody s_xor_clauses) (defScope s_xor_clauses) .none kV_xor_clauses dc_xor_clauses pm_xor_clauses an_xor_clauses cd_xor_clauses ct_xor_clauses), sl_xor_clauses⟩) (c_xor_clauses : PySem.W.codeIn K cd_xor_clauses "xor_clauses" = true) (k_xor_clauses : PySem.W.keepIn K (.ref f_xor_clauses) = true)
    (a_gate_clauses : PySem.W.nsIn K mainGlobals "gate_clauses" = some (some (.ref f_gate_clauses)))
    (l_gate_clauses : K.lookup f_gate_clauses = some ⟨oc_gate_clauses, od_gate_clauses, .func (PySem.W.fnOf "gate_clauses" "gate_clauses" (defArgs s_gate_clauses) (defBody s_gate_clauses) (defScope s_gate_clauses) .none kV_gate_clauses dc_gate_clauses pm_gate_clauses an_gate_clauses cd_gate_clauses ct_gate_clauses), sl_gate_clauses⟩) (c_gate_clauses : PySem.W.codeIn K cd_gate_clauses "gate_clauses" = true) (k_gate_clauses : PySem.W.keepIn K (.ref f_gate_clauses) = true)
    (a_pair_clauses : PySem.W.nsIn K mainGlobals "pair_clauses" = some (some (.ref f_pair_clauses)))
    (l_pair_clauses : K.lookup f_pair_clauses = some ⟨oc_pair_clauses, od_pair_clauses, .func (PySem.W.fnOf "pair_clauses" "pair_clauses" (defArgs s_pair_clauses) (defBody s_pair_clauses) (defScope s_pair_clauses) .none kV_pair_clauses dc_pair_clauses pm_pair_clauses an_pair_clauses cd_pair_clauses ct_pair_clauses), sl_pair_clauses⟩) (c_pair_clauses : PySem.W.codeIn K cd_pair_clauses "pair_clauses" = true) (k_pair_clauses : PySem.W.keepIn K (.ref f_pair_clauses) = true)
    (a_check_pairs : PySem.W.nsIn K mainGlobals "check_pairs" = some (some (.ref f_check_pairs)))
    (l_check_pairs : K.lookup f_check_pairs = some ⟨oc_check_pairs, od_check_pairs, .func (PySem.W.fnOf "check_pairs" "check_pairs" (defArgs s_check_pairs) (defBody s_check_pairs) (defScope s_check_pairs) .none kV_check_pairs dc_check_pairs pm_check_pairs an_check_pairs cd_check_pairs ct_check_pairs), sl_check_pairs⟩) (c_check_pairs : PySem.W.codeIn K cd_check_pairs "check_pairs" = true) (k_check_pairs : PySem.W.keepIn K (.ref f_check_pairs) = true)
    (a_goal_wires : PySem.W.nsIn K mainGlobals "goal_wires" = some (some (.ref f_goal_wires)))
    (l_goal_wires : K.lookup f_goal_wires = some ⟨oc_goal_wires, od_goal_wires, .func (PySem.W.fnOf "goal_wires" "goal_wires" (defArgs s_goal_wires) (defBody s_goal_wires) (defScope s_goal_wires) .none kV_goal_wires dc_goal_wires pm_goal_wires an_goal_wires cd_goal_wires ct_goal_wires), sl_goal_wires⟩) (c_goal_wires : PySem.W.codeIn K cd_goal_wires "goal_wires" = true) (k_goal_wires : PySem.W.keepIn K (.ref f_goal_wires) = true)
    (a_given_clauses : PySem.W.nsIn K mainGlobals "given_clauses" = some (some (.ref f_given_clauses)))
    (l_given_clauses : K.lookup f_given_clauses = some ⟨oc_given_clauses, od_given_clauses, .func (PySem.W.fnOf "given_clauses" "given_clauses" (defArgs s_given_clauses) (defBody s_given_clauses) (defScope s_given_clauses) .none kV_given_clauses dc_given_clauses pm_given_clauses an_given_clauses cd_given_clauses ct_given_clauses), sl_given_clauses⟩) (c_given_clauses : PySem.W.codeIn K cd_given_clauses "given_clauses" = true) (k_given_clauses : PySem.W.keepIn K (.ref f_given_clauses) = true)
    (a__law_spoil : PySem.W.nsIn K mainGlobals "_law_spoil" = some (some (.ref f__law_spoil)))
    (l__law_spoil : K.lookup f__law_spoil = some ⟨oc__law_spoil, od__law_spoil, .func (PySem.W.fnOf "_law_spoil" "_law_spoil" (defArgs s__law_spoil) (defBody s__law_spoil) (defScope s__law_spoil) .none kV__law_spoil dc__law_spoil pm__law_spoil an__law_spoil cd__law_spoil ct__law_spoil), sl__law_spoil⟩) (c__law_spoil : PySem.W.codeIn K cd__law_spoil "_law_spoil" = true) (k__law_spoil : PySem.W.keepIn K (.ref f__law_spoil) = true)
    (a__law_net : PySem.W.nsIn K mainGlobals "_law_net" = some (some (.ref f__law_net)))
    (l__law_net : K.lookup f__law_net = some ⟨oc__law_net, od__law_net, .func (PySem.W.fnOf "_law_net" "_law_net" (defArgs s__law_net) (defBody s__law_net) (defScope s__law_net) .none kV__law_net dc__law_net pm__law_net an__law_net cd__law_net ct__law_net), sl__law_net⟩) (c__law_net : PySem.W.codeIn K cd__law_net "_law_net" = true) (k__law_net : PySem.W.keepIn K (.ref f__law_net) = true)
    (a__law_wires : PySem.W.nsIn K mainGlobals "_law_wires" = some (some (.ref f__law_wires)))
    (l__law_wires : K.lookup f__law_wires = some ⟨oc__law_wires, od__law_wires, .func (PySem.W.fnOf "_law_wires" "_law_wires" (defArgs s__law_wires) (defBody s__law_wires) (defScope s__law_wires) .none kV__law_wires dc__law_wires pm__law_wires an__law_wires cd__law_wires ct__law_wires), sl__law_wires⟩) (c__law_wires : PySem.W.codeIn K cd__law_wires "_law_wires" = true) (k__law_wires : PySem.W.keepIn K (.ref f__law_wires) = true)
    (a__law_tuples : PySem.W.nsIn K mainGlobals "_law_tuples" = some (some (.ref f__law_tuples)))
    (l__law_tuples : K.lookup f__law_tuples = some ⟨oc__law_tuples, od__law_tuples, .func (PySem.W.fnOf "_law_tuples" "_law_tuples" (defArgs s__law_tuples) (defBody s__law_tuples) (defScope s__law_tuples) .none kV__law_tuples dc__law_tuples pm__law_tuples an__law_tuples cd__law_tuples ct__law_tuples), sl__law_tuples⟩) (c__law_tuples : PySem.W.codeIn K cd__law_tuples "_law_tuples" = true) (k__law_tuples : PySem.W.keepIn K (.ref f__law_tuples) = true)
    (a__law_clause : PySem.W.nsIn K mainGlobals "_law_clause" = some (some (.ref f__law_clause)))
    (l__law_clause : K.lookup f__law_clause = some ⟨oc__law_clause, od__law_clause, .func (PySem.W.fnOf "_law_clause" "_law_clause" (defArgs s__law_clause) (defBody s__law_clause) (defScope s__law_clause) .none kV__law_clause dc__law_clause pm__law_clause an__law_clause cd__law_clause ct__law_clause), sl__law_clause⟩) (c__law_clause : PySem.W.codeIn K cd__law_clause "_law_clause" = true) (k__law_clause : PySem.W.keepIn K (.ref f__law_clause) = true)
    (a__law_given : PySem.W.nsIn K mainGlobals "_law_given" = some (some (.ref f__law_given)))
    (l__law_given : K.lookup f__law_given = some ⟨oc__law_given, od__law_given, .func (PySem.W.fnOf "_law_given" "_law_given" (defArgs s__law_given) (defBody s__law_given) (defScope s__law_given) .none kV__law_given dc__law_given pm__law_given an__law_given cd__law_given ct__law_given), sl__law_given⟩) (c__law_given : PySem.W.codeIn K cd__law_given "_law_given" = true) (k__law_given : PySem.W.keepIn K (.ref f__law_given) = true)
    (a__law_why : PySem.W.nsIn K mainGlobals "_law_why" = some (some (.ref f__law_why)))
    (l__law_why : K.lookup f__law_why = some ⟨oc__law_why, od__law_why, .func (PySem.W.fnOf "_law_why" "_law_why" (defArgs s__law_why) (defBody s__law_why) (defScope s__law_why) .none kV__law_why dc__law_why pm__law_why an__law_why cd__law_why ct__law_why), sl__law_why⟩) (c__law_why : PySem.W.codeIn K cd__law_why "_law_why" = true) (k__law_why : PySem.W.keepIn K (.ref f__law_why) = true)
    (a_law : PySem.W.nsIn K mainGlobals "law" = some (some (.ref f_law)))
    (l_law : K.lookup f_law = some ⟨oc_law, od_law, .func (PySem.W.fnOf "law" "law" (defArgs s_law) (defBody s_law) (defScope s_law) .none kV_law dc_law pm_law an_law cd_law ct_law), sl_law⟩) (c_law : PySem.W.codeIn K cd_law "law" = true) (k_law : PySem.W.keepIn K (.ref f_law) = true)
    (z_abs : PySem.W.nsIn K mainGlobals "abs" = some none)
    (z_bool : PySem.W.nsIn K mainGlobals "bool" = some none)
    (z_enumerate : PySem.W.nsIn K mainGlobals "enumerate" = some none)
    (z_int : PySem.W.nsIn K mainGlobals "int" = some none)
    (z_isinstance : PySem.W.nsIn K mainGlobals "isinstance" = some none)
    (z_len : PySem.W.nsIn K mainGlobals "len" = some none)
    (z_list : PySem.W.nsIn K mainGlobals "list" = some none)
    (z_max : PySem.W.nsIn K mainGlobals "max" = some none)
    (z_range : PySem.W.nsIn K mainGlobals "range" = some none)
    (z_set : PySem.W.nsIn K mainGlobals "set" = some none)
    (z_sorted : PySem.W.nsIn K mainGlobals "sorted" = some none)
    (z_str : PySem.W.nsIn K mainGlobals "str" = some none)
    (z_tuple : PySem.W.nsIn K mainGlobals "tuple" = some none)
    (a_InvalidNet : PySem.W.nsIn K mainGlobals "InvalidNet" = some (some (.ref C_InvalidNet)))
    (x_InvalidNet : K.lookup C_InvalidNet = some (excClassObj nm_InvalidNet qu_InvalidNet C_InvalidNet N_InvalidNet bs_InvalidNet bm_InvalidNet true sn_InvalidNet sub_InvalidNet ab_InvalidNet col_InvalidNet dd_InvalidNet m0_InvalidNet m1_InvalidNet m2_InvalidNet m3_InvalidNet m5_InvalidNet "ValueError.__new__"))
    (v_InvalidNet : PySem.HandSPX.refsVE bm_InvalidNet = true)
    (sa_InvalidNet : PySem.W.findIn K (.ref C_InvalidNet) "__setattr__" = some (some (.builtin "object.__setattr__")))
    (ga_InvalidNet : PySem.W.findIn K (.ref C_InvalidNet) "__getattribute__" = some (some (.builtin "BaseException.__getattribute__")))
    (gg_InvalidNet : PySem.W.findIn K (.ref C_InvalidNet) "__getattr__" = some none)
    (n_InvalidNet : PySem.W.findIn K (.ref C_InvalidNet) "what" = some none)
    (i_InvalidNet : PySem.W.findIn K (.ref C_InvalidNet) "__init__" = some (some (.ref f_InvalidNet)))
    (t_InvalidNet : PySem.W.typeIn K (.ref f_InvalidNet) = some (.type "function"))
    (l_InvalidNet : K.lookup f_InvalidNet = some ⟨oc_InvalidNet, od_InvalidNet, .func (PySem.W.fnX "__init__" "InvalidNet.__init__" (defArgs s_InvalidNet___init__) (defBody s_InvalidNet___init__) (defScope s_InvalidNet___init__) [("__class__", cc_InvalidNet)] .none kV_InvalidNet dc_InvalidNet pm_InvalidNet an_InvalidNet (.ref cda_InvalidNet) ct_InvalidNet), sl_InvalidNet⟩)
    (c_InvalidNet : PySem.W.codeIn K (.ref cda_InvalidNet) "InvalidNet.__init__" = true)
    (kc_InvalidNet : PySem.W.keepIn K (.ref C_InvalidNet) = true)
    (e_InvalidNet : PySem.W.subIn K (.ref C_InvalidNet) (.type "BaseException") = some true)
    (tt_InvalidNet : PySem.W.typeIn K (.ref C_InvalidNet) = some (.type "type"))
    (hd_InvalidNet : PySem.W.hasDictIn K C_InvalidNet = true)
    (ic_InvalidNet : PySem.W.isClsIn K C_InvalidNet = true)
    (ss_InvalidNet : PySem.W.subIn K (.ref C_InvalidNet) (.ref C_InvalidNet) = some true)
    (mr_InvalidNet : PySem.W.mroIn K C_InvalidNet (.ref C_InvalidNet) = some true)
    (su_InvalidNet : PySem.W.ks_superIn K C_InvalidNet C_InvalidNet "__init__" = some (some (.builtin "ValueError.__init__")))
    (sb_InvalidNet : PySem.W.subIn K (.ref C_InvalidNet) (.type "ValueError") = some true)
    (th_InvalidNet : PySem.W.nsIn K cStatics "thirdparty.any" = some none)
    (ce_InvalidNet : K.lookup cc_InvalidNet = some ⟨cl_InvalidNet, cld_InvalidNet, .cell (some (.ref C_InvalidNet)), csl_InvalidNet⟩)
    (co_InvalidNet : K.lookup cda_InvalidNet = some ⟨ccl_InvalidNet, cdd_InvalidNet, .fields fv_InvalidNet, ccs_InvalidNet⟩)
    (cv_InvalidNet : fv_InvalidNet[2]? = some (.str fi_InvalidNet tf_InvalidNet))
    (cf_InvalidNet : ((l.prog.main.file : Str) == fi_InvalidNet) = true)
    (tp_InvalidNet : (l.prog.main.scope.names.lookup ("super" : Str)).isSome = false)
    (zs_InvalidNet : PySem.W.nsIn K mainGlobals "super" = some none)
    (a_InvalidProof : PySem.W.nsIn K mainGlobals "InvalidProof" = some (some (.ref C_InvalidProof)))
    (x_InvalidProof : K.lookup C_InvalidProof = some (excClassObj nm_InvalidProof qu_InvalidProof C_InvalidProof N_InvalidProof bs_InvalidProof bm_InvalidProof true sn_InvalidProof sub_InvalidProof ab_InvalidProof col_InvalidProof dd_InvalidProof m0_InvalidProof m1_InvalidProof m2_InvalidProof m3_InvalidProof m5_InvalidProof "ValueError.__new__"))
    (v_InvalidProof : PySem.HandSPX.refsVE bm_InvalidProof = true)
    (sa_InvalidProof : PySem.W.findIn K (.ref C_InvalidProof) "__setattr__" = some (some (.builtin "object.__setattr__")))
    (ga_InvalidProof : PySem.W.findIn K (.ref C_InvalidProof) "__getattribute__" = some (some (.builtin "BaseException.__getattribute__")))
    (gg_InvalidProof : PySem.W.findIn K (.ref C_InvalidProof) "__getattr__" = some none)
    (n_InvalidProof : PySem.W.findIn K (.ref C_InvalidProof) "what" = some none)
    (i_InvalidProof : PySem.W.findIn K (.ref C_InvalidProof) "__init__" = some (some (.ref f_InvalidProof)))
    (t_InvalidProof : PySem.W.typeIn K (.ref f_InvalidProof) = some (.type "function"))
    (l_InvalidProof : K.lookup f_InvalidProof = some ⟨oc_InvalidProof, od_InvalidProof, .func (PySem.W.fnX "__init__" "InvalidProof.__init__" (defArgs s_InvalidProof___init__) (defBody s_InvalidProof___init__) (defScope s_InvalidProof___init__) [("__class__", cc_InvalidProof)] .none kV_InvalidProof dc_InvalidProof pm_InvalidProof an_InvalidProof (.ref cda_InvalidProof) ct_InvalidProof), sl_InvalidProof⟩)
    (c_InvalidProof : PySem.W.codeIn K (.ref cda_InvalidProof) "InvalidProof.__init__" = true)
    (kc_InvalidProof : PySem.W.keepIn K (.ref C_InvalidProof) = true)
    (e_InvalidProof : PySem.W.subIn K (.ref C_InvalidProof) (.type "BaseException") = some true)
    (tt_InvalidProof : PySem.W.typeIn K (.ref C_InvalidProof) = some (.type "type"))
    (hd_InvalidProof : PySem.W.hasDictIn K C_InvalidProof = true)
    (ic_InvalidProof : PySem.W.isClsIn K C_InvalidProof = true)
    (ss_InvalidProof : PySem.W.subIn K (.ref C_InvalidProof) (.ref C_InvalidProof) = some true)
    (mr_InvalidProof : PySem.W.mroIn K C_InvalidProof (.ref C_InvalidProof) = some true)
    (su_InvalidProof : PySem.W.ks_superIn K C_InvalidProof C_InvalidProof "__init__" = some (some (.builtin "ValueError.__init__")))
    (sb_InvalidProof : PySem.W.subIn K (.ref C_InvalidProof) (.type "ValueError") = some true)
    (th_InvalidProof : PySem.W.nsIn K cStatics "thirdparty.any" = some none)
    (ce_InvalidProof : K.lookup cc_InvalidProof = some ⟨cl_InvalidProof, cld_InvalidProof, .cell (some (.ref C_InvalidProof)), csl_InvalidProof⟩)
    (co_InvalidProof : K.lookup cda_InvalidProof = some ⟨ccl_InvalidProof, cdd_InvalidProof, .fields fv_InvalidProof, ccs_InvalidProof⟩)
    (cv_InvalidProof : fv_InvalidProof[2]? = some (.str fi_InvalidProof tf_InvalidProof))
    (cf_InvalidProof : ((l.prog.main.file : Str) == fi_InvalidProof) = true)
    (tp_InvalidProof : (l.prog.main.scope.names.lookup ("super" : Str)).isSome = false)
    (zs_InvalidProof : PySem.W.nsIn K mainGlobals "super" = some none)
    (a_GateError : PySem.W.nsIn K mainGlobals "GateError" = some (some (.ref C_GateError)))
    (be_GateError : PySem.W.subIn K (.ref C_GateError) (.type "BaseException") = some true)
    (bh_GateError : PySem.W.hasDictIn K C_GateError = true)
    (bt_GateError : PySem.W.typeIn K (.ref C_GateError) = some (.type "type"))
    (bg_GateError : PySem.W.specialIn K (.builtin "object.__class__") "__get__" = some (some (.builtin "getset_descriptor.__get__")))
    (bx_GateError : PySem.W.takesIn K (.builtin "object.__class__") = some true)
    (gs_InvalidNet : PySem.W.subIn K (.ref C_InvalidNet) (.ref C_GateError) = some true)
    (gc_InvalidNet : PySem.W.findIn K (.ref C_InvalidNet) "__class__" = some (some (.builtin "object.__class__")))
    (gm_InvalidNet : PySem.W.mroIn K C_InvalidNet (.type "object") = some true)
    (gk_InvalidNet_InvalidProof : PySem.W.subIn K (.ref C_InvalidNet) (.ref C_InvalidProof) = some false)
    (gs_InvalidProof : PySem.W.subIn K (.ref C_InvalidProof) (.ref C_GateError) = some true)
    (gc_InvalidProof : PySem.W.findIn K (.ref C_InvalidProof) "__class__" = some (some (.builtin "object.__class__")))
    (gm_InvalidProof : PySem.W.mroIn K C_InvalidProof (.type "object") = some true)
    (gk_InvalidProof_InvalidNet : PySem.W.subIn K (.ref C_InvalidProof) (.ref C_InvalidNet) = some false) :
    ∃ fd : FuncData, (∀ (s : Shared) (v : Value), BindsTo s fd ⟨[v], []⟩ [("script", v)]) ∧ ∀ base : Heap, K.In base → base.Ns mainGlobals mg → FnOk l.prog w K mg base CX0 10 fa fd ["script"] (spLaw K) := by
  have e := hfa.symm.trans (PySem.W.mg_of X G a_law)
  cases e
  have T : Txt K mg := ⟨PySem.W.mg_none_of X G z_abs, PySem.W.mg_none_of X G z_bool, PySem.W.mg_none_of X G z_enumerate, PySem.W.mg_none_of X G z_int, PySem.W.mg_none_of X G z_isinstance, PySem.W.mg_none_of X G z_len, PySem.W.mg_none_of X G z_list, PySem.W.mg_none_of X G z_max, PySem.W.mg_none_of X G z_range, PySem.W.mg_none_of X G z_set, PySem.W.mg_none_of X G z_sorted, PySem.W.mg_none_of X G z_str, PySem.W.mg_none_of X G z_tuple⟩
  have F__law_deck := fun_mk (st := s__law_deck) l__law_deck c__law_deck k__law_deck
  have B__law_deck := F__law_deck.binds (ps := ["script", "cells", "each"]) fun _ _ _ _ _ _ us hl => match us, hl with | [_, _, _], _ => rfl
  have m__law_deck := PySem.W.mg_of X G a__law_deck
  have F__law_take := fun_mk (st := s__law_take) l__law_take c__law_take k__law_take
  have B__law_take := F__law_take.binds (ps := ["deck", "many"]) fun _ _ _ _ _ _ us hl => match us, hl with | [_, _], _ => rfl
  have m__law_take := PySem.W.mg_of X G a__law_take
  have F__law_plain := fun_mk (st := s__law_plain) l__law_plain c__law_plain k__law_plain
  have B__law_plain := F__law_plain.binds (ps := ["value"]) fun _ _ _ _ _ _ us hl => match us, hl with | [_], _ => rfl
  have m__law_plain := PySem.W.mg_of X G a__law_plain
  have F_check_sizes := fun_mk (st := s_check_sizes) l_check_sizes c_check_sizes k_check_sizes
  have B_check_sizes := F_check_sizes.binds (ps := ["first", "second"]) fun _ _ _ _ _ _ us hl => match us, hl with | [_, _], _ => rfl
  have m_check_sizes := PySem.W.mg_of X G a_check_sizes
  have F_put_in_order := fun_mk (st := s_put_in_order) l_put_in_order c_put_in_order k_put_in_order
  have B_put_in_order := F_put_in_order.binds (ps := ["clause"]) fun _ _ _ _ _ _ us hl => match us, hl with | [_], _ => rfl
  have m_put_in_order := PySem.W.mg_of X G a_put_in_order
  have F_wires_of := fun_mk (st := s_wires_of) l_wires_of c_wires_of k_wires_of
  have B_wires_of := F_wires_of.binds (ps := ["net"]) fun _ _ _ _ _ _ us hl => match us, hl with | [_], _ => rfl
  have m_wires_of := PySem.W.mg_of X G a_wires_of
  have F_first_names := fun_mk (st := s_first_names) l_first_names c_first_names k_first_names
  have B_first_names := F_first_names.binds (ps := ["net"]) fun _ _ _ _ _ _ us hl => match us, hl with | [_], _ => rfl
  have m_first_names := PySem.W.mg_of X G a_first_names
  have F_second_names := fun_mk (st := s_second_names) l_second_names c_second_names k_second_names
  have B_second_names := F_second_names.binds (ps := ["first", "second"]) fun _ _ _ _ _ _ us hl => match us, hl with | [_, _], _ => rfl
  have m_second_names := PySem.W.mg_of X G a_second_names
  have F_last_name := fun_mk (st := s_last_name) l_last_name c_last_name k_last_name
  have B_last_name := F_last_name.binds (ps := ["first", "second"]) fun _ _ _ _ _ _ us hl => match us, hl with | [_, _], _ => rfl
  have m_last_name := PySem.W.mg_of X G a_last_name
  have F_xor_clauses := fun_mk (st := s_xor_clauses) l_xor_clauses c_xor_clauses k_xor_clauses
  have B_xor_clauses := F_xor_clauses.binds (ps := ["z", "x", "y"]) fun _ _ _ _ _ _ us hl => match us, hl with | [_, _, _], _ => rfl
  have m_xor_clauses := PySem.W.mg_of X G a_xor_clauses
  have F_gate_clauses := fun_mk (st := s_gate_clauses) l_gate_clauses c_gate_clauses k_gate_clauses
  have B_gate_clauses := F_gate_clauses.binds (ps := ["gate", "z", "names"]) fun _ _ _ _ _ _ us hl => match us, hl with | [_, _, _], _ => rfl
  have m_gate_clauses := PySem.W.mg_of X G a_gate_clauses
  have F_pair_clauses := fun_mk (st := s_pair_clauses) l_pair_clauses c_pair_clauses k_pair_clauses
  have B_pair_clauses := F_pair_clauses.binds (ps := ["pair", "first", "one", "two"]) fun _ _ _ _ _ _ us hl => match us, hl with | [_, _, _, _], _ => rfl
  have m_pair_clauses := PySem.W.mg_of X G a_pair_clauses
  have F_check_pairs := fun_mk (st := s_check_pairs) l_check_pairs c_check_pairs k_check_pairs
  have B_check_pairs := F_check_pairs.binds (ps := ["first", "second", "pairs"]) fun _ _ _ _ _ _ us hl => match us, hl with | [_, _, _], _ => rfl
  have m_check_pairs := PySem.W.mg_of X G a_check_pairs
  have F_goal_wires := fun_mk (st := s_goal_wires) l_goal_wires c_goal_wires k_goal_wires
  have B_goal_wires := F_goal_wires.binds (ps := ["first", "second", "pairs", "goal"]) fun _ _ _ _ _ _ us hl => match us, hl with | [_, _, _, _], _ => rfl
  have m_goal_wires := PySem.W.mg_of X G a_goal_wires
  have F_given_clauses := fun_mk (st := s_given_clauses) l_given_clauses c_given_clauses k_given_clauses
  have B_given_clauses := F_given_clauses.binds (ps := ["first", "second", "pairs", "goal"]) fun _ _ _ _ _ _ us hl => match us, hl with | [_, _, _, _], _ => rfl
  have m_given_clauses := PySem.W.mg_of X G a_given_clauses
  have F__law_spoil := fun_mk (st := s__law_spoil) l__law_spoil c__law_spoil k__law_spoil
  have B__law_spoil := F__law_spoil.binds (ps := ["value"]) fun _ _ _ _ _ _ us hl => match us, hl with | [_], _ => rfl
  have m__law_spoil := PySem.W.mg_of X G a__law_spoil
  have F__law_net := fun_mk (st := s__law_net) l__law_net c__law_net k__law_net
  have B__law_net := F__law_net.binds (ps := ["deck", "inputs", "flops", "gates", "outputs"]) fun _ _ _ _ _ _ us hl => match us, hl with | [_, _, _, _, _], _ => rfl
  have m__law_net := PySem.W.mg_of X G a__law_net
  have F__law_wires := fun_mk (st := s__law_wires) l__law_wires c__law_wires k__law_wires
  have B__law_wires := F__law_wires.binds (ps := ["net", "inputs", "states"]) fun _ _ _ _ _ _ us hl => match us, hl with | [_, _, _], _ => rfl
  have m__law_wires := PySem.W.mg_of X G a__law_wires
  have F__law_tuples := fun_mk (st := s__law_tuples) l__law_tuples c__law_tuples k__law_tuples
  have B__law_tuples := F__law_tuples.binds (ps := ["many"]) fun _ _ _ _ _ _ us hl => match us, hl with | [_], _ => rfl
  have m__law_tuples := PySem.W.mg_of X G a__law_tuples
  have F__law_clause := fun_mk (st := s__law_clause) l__law_clause c__law_clause k__law_clause
  have B__law_clause := F__law_clause.binds (ps := ["numbers"]) fun _ _ _ _ _ _ us hl => match us, hl with | [_], _ => rfl
  have m__law_clause := PySem.W.mg_of X G a__law_clause
  have F__law_given := fun_mk (st := s__law_given) l__law_given c__law_given k__law_given
  have B__law_given := F__law_given.binds (ps := ["first", "second", "pairs", "goal"]) fun _ _ _ _ _ _ us hl => match us, hl with | [_, _, _, _], _ => rfl
  have m__law_given := PySem.W.mg_of X G a__law_given
  have F__law_why := fun_mk (st := s__law_why) l__law_why c__law_why k__law_why
  have B__law_why := F__law_why.binds (ps := ["first", "second", "pairs", "goal"]) fun _ _ _ _ _ _ us hl => match us, hl with | [_, _, _, _], _ => rfl
  have m__law_why := PySem.W.mg_of X G a__law_why
  have F_law := fun_mk (st := s_law) l_law c_law k_law
  have B_law := F_law.binds (ps := ["script"]) fun _ _ _ _ _ _ us hl => match us, hl with | [_], _ => rfl
  have m_law := PySem.W.mg_of X G a_law
  have m_InvalidNet := PySem.W.mg_of X G a_InvalidNet
  have X_InvalidNet : SupTxt l.prog K mg C_InvalidNet cc_InvalidNet cda_InvalidNet := { ox := ⟨⟨nm_InvalidNet, qu_InvalidNet, N_InvalidNet, bs_InvalidNet, bm_InvalidNet, sn_InvalidNet, sub_InvalidNet, ab_InvalidNet, col_InvalidNet, dd_InvalidNet, m0_InvalidNet, m1_InvalidNet, m2_InvalidNet, m3_InvalidNet, m5_InvalidNet, x_InvalidNet, v_InvalidNet⟩, sa_InvalidNet, e_InvalidNet, tt_InvalidNet, kc_InvalidNet⟩, mro := mr_InvalidNet, sup := su_InvalidNet, sub := sb_InvalidNet, third := th_InvalidNet, cell := ⟨_, _, _, ce_InvalidNet⟩, code := ⟨_, _, _, _, _, _, co_InvalidNet, cv_InvalidNet, cf_InvalidNet⟩, top := tp_InvalidNet, mgs := PySem.W.mg_none_of X G zs_InvalidNet }
  have R_InvalidNet : ErrT K mg "InvalidNet" C_InvalidNet "what" := ⟨m_InvalidNet, PySem.W.exm_ref e_InvalidNet hd_InvalidNet tt_InvalidNet ss_InvalidNet, ⟨ga_InvalidNet, gg_InvalidNet, e_InvalidNet, hd_InvalidNet⟩, n_InvalidNet⟩
  have m_InvalidProof := PySem.W.mg_of X G a_InvalidProof
  have X_InvalidProof : SupTxt l.prog K mg C_InvalidProof cc_InvalidProof cda_InvalidProof := { ox := ⟨⟨nm_InvalidProof, qu_InvalidProof, N_InvalidProof, bs_InvalidProof, bm_InvalidProof, sn_InvalidProof, sub_InvalidProof, ab_InvalidProof, col_InvalidProof, dd_InvalidProof, m0_InvalidProof, m1_InvalidProof, m2_InvalidProof, m3_InvalidProof, m5_InvalidProof, x_InvalidProof, v_InvalidProof⟩, sa_InvalidProof, e_InvalidProof, tt_InvalidProof, kc_InvalidProof⟩, mro := mr_InvalidProof, sup := su_InvalidProof, sub := sb_InvalidProof, third := th_InvalidProof, cell := ⟨_, _, _, ce_InvalidProof⟩, code := ⟨_, _, _, _, _, _, co_InvalidProof, cv_InvalidProof, cf_InvalidProof⟩, top := tp_InvalidProof, mgs := PySem.W.mg_none_of X G zs_InvalidProof }
  have R_InvalidProof : ErrT K mg "InvalidProof" C_InvalidProof "what" := ⟨m_InvalidProof, PySem.W.exm_ref e_InvalidProof hd_InvalidProof tt_InvalidProof ss_InvalidProof, ⟨ga_InvalidProof, gg_InvalidProof, e_InvalidProof, hd_InvalidProof⟩, n_InvalidProof⟩
  have m_GateError := PySem.W.mg_of X G a_GateError
  have E_InvalidNet : ExcC K C_InvalidNet := ⟨ga_InvalidNet, gg_InvalidNet, e_InvalidNet, hd_InvalidNet, gc_InvalidNet, bg_GateError, bx_GateError, gm_InvalidNet⟩
  have M_InvalidNet : PySem.W.exmOne K (.ref C_InvalidNet) (.ref C_GateError) = some true := PySem.W.exm_ref be_GateError bh_GateError bt_GateError gs_InvalidNet
  have E_InvalidProof : ExcC K C_InvalidProof := ⟨ga_InvalidProof, gg_InvalidProof, e_InvalidProof, hd_InvalidProof, gc_InvalidProof, bg_GateError, bx_GateError, gm_InvalidProof⟩
  have M_InvalidProof : PySem.W.exmOne K (.ref C_InvalidProof) (.ref C_GateError) = some true := PySem.W.exm_ref be_GateError bh_GateError bt_GateError gs_InvalidProof
  refine ⟨PySem.W.fnOf "law" "law" (defArgs s_law) (defBody s_law) (defScope s_law) .none kV_law dc_law pm_law an_law cd_law ct_law, fun s v => .of_eq rfl, fun base _ _ => ?_⟩
  have c_InvalidNet : Erm l.prog w K mg base 1 "InvalidNet" C_InvalidNet "what" := ⟨_, _, _, X_InvalidNet.ox, i_InvalidNet, t_InvalidNet, ok_err X_InvalidNet n_InvalidNet l_InvalidNet rfl c_InvalidNet (nscope_by (by decide +kernel)) rfl rfl rfl rfl rfl (fun _ => ⟨_, rfl⟩), Binds.all (fun us hl => match us, hl with | [_, _], _ => rfl), m_InvalidNet⟩
  have c_InvalidProof : Erm l.prog w K mg base 1 "InvalidProof" C_InvalidProof "what" := ⟨_, _, _, X_InvalidProof.ox, i_InvalidProof, t_InvalidProof, ok_err X_InvalidProof n_InvalidProof l_InvalidProof rfl c_InvalidProof (nscope_by (by decide +kernel)) rfl rfl rfl rfl rfl (fun _ => ⟨_, rfl⟩), Binds.all (fun us hl => match us, hl with | [_, _], _ => rfl), m_InvalidProof⟩
  have WT : WhyT K mg C_InvalidNet C_InvalidProof C_GateError := ⟨m_GateError, m_InvalidNet, m_InvalidProof, M_InvalidNet, M_InvalidProof, E_InvalidNet, E_InvalidProof, kit_self, kit_not hd_InvalidProof tt_InvalidProof ss_InvalidNet gk_InvalidNet_InvalidProof, kit_self, R_InvalidNet.xf, R_InvalidProof.xf, n_InvalidNet, n_InvalidProof⟩
  have c_take : Cal l.prog w K mg base 1 "_law_take" spTake [] := ⟨_, _, _, _, ok_take F__law_take T, m__law_take, F__law_take.kp, B__law_take, .nil⟩
  have c_wires : Cal l.prog w K mg base 1 "wires_of" (spWires K) [] := ⟨_, _, _, _, ok_wires F_wires_of T, m_wires_of, F_wires_of.kp, B_wires_of, .nil⟩
  have c_xor : Cal l.prog w K mg base 1 "xor_clauses" (spXor K) [] := ⟨_, _, _, _, ok_xor F_xor_clauses T, m_xor_clauses, F_xor_clauses.kp, B_xor_clauses, .nil⟩
  have c_lord : Cal l.prog w K mg base 1 "_law_clause" (spOrd K) [] := ⟨_, _, _, _, ok_lord F__law_clause T, m__law_clause, F__law_clause.kp, B__law_clause, .nil⟩
  have c_given : CalX l.prog w K mg base 4 "given_clauses" (spGiven K C_InvalidNet C_InvalidProof) := ⟨_, _, _, ok_given F_given_clauses T {
    sizes := ⟨_, _, _, ok_sizes F_check_sizes T c_InvalidNet, m_check_sizes, F_check_sizes.kp, B_check_sizes⟩
    pairs := ⟨_, _, _, ok_pairs F_check_pairs T c_InvalidProof, m_check_pairs, F_check_pairs.kp, B_check_pairs⟩
    goal := ⟨_, _, _, ok_goal F_goal_wires T c_InvalidProof, m_goal_wires, F_goal_wires.kp, B_goal_wires⟩
    names := ⟨_, _, _, _, ok_names F_first_names T c_wires, m_first_names, F_first_names.kp, B_first_names, .nil⟩
    names2 := ⟨_, _, _, _, ok_names2 F_second_names T c_wires, m_second_names, F_second_names.kp, B_second_names, .nil⟩
    pairC := ⟨_, _, _, _, ok_pairC F_pair_clauses T, m_pair_clauses, F_pair_clauses.kp, B_pair_clauses, .nil⟩
    gateC := ⟨_, _, _, _, ok_gateC F_gate_clauses T c_xor, m_gate_clauses, F_gate_clauses.kp, B_gate_clauses, .nil⟩
    last := ⟨_, _, _, _, ok_last F_last_name T c_wires, m_last_name, F_last_name.kp, B_last_name, .nil⟩
    xor := c_xor
    ord := ⟨_, _, _, _, ok_ord F_put_in_order T, m_put_in_order, F_put_in_order.kp, B_put_in_order, .nil⟩ }, m_given_clauses, F_given_clauses.kp, B_given_clauses⟩
  exact ok_law F_law T {
    deck := ⟨_, _, _, _, ok_deck F__law_deck T, m__law_deck, F__law_deck.kp, B__law_deck, .nil⟩
    take := c_take
    plain := fun n => ⟨_, _, _, _, ok_plain F__law_plain T m__law_plain B__law_plain n, m__law_plain, F__law_plain.kp, B__law_plain, .nil⟩
    spoil := ⟨_, _, _, _, ok_spoil F__law_spoil T m__law_spoil B__law_spoil 4, m__law_spoil, F__law_spoil.kp, B__law_spoil, .nil⟩
    net := ⟨_, _, _, _, ok_net F__law_net T c_take, m__law_net, F__law_net.kp, B__law_net, .nil⟩
    wires := ⟨_, _, _, _, ok_lwires F__law_wires T, m__law_wires, F__law_wires.kp, B__law_wires, .nil⟩
    tuples := ⟨_, _, _, _, ok_tuples F__law_tuples T, m__law_tuples, F__law_tuples.kp, B__law_tuples, .nil⟩
    lgiven := ⟨_, _, _, _, ok_lgiven F__law_given T c_lord, m__law_given, F__law_given.kp, B__law_given, .nil⟩
    given := c_given
    why := ⟨_, _, _, _, ok_why F__law_why T WT c_given, m__law_why, F__law_why.kp, B__law_why, .nil⟩ }
theorem walk {l : PySem.W.OpenLaw} {q : Program} {loose : List Str} {XP : (Str → Option Value) → Heap → Prop} {YP : World → Heap → Prop} {d : DefRec} {K : Params → PySem.W.Frag} (hn : l.most = some 63) (hdf : d.params.defaults = [])
    (hY : ∀ (w : World) (h : Heap), YP w h → (K w.params).In h)
    (F : ∀ (w : World) (mg : Str → Option Value) (fa : Addr) (h : Heap), (K w.params).In h → h.Ns mainGlobals mg → mg d.name = some (.ref fa) →
      ∃ fd : FuncData, (∀ (s : Shared) (u : Value), BindsTo s fd ⟨[u], []⟩ [("script", u)]) ∧ ∀ base : Heap, (K w.params).In base → base.Ns mainGlobals mg → FnOk l.prog w (K w.params) mg base CX0 10 fa fd ["script"] (spLaw (K w.params))) :
    PySem.W.WalkO q loose XP YP l.row.toRowW d [] (fun f vs => PySem.call f vs) :=
  L2.walk_of (n := 63) (k := 10) (x := "script") (CX := fun _ => CX0) (sp := fun w => spLaw (K w.params)) hn (by decide) hdf ⟨rfl, by decide, by decide⟩ hY F (fun _ _ a ns hl _ hS => ⟨a, ns, rfl, hS, hl, fun _ => rfl⟩) fun _ _ _ _ _ z => z
end Q41

open PySem PySem.W PyProof.Rows in
set_option maxRecDepth 100000 in
set_option maxHeartbeats 0 in
theorem PySem.Challenge.cw_gatework_k41_whole_clauses_holds : PySem.Challenge.rw_gatework_k41_whole_clauses.Holds := by
  w_on; o_law; k_head; (case hw => w_witness2)
  k_fill
  refine Q41.walk (l := PySem.Challenge.rw_gatework_k41_whole_clauses) rfl rfl (fun w h Y => PySem.W.kIn_of Y) ?F
  case F =>
    intro w mg fa h KX G hmg
    refine' Q41.all_mk KX G hmg ?a__law_deck ?l__law_deck ?c__law_deck ?k__law_deck ?a__law_take ?l__law_take ?c__law_take ?k__law_take ?a__law_plain ?l__law_plain ?c__law_plain ?k__law_plain ?a_check_sizes ?l_check_sizes ?c_check_sizes ?k_check_sizes ?a_put_in_order ?l_put_in_order ?c_put_in_order ?k_put_in_order ?a_wires_of ?l_wires_of ?c_wires_of ?k_wires_of ?a_first_names ?l_first_names ?c_first_names ?k_first_names ?a_second_names ?l_second_names ?c_second_names ?k_second_names ?a_last_name ?l_last_name ?c_last_name ?k_last_name ?a_xor_clauses ?l_xor_clauses ?c_xor_clauses ?k_xor_clauses ?a_gate_clauses ?l_gate_clauses ?c_gate_clauses ?k_gate_clauses ?a_pair_clauses ?l_pair_clauses ?c_pair_clauses ?k_pair_clauses ?a_check_pairs ?l_check_pairs ?c_check_pairs ?k_check_pairs ?a_goal_wires ?l_goal_wires ?c_goal_wires ?k_goal_wires ?a_given_clauses ?l_given_clauses ?c_given_clauses ?k_given_clauses ?a__law_spoil ?l__law_spoil ?c__law_spoil ?k__law_spoil ?a__law_net ?l__law_net ?c__law_net ?k__law_net ?a__law_wires ?l__law_wires ?c__law_wires ?k__law_wires ?a__law_tuples ?l__law_tuples ?c__law_tuples ?k__law_tuples ?a__law_clause ?l__law_clause ?c__law_clause ?k__law_clause ?a__law_given ?l__law_given ?c__law_given ?k__law_given ?a__law_why ?l__law_why ?c__law_why ?k__law_why ?a_law ?l_law ?c_law ?k_law ?z_abs ?z_bool ?z_enumerate ?z_int ?z_isinstance ?z_len ?z_list ?z_max ?z_range ?z_set ?z_sorted ?z_str ?z_tuple ?a_InvalidNet ?x_InvalidNet ?v_InvalidNet ?sa_InvalidNet ?ga_InvalidNet ?gg_InvalidNet ?n_InvalidNet ?i_InvalidNet ?t_InvalidNet ?l_InvalidNet ?c_InvalidNet ?kc_InvalidNet ?e_InvalidNet ?tt_InvalidNet ?hd_InvalidNet ?ic_InvalidNet ?ss_InvalidNet ?mr_InvalidNet ?su_InvalidNet ?sb_InvalidNet ?th_InvalidNet ?ce_InvalidNet ?co_InvalidNet ?cv_InvalidNet ?cf_InvalidNet ?tp_InvalidNet ?zs_InvalidNet ?a_InvalidProof ?x_InvalidProof ?v_InvalidProof ?sa_InvalidProof ?ga_InvalidProof ?gg_InvalidProof ?n_InvalidProof ?i_InvalidProof ?t_InvalidProof ?l_InvalidProof ?c_InvalidProof ?kc_InvalidProof ?e_InvalidProof ?tt_InvalidProof ?hd_InvalidProof ?ic_InvalidProof ?ss_InvalidProof ?mr_InvalidProof ?su_InvalidProof ?sb_InvalidProof ?th_InvalidProof ?ce_InvalidProof ?co_InvalidProof ?cv_InvalidProof ?cf_InvalidProof ?tp_InvalidProof ?zs_InvalidProof ?a_GateError ?be_GateError ?bh_GateError ?bt_GateError ?bg_GateError ?bx_GateError ?gs_InvalidNet ?gc_InvalidNet ?gm_InvalidNet ?gk_InvalidNet_InvalidProof ?gs_InvalidProof ?gc_InvalidProof ?gm_InvalidProof ?gk_InvalidProof_InvalidNet
    (case a_InvalidNet => k_is)
    (case a_InvalidProof => k_is)
    (case a_GateError => k_is)
    (case a__law_deck => k_is)
    (case l__law_deck => k_is)
    (case c__law_deck => k_is)
    (case k__law_deck => k_is)
    (case a__law_take => k_is)
    (case l__law_take => k_is)
    (case c__law_take => k_is)
    (case k__law_take => k_is)
    (case a__law_plain => k_is)
    (case l__law_plain => k_is)
    (case c__law_plain => k_is)
    (case k__law_plain => k_is)
    (case a_check_sizes => k_is)
    (case l_check_sizes => k_is)
    (case c_check_sizes => k_is)
    (case k_check_sizes => k_is)
    (case a_put_in_order => k_is)
    (case l_put_in_order => k_is)
    (case c_put_in_order => k_is)
    (case k_put_in_order => k_is)
    (case a_wires_of => k_is)
    (case l_wires_of => k_is)
    (case c_wires_of => k_is)
    (case k_wires_of => k_is)
    (case a_first_names => k_is)
    (case l_first_names => k_is)
    (case c_first_names => k_is)
    (case k_first_names => k_is)
    (case a_second_names => k_is)
    (case l_second_names => k_is)
    (case c_second_names => k_is)
    (case k_second_names => k_is)
    (case a_last_name => k_is)
    (case l_last_name => k_is)
    (case c_last_name => k_is)
    (case k_last_name => k_is)
    (case a_xor_clauses => k_is)
    (case l_xor_clauses => k_is)
    (case c_xor_clauses => k_is)
    (case k_xor_clauses => k_is)
    (case a_gate_clauses => k_is)
    (case l_gate_clauses => k_is)
    (case c_gate_clauses => k_is)
    (case k_gate_clauses => k_is)
    (case a_pair_clauses => k_is)
    (case l_pair_clauses => k_is)
    (case c_pair_clauses => k_is)
    (case k_pair_clauses => k_is)
    (case a_check_pairs => k_is)
    (case l_check_pairs => k_is)
    (case c_check_pairs => k_is)
    (case k_check_pairs => k_is)
    (case a_goal_wires => k_is)
    (case l_goal_wires => k_is)
    (case c_goal_wires => k_is)
    (case k_goal_wires => k_is)
    (case a_given_clauses => k_is)
    (case l_given_clauses => k_is)
    (case c_given_clauses => k_is)
    (case k_given_clauses => k_is)
    (case a__law_spoil => k_is)
    (case l__law_spoil => k_is)
    (case c__law_spoil => k_is)
    (case k__law_spoil => k_is)
    (case a__law_net => k_is)
    (case l__law_net => k_is)
    (case c__law_net => k_is)
    (case k__law_net => k_is)
    (case a__law_wires => k_is)
    (case l__law_wires => k_is)
    (case c__law_wires => k_is)
    (case k__law_wires => k_is)
    (case a__law_tuples => k_is)
    (case l__law_tuples => k_is)
    (case c__law_tuples => k_is)
    (case k__law_tuples => k_is)
    (case a__law_clause => k_is)
    (case l__law_clause => k_is)
    (case c__law_clause => k_is)
    (case k__law_clause => k_is)
    (case a__law_given => k_is)
    (case l__law_given => k_is)
    (case c__law_given => k_is)
    (case k__law_given => k_is)
    (case a__law_why => k_is)
    (case l__law_why => k_is)
    (case c__law_why => k_is)
    (case k__law_why => k_is)
    (case a_law => k_is)
    (case l_law => k_is)
    (case c_law => k_is)
    (case k_law => k_is)
    (case z_abs => k_is)
    (case z_bool => k_is)
    (case z_enumerate => k_is)
    (case z_int => k_is)
    (case z_isinstance => k_is)
    (case z_len => k_is)
    (case z_list => k_is)
    (case z_max => k_is)
    (case z_range => k_is)
    (case z_set => k_is)
    (case z_sorted => k_is)
    (case z_str => k_is)
    (case z_tuple => k_is)
    (case x_InvalidNet => k_is)
    (case v_InvalidNet => rfl)
    (case sa_InvalidNet => k_is)
    (case ga_InvalidNet => k_is)
    (case gg_InvalidNet => k_is)
    (case n_InvalidNet => k_is)
    (case i_InvalidNet => k_is)
    (case t_InvalidNet => k_is)
    (case l_InvalidNet => k_is)
    (case c_InvalidNet => k_is)
    (case kc_InvalidNet => k_is)
    (case e_InvalidNet => k_is)
    (case tt_InvalidNet => k_is)
    (case hd_InvalidNet => k_is)
    (case ic_InvalidNet => k_is)
    (case ss_InvalidNet => k_is)
    (case mr_InvalidNet => k_is)
    (case su_InvalidNet => ks_is)
    (case sb_InvalidNet => k_is)
    (case th_InvalidNet => k_is)
    (case ce_InvalidNet => k_is)
    (case co_InvalidNet => k_is)
    (case cv_InvalidNet => rfl)
    (case cf_InvalidNet => decide +kernel)
    (case tp_InvalidNet => decide +kernel)
    (case zs_InvalidNet => k_is)
    (case x_InvalidProof => k_is)
    (case v_InvalidProof => rfl)
    (case sa_InvalidProof => k_is)
    (case ga_InvalidProof => k_is)
    (case gg_InvalidProof => k_is)
    (case n_InvalidProof => k_is)
    (case i_InvalidProof => k_is)
    (case t_InvalidProof => k_is)
    (case l_InvalidProof => k_is)
    (case c_InvalidProof => k_is)
    (case kc_InvalidProof => k_is)
    (case e_InvalidProof => k_is)
    (case tt_InvalidProof => k_is)
    (case hd_InvalidProof => k_is)
    (case ic_InvalidProof => k_is)
    (case ss_InvalidProof => k_is)
    (case mr_InvalidProof => k_is)
    (case su_InvalidProof => ks_is)
    (case sb_InvalidProof => k_is)
    (case th_InvalidProof => k_is)
    (case ce_InvalidProof => k_is)
    (case co_InvalidProof => k_is)
    (case cv_InvalidProof => rfl)
    (case cf_InvalidProof => decide +kernel)
    (case tp_InvalidProof => decide +kernel)
    (case zs_InvalidProof => k_is)
    (case be_GateError => k_is)
    (case bh_GateError => k_is)
    (case bt_GateError => k_is)
    (case bg_GateError => k_is)
    (case bx_GateError => k_is)
    (case gs_InvalidNet => k_is)
    (case gc_InvalidNet => k_is)
    (case gm_InvalidNet => k_is)
    (case gk_InvalidNet_InvalidProof => k_is)
    (case gs_InvalidProof => k_is)
    (case gc_InvalidProof => k_is)
    (case gm_InvalidProof => k_is)
    (case gk_InvalidProof_InvalidNet => k_is)

