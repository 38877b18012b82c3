import PyProof.Rows.All
import Wide.All
import OpenK.AllK
import Wide.FinOn
import HandS.ForMost
import HandS.Codes
import HandS.IsInst
import HandS.Deep
import HandS.Style
import HandS.Wide
import HandS.TupAny
import PySem.Challenge.RW_gatework_k43_whole_diagrams
set_option Elab.async false
set_option linter.all false
set_option maxRecDepth 100000
set_option maxHeartbeats 8000000
/-! ## general lemmas about the abstract heap and data (my own) -/
namespace G
open PySem L2

theorem same_new {H : Hp} {p : Addr} {o : HO} (h : H p = none) : Same H (upd H p o) := fun b u e => by
  rw [upd_ne (ne_of_none e h)]
  exact e
theorem same_mut {H H' : Hp} {p : Addr} {o : HO} (e : Same H H') (h : H p = none) : Same H (upd H' p o) := fun a u ha => by
  rw [upd_ne (ne_of_none ha h)]
  exact e a u ha
/-- all but what stands at a is as it was -/
def But (a : Addr) (H H' : Hp) : Prop := ∀ b o, b ≠ a → H b = some o → H' b = some o
theorem But.refl (a : Addr) (H : Hp) : But a H H := fun _ _ _ h => h
theorem But.trans {a : Addr} {H H1 H2 : Hp} (x : But a H H1) (y : But a H1 H2) : But a H H2 := fun b o n h => y b o n (x b o n h)
theorem But.of {a : Addr} {H H' : Hp} (x : Same H H') : But a H H' := fun b o _ h => x b o h
theorem but_upd {H : Hp} {p : Addr} {o : HO} : But p H (upd H p o) := fun b u n e => by
  rw [upd_ne n]
  exact e
theorem upd_self {H : Hp} {a : Addr} {o : HO} (h : H a = some o) : upd H a o = H := by
  funext b
  unfold upd
  split
  · rename_i e
    rw [e, h]
  · rfl
theorem Same.tup {K : PySem.W.Frag} {H H' : Hp} {a : Addr} {xs : List V} (e : Same H H') (h : SqT K H a xs) : SqT K H' a xs := by
  rcases h with (h | ⟨o, h⟩) | h
  · exact .inl (.inl (e _ _ h))
  · exact .inl (.inr ⟨o, e _ _ h⟩)
  · exact .inr h
theorem SqT.of' {K : PySem.W.Frag} {H : Hp} {a : Addr} {xs : List V} (h : H a = some (.tup xs)) : SqT K H a xs := .inl (.inl h)
theorem SqL.of' {K : PySem.W.Frag} {H : Hp} {a : Addr} {xs : List V} (h : H a = some (.lst xs)) : SqL K H a xs := .inl (.inl h)

mutual
theorem dp_same {K : PySem.W.Frag} {H H' : Hp} (e : Same H H') : ∀ {v : V} {d : PyData}, Dp K H v d → Dp K H' v d
  | _, _, .non => .non
  | _, _, .bl b => .bl b
  | _, _, .int i => .int i
  | _, _, .str x => .str x
  | _, _, .lst h a => .lst (Same.seq e h) (dps_same e a)
  | _, _, .tup h a => .tup (Same.tup e h) (dps_same e a)
theorem dps_same {K : PySem.W.Frag} {H H' : Hp} (e : Same H H') : ∀ {v : List V} {d : List PyData}, DpAll K H v d → DpAll K H' v d
  | _, _, .nil => .nil
  | _, _, .cons h t => .cons (dp_same e h) (dps_same e t)
end
theorem dp_int {K : PySem.W.Frag} {H : Hp} {v : V} {i : Int} (h : Dp K H v (.int i)) : v = .int i := by cases h; rfl
theorem dp_str {K : PySem.W.Frag} {H : Hp} {v : V} {i : Str} (h : Dp K H v (.str i)) : v = .str i := by cases h; rfl
theorem dp_bl {K : PySem.W.Frag} {H : Hp} {v : V} {i : Bool} (h : Dp K H v (.bool i)) : v = .bl i := by cases h; rfl
theorem dp_non {K : PySem.W.Frag} {H : Hp} {v : V} (h : Dp K H v .none) : v = .non := by cases h; rfl
theorem dp_lst {K : PySem.W.Frag} {H : Hp} {v : V} {ds : List PyData} (h : Dp K H v (.list ds)) : ∃ a xs, v = .ref a ∧ SqL K H a xs ∧ DpAll K H xs ds := by
  cases h with
  | lst h a => exact ⟨_, _, rfl, h, a⟩
theorem dp_tup {K : PySem.W.Frag} {H : Hp} {v : V} {ds : List PyData} (h : Dp K H v (.tuple ds)) : ∃ a xs, v = .ref a ∧ SqT K H a xs ∧ DpAll K H xs ds := by
  cases h with
  | tup h a => exact ⟨_, _, rfl, h, a⟩
theorem dps_len {K : PySem.W.Frag} {H : Hp} : ∀ {vs : List V} {ds : List PyData}, DpAll K H vs ds → vs.length = ds.length
  | _, _, .nil => rfl
  | _, _, .cons _ t => congrArg (· + 1) (dps_len t)
theorem dps_get {K : PySem.W.Frag} {H : Hp} : ∀ {vs : List V} {ds : List PyData} {i : Nat} {d : PyData}, DpAll K H vs ds → ds[i]? = some d → ∃ v, vs[i]? = some v ∧ Dp K H v d
  | _, _, i, d, .nil, e => by simp at e
  | _, _, 0, d, .cons h t, e => by
    simp at e
    subst e
    exact ⟨_, rfl, h⟩
  | _, _, i + 1, d, .cons h t, e => by
    obtain ⟨v, h1, h2⟩ := dps_get (i := i) (d := d) t (by simpa using e)
    exact ⟨v, by simpa using h1, h2⟩
theorem dps_getv {K : PySem.W.Frag} {H : Hp} : ∀ {vs : List V} {ds : List PyData} {i : Nat} {v : V}, DpAll K H vs ds → vs[i]? = some v → ∃ d, ds[i]? = some d ∧ Dp K H v d
  | _, _, i, d, .nil, e => by simp at e
  | _, _, 0, d, .cons h t, e => by
    simp at e
    subst e
    exact ⟨_, rfl, h⟩
  | _, _, i + 1, d, .cons h t, e => by
    obtain ⟨v, h1, h2⟩ := dps_getv (i := i) (v := d) t (by simpa using e)
    exact ⟨v, by simpa using h1, h2⟩
theorem dps_app {K : PySem.W.Frag} {H : Hp} : ∀ {vs ws : List V} {ds es : List PyData}, DpAll K H vs ds → DpAll K H ws es → DpAll K H (vs ++ ws) (ds ++ es)
  | _, _, _, _, .nil, t => t
  | _, _, _, _, .cons h r, t => .cons h (dps_app r t)
theorem dps_snoc {K : PySem.W.Frag} {H : Hp} {vs : List V} {w : V} {ds : List PyData} {e : PyData} (h : DpAll K H vs ds) (t : Dp K H w e) : DpAll K H (vs ++ [w]) (ds ++ [e]) := dps_app h (.cons t .nil)
theorem dps_take {K : PySem.W.Frag} {H : Hp} : ∀ {vs : List V} {ds : List PyData} (n : Nat), DpAll K H vs ds → DpAll K H (vs.take n) (ds.take n)
  | _, _, 0, _ => by simpa using .nil
  | _, _, _ + 1, .nil => .nil
  | _, _, n + 1, .cons h t => .cons h (dps_take n t)
theorem dps_drop {K : PySem.W.Frag} {H : Hp} : ∀ {vs : List V} {ds : List PyData} (n : Nat), DpAll K H vs ds → DpAll K H (vs.drop n) (ds.drop n)
  | _, _, 0, h => h
  | _, _, _ + 1, .nil => .nil
  | _, _, n + 1, .cons h t => dps_drop n t
theorem dps_rev {K : PySem.W.Frag} {H : Hp} : ∀ {vs : List V} {ds : List PyData}, DpAll K H vs ds → DpAll K H vs.reverse ds.reverse
  | _, _, .nil => .nil
  | _, _, .cons h t => by
    rw [List.reverse_cons, List.reverse_cons]
    exact dps_snoc (dps_rev t) h
theorem dps_set {K : PySem.W.Frag} {H : Hp} {v : V} {d : PyData} (hd : Dp K H v d) : ∀ {vs : List V} {ds : List PyData} (n : Nat), DpAll K H vs ds → DpAll K H (vs.set n v) (ds.set n d)
  | _, _, _, .nil => .nil
  | _, _, 0, .cons _ t => .cons hd t
  | _, _, n + 1, .cons h t => .cons h (dps_set hd n t)
theorem dps_ints {K : PySem.W.Frag} {H : Hp} : ∀ (ns : List Int), DpAll K H (ns.map V.int) (ns.map PyData.int)
  | [] => .nil
  | n :: r => .cons (.int n) (dps_ints r)
theorem dps_ints_of {K : PySem.W.Frag} {H : Hp} : ∀ {ns : List Int} {vs : List V}, DpAll K H vs (ns.map PyData.int) → vs = ns.map V.int
  | [], _, .nil => rfl
  | n :: r, _, .cons h t => by
    cases dp_int h
    rw [dps_ints_of t]
    rfl
/-- the name of a datum's type -/
def tyD : PyData → String
  | .none => "NoneType"
  | .bool _ => "bool"
  | .int _ => "int"
  | .str _ => "str"
  | .list _ => "list"
  | .tuple _ => "tuple"
  | .dict _ => "dict"
theorem dp_ty {K : PySem.W.Frag} {H : Hp} {v : V} {d : PyData} (h : Dp K H v d) : TyX K H v (.type (tyD d)) := by
  cases h with
  | non => exact .base .non
  | bl b => exact .base (.bl b)
  | int i => exact .base (.int i)
  | str x => exact .base (.str x)
  | lst h a =>
    rcases h with (h | ⟨o, h⟩) | ⟨o, _, _, h1, h2, _⟩
    · exact .base (.lst h)
    · exact .base (.frz h)
    · exact .kList h1 h2
  | tup h a =>
    rcases h with (h | ⟨o, h⟩) | ⟨o, _, _, h1, h2, _⟩
    · exact .base (.tup h)
    · exact .fTuple h
    · exact .kTuple h1 h2
/-- isinstance(x, T) of data: the answers -/
def isT (t T : String) : Bool := decide (t = T) || (decide (t = "bool") && decide (T = "int"))
def isD (T : String) (d : PyData) : Bool := isT (tyD d) T
theorem kit_tab : ∀ t ∈ ["NoneType", "bool", "int", "str", "list", "tuple", "dict"], ∀ T ∈ ["int", "bool", "str", "list", "tuple", "dict"], kitB t T = some (isT t T) := by decide +kernel
theorem tyD_mem (d : PyData) : tyD d ∈ ["NoneType", "bool", "int", "str", "list", "tuple", "dict"] := by cases d <;> simp [tyD]
theorem kitD (K : PySem.W.Frag) (d : PyData) (T : String) (hT : T ∈ ["int", "bool", "str", "list", "tuple", "dict"]) : PySem.W.kitOne K (.type (tyD d)) (.type T) = some (isD T d) :=
  kit_ty (kit_tab _ (tyD_mem d) T hT)
theorem kitD2 (K : PySem.W.Frag) (d : PyData) (S T : String) (hS : S ∈ ["int", "bool", "str", "list", "tuple", "dict"]) (hT : T ∈ ["int", "bool", "str", "list", "tuple", "dict"]) :
    PySem.W.kitAny K (.type (tyD d)) [.type S, .type T] = some (isD S d || isD T d) := by
  refine kitAny_cons (kitD K d S hS) (fun h => ?_) (fun h => by rw [h]; rfl)
  rw [h]
  refine kitAny_cons (kitD K d T hT) (fun h => ?_) (fun h => by rw [h]; rfl)
  rw [h]
  rfl
theorem clsv2 (S T : String) : Paired ClsV [V.ty S, V.ty T] [Value.type S, Value.type T] := .cons (.ty S) (.cons (.ty T) .nil)
/-- items of a list, a tuple by a number that is not below 0 -/
theorem at_nat {xs : List V} {i : Nat} {v : V} (h : xs[i]? = some v) : atI xs (i : Int) = some v := atI_nat h
/-- only a deck is known: some ints, not many -/
def Deck (H : Hp) (a : Addr) : Prop := ∃ ds : List Int, ds.length ≤ 2000 ∧ H a = some (.lst (ds.map V.int))
theorem Deck.same {H H' : Hp} {a : Addr} (h : Deck H a) (e : Same H H') : Deck H' a := let ⟨ds, h1, h2⟩ := h; ⟨ds, h1, e _ _ h2⟩

/-! ### the frame: what a call does not see stands as it was -/
/-- without the lists of S -/
def out (H : Hp) (S : Addr → Bool) : Hp := fun b => if S b = true then none else H b
/-- the lists of S put back -/
def back (H H' : Hp) (S : Addr → Bool) : Hp := fun b => if S b = true then H b else H' b
theorem out_in {H : Hp} {S : Addr → Bool} {b : Addr} (h : S b = true) : out H S b = none := by unfold out; rw [if_pos h]
theorem out_ne {H : Hp} {S : Addr → Bool} {b : Addr} (h : ¬ S b = true) : out H S b = H b := by unfold out; rw [if_neg h]
theorem back_in {H H' : Hp} {S : Addr → Bool} {b : Addr} (h : S b = true) : back H H' S b = H b := by unfold back; rw [if_pos h]
theorem back_ne {H H' : Hp} {S : Addr → Bool} {b : Addr} (h : ¬ S b = true) : back H H' S b = H' b := by unfold back; rw [if_neg h]
/-- a promise that may be used over a part of the heap -/
@[irreducible] def fr (sp : Sp) : Sp := fun vs H Q E => ∃ S : Addr → Bool, (∀ b, S b = true → ∃ xs, H b = some (.lst xs)) ∧ sp vs (out H S) (fun v H' => (∀ b, S b = true → H' b = none) → Q v (back H H' S)) E
theorem fn_fr {P : Program} {w : World} {K : PySem.W.Frag} {mg : Str → Option Value} {base : Heap} {k : Nat} {f : Addr} {fd : FuncData} {ps : List Str} {sp : Sp} (F : FnOk P w K mg base CX0 k f fd ps sp) : FnOk P w K mg base CX0 k f fd ps (fr sp) := by
  refine ⟨fun vs H Q E hs => by unfold fr at hs; obtain ⟨S, _, h⟩ := hs; exact F.len _ _ _ _ h, fun A outer s H args us vs Q E hr e0 hb hv hs => ?_⟩
  unfold fr at hs
  obtain ⟨S, hS, h⟩ := hs
  have hne : ∀ b, H b = none → ¬ S b = true := fun b n q => by
    obtain ⟨xs, e⟩ := hS b q
    rw [n] at e
    cases e
  have hout : ∀ b, H b = none → out H S b = none := fun b n => by rw [out_ne (hne b n)]; exact n
  have hoth : ∀ b o, H b = some o → (∀ xs, o ≠ .lst xs) → ¬ S b = true := fun b o e n q => by
    obtain ⟨xs, e'⟩ := hS b q
    rw [e] at e'
    exact n xs (Option.some.inj e')
  have okout : HOk P w (out H S) s.heap := fun a o e => by
    have ns : ¬ S a = true := fun q => by rw [out_in q] at e; cases e
    rw [out_ne ns] at e
    refine (e0.hok a o e).stay (fun b u _ q => q) (fun b q => ?_) (fun b xs q => ?_)
    · rw [out_ne (hoth b _ q fun xs z => by cases z)]; exact q
    · rw [out_ne (hoth b _ q fun xs z => by cases z)]; exact q
  have e1 : Env0 P w K mg base A outer s (out H S) := ⟨e0.frames, e0.mod, fun b o q => ⟨(e0.bs b o q).1, hout b (e0.bs b o q).2⟩, e0.bsz, e0.funs, fun b q => hout b (e0.frf b q), okout, e0.bare⟩
  refine codeAny_mono (F.run A outer s (out H S) args us vs _ E hr e1 hb hv h) fun r s' q => ?_
  cases r with
  | error e => exact q
  | ok fl =>
    cases fl with
    | next => exact q
    | brk => exact q
    | cont => exact q
    | ret u =>
      obtain ⟨v, H', os, bare, un, hok, rv, q⟩ := q
      have hobj : ∀ b, S b = true → ∃ o, s.heap.get? b = some o := fun b q => by
        obtain ⟨xs, e⟩ := hS b q
        obtain ⟨_, its, n, _, e'⟩ := e0.hok b _ e
        exact ⟨_, e'⟩
      have hfree : ∀ b, S b = true → H' b = none := fun b q => by
        obtain ⟨o, e⟩ := hobj b q
        exact un.free b o e (out_in q) (by simp)
      have hkeep : ∀ b o, S b = true → s.heap.get? b = some o → s'.heap.get? b = some o := fun b o q e => by
        obtain ⟨xs, e'⟩ := hS b q
        exact un.keep b o e (out_in q) (fun z => by rw [e0.frf b z] at e'; cases e') (by simp)
      refine ⟨v, back H H' S, os, bare, ⟨fun b o e n hb hx => un.keep b o e (hout b n) hb hx, fun b o e n hb hx => un.slot b o e (hout b n) hb hx, fun b o e n hx => ?_, un.there, fun b xs e => ?_, fun b o u e => ?_, fun b ps e => ?_⟩, fun a o e => ?_, rv, q hfree⟩
      · rw [back_ne (hne b n)]
        exact un.free b o e (hout b n) hx
      · have ns := hoth b _ e fun xs z => by cases z
        rw [back_ne ns]
        exact un.tups b xs (by rw [out_ne ns]; exact e)
      · have ns := hoth b _ e fun xs z => by cases z
        rw [back_ne ns]
        exact un.frzs b o u (by rw [out_ne ns]; exact e)
      · have ns := hoth b _ e fun xs z => by cases z
        rw [back_ne ns]
        exact un.tbls b ps (by rw [out_ne ns]; exact e)
      · by_cases sa : S a = true
        · rw [back_in sa] at e
          obtain ⟨xs, e'⟩ := hS a sa
          rw [e'] at e
          cases e
          obtain ⟨hl, its, n, r, g⟩ := e0.hok a _ e'
          exact ⟨hl, its, n, r, hkeep a _ sa g⟩
        · rw [back_ne sa] at e
          refine (hok a o e).stay (fun b u _ z => z) (fun b z => ?_) (fun b xs z => ?_)
          · rw [back_ne fun sb => by rw [hfree b sb] at z; cases z]; exact z
          · rw [back_ne fun sb => by rw [hfree b sb] at z; cases z]; exact z
/-- one list put aside -/
theorem fr_one {sp : Sp} {vs : List V} {G : Hp} {D : Addr} {acc : List V} {Q : VK} {E : XK} (hD : G D = none) (h : sp vs G (fun v G' => G' D = none → Q v (upd G' D (.lst acc))) E)
    (mono : ∀ (Q1 Q2 : VK), (∀ v G', Q1 v G' → Q2 v G') → sp vs G Q1 E → sp vs G Q2 E) : fr sp vs (upd G D (.lst acc)) Q E := by
  have e : out (upd G D (.lst acc)) (fun b => decide (b = D)) = G := by
    funext b
    unfold out upd
    by_cases hb : b = D
    · rw [if_pos (decide_eq_true hb), hb, hD]
    · rw [if_neg (fun z => hb (of_decide_eq_true z)), if_neg hb]
  unfold fr
  refine ⟨fun b => decide (b = D), fun b hb => ⟨acc, by rw [of_decide_eq_true hb, upd_same]⟩, ?_⟩
  rw [e]
  refine mono _ _ (fun v G' q hn => ?_) h
  have hn' : G' D = none := hn D (decide_eq_true rfl)
  have e2 : back (upd G D (.lst acc)) G' (fun b => decide (b = D)) = upd G' D (.lst acc) := by
    funext b
    unfold back upd
    by_cases hb : b = D
    · rw [if_pos (decide_eq_true hb), if_pos hb, if_pos hb]
    · rw [if_neg (fun z => hb (of_decide_eq_true z)), if_neg hb]
  rw [e2]
  exact q hn'
/-- a comprehension over data, with one test, that changes nothing: its list has the images of those that are kept -/
theorem lc_data {K : PySem.W.Frag} {a : Addr} {xs : List V} {ds : List PyData} {gt : TG} {tt : TT} {te : TE} {vs : List Nat} {σ : St} {H1 : Hp} {D : Addr} {Qd : Hp → Prop} (p : PyData → Bool) (g : PyData → PyData)
    (hx : SqL K H1 a xs) (hd : DpAll K H1 xs ds) (hD : H1 D = none) (hl : ds.length ≤ 100000)
    (hs : ∀ (v : V) (d : PyData) (G : Hp) (acc : List V) (R : Hp → Prop), d ∈ ds → Dp K G v d → Same H1 G → G D = none → acc.length < sizeLine →
      (p d = false → ∀ G', Same G G' → G' D = none → R (upd G' D (.lst acc))) →
      (p d = true → ∀ (G' : Hp) (u : V), Same G G' → G' D = none → Dp K G' u (g d) → R (upd G' D (.lst (acc ++ [u])))) →
      gt v (wipe σ vs) (upd G D (.lst acc)) fun σ2 H2 => wipe σ2 vs = wipe σ vs ∧ tt σ2 H2 fun b H3 =>
        if b = true then te σ2 H3 fun y H4 => ∃ acc, H4 D = some (.lst acc) ∧ acc.length < sizeLine ∧ R (upd H4 D (.lst (acc ++ [y]))) else R H3)
    (hq : ∀ (G : Hp) (ys : List V), Same H1 G → G D = none → DpAll K G ys ((ds.filter p).map g) → Qd (upd G D (.lst ys))) :
    ∃ W : Nat → Nat → Hp → Prop, (∃ m, W 0 m (upd H1 D (.lst []))) ∧ ∀ i m H, W i m H →
      ((Itl K a).stop i H ∧ Qd H) ∨ ((Itl K a).go i H ∧ ∃ Nx : Hp → Prop, (∀ H', Nx H' → ∃ m', m' < m ∧ W (i + 1) m' H') ∧ ∀ x H', (Itl K a).yld i H x H' → gt x (wipe σ vs) H' fun σ2 H2 => wipe σ2 vs = wipe σ vs ∧ tt σ2 H2 fun b H3 =>
        if b = true then te σ2 H3 fun y H4 => ∃ acc, H4 D = some (.lst acc) ∧ acc.length < sizeLine ∧ Nx (upd H4 D (.lst (acc ++ [y]))) else Nx H3) := by
  have hxd := dps_len hd
  refine lc_list (K := K) (a := a) (xs := xs) (fun i H => ∃ (G : Hp) (ys : List V), Same H1 G ∧ G D = none ∧ H = upd G D (.lst ys) ∧ DpAll K G ys (((ds.take i).filter p).map g)) ⟨H1, [], Same.refl _, hD, rfl, .nil⟩ ?_ ?_ ?_
  · rintro i H _ ⟨G, ys, s, hG, rfl, _⟩
    exact (same_new hG).seq (s.seq hx)
  · rintro i x H hi ⟨G, ys, s, hG, rfl, hy⟩
    obtain ⟨d, hdi, dx⟩ := dps_getv hd hi
    have il : i < ds.length := (List.getElem?_eq_some_iff.mp hdi).1
    have dm : d ∈ ds := List.mem_of_getElem? hdi
    have yl : ys.length ≤ i := by
      rw [dps_len hy, List.length_map]
      refine Nat.le_trans (List.length_filter_le _ _) ?_
      rw [List.length_take]
      omega
    have tk : ds.take (i + 1) = ds.take i ++ [d] := by rw [List.take_add_one, hdi]; rfl
    refine hs x d G ys _ dm (dp_same s dx) s hG (Nat.lt_of_lt_of_le (show ys.length < 100001 by omega) (by decide)) (fun pf G' s' hG' => ⟨G', ys, s.trans s', hG', rfl, ?_⟩) (fun pt G' u s' hG' du => ⟨G', _, s.trans s', hG', rfl, ?_⟩)
    · rw [tk, List.filter_append, List.filter_cons, if_neg (by rw [pf]; decide), List.filter_nil, List.append_nil]
      exact dps_same s' hy
    · rw [tk, List.filter_append, List.filter_cons, if_pos pt, List.filter_nil, List.map_append]
      exact dps_snoc (dps_same s' hy) du
  · rintro H ⟨G, ys, s, hG, rfl, hy⟩
    refine hq G ys s hG ?_
    rw [List.take_of_length_le (by omega)] at hy
    exact hy
/-- .. over a tuple -/
theorem lc_dataT {K : PySem.W.Frag} {a : Addr} {xs : List V} {ds : List PyData} {gt : TG} {tt : TT} {te : TE} {vs : List Nat} {σ : St} {H1 : Hp} {D : Addr} {Qd : Hp → Prop} (p : PyData → Bool) (g : PyData → PyData)
    (hx : SqT K H1 a xs) (hd : DpAll K H1 xs ds) (hD : H1 D = none) (hl : ds.length ≤ 100000)
    (hs : ∀ (v : V) (d : PyData) (G : Hp) (acc : List V) (R : Hp → Prop), d ∈ ds → Dp K G v d → Same H1 G → G D = none → acc.length < sizeLine →
      (p d = false → ∀ G', Same G G' → G' D = none → R (upd G' D (.lst acc))) →
      (p d = true → ∀ (G' : Hp) (u : V), Same G G' → G' D = none → Dp K G' u (g d) → R (upd G' D (.lst (acc ++ [u])))) →
      gt v (wipe σ vs) (upd G D (.lst acc)) fun σ2 H2 => wipe σ2 vs = wipe σ vs ∧ tt σ2 H2 fun b H3 =>
        if b = true then te σ2 H3 fun y H4 => ∃ acc, H4 D = some (.lst acc) ∧ acc.length < sizeLine ∧ R (upd H4 D (.lst (acc ++ [y]))) else R H3)
    (hq : ∀ (G : Hp) (ys : List V), Same H1 G → G D = none → DpAll K G ys ((ds.filter p).map g) → Qd (upd G D (.lst ys))) :
    ∃ W : Nat → Nat → Hp → Prop, (∃ m, W 0 m (upd H1 D (.lst []))) ∧ ∀ i m H, W i m H →
      ((Itt K a).stop i H ∧ Qd H) ∨ ((Itt K a).go i H ∧ ∃ Nx : Hp → Prop, (∀ H', Nx H' → ∃ m', m' < m ∧ W (i + 1) m' H') ∧ ∀ x H', (Itt K a).yld i H x H' → gt x (wipe σ vs) H' fun σ2 H2 => wipe σ2 vs = wipe σ vs ∧ tt σ2 H2 fun b H3 =>
        if b = true then te σ2 H3 fun y H4 => ∃ acc, H4 D = some (.lst acc) ∧ acc.length < sizeLine ∧ Nx (upd H4 D (.lst (acc ++ [y]))) else Nx H3) := by
  have hxd := dps_len hd
  refine lc_tup (K := K) (a := a) (xs := xs) (fun i H => ∃ (G : Hp) (ys : List V), Same H1 G ∧ G D = none ∧ H = upd G D (.lst ys) ∧ DpAll K G ys (((ds.take i).filter p).map g)) ⟨H1, [], Same.refl _, hD, rfl, .nil⟩ ?_ ?_ ?_
  · rintro i H _ ⟨G, ys, s, hG, rfl, _⟩
    exact Same.tup (same_new hG) (Same.tup s hx)
  · rintro i x H hi ⟨G, ys, s, hG, rfl, hy⟩
    obtain ⟨d, hdi, dx⟩ := dps_getv hd hi
    have il : i < ds.length := (List.getElem?_eq_some_iff.mp hdi).1
    have dm : d ∈ ds := List.mem_of_getElem? hdi
    have yl : ys.length ≤ i := by
      rw [dps_len hy, List.length_map]
      refine Nat.le_trans (List.length_filter_le _ _) ?_
      rw [List.length_take]
      omega
    have tk : ds.take (i + 1) = ds.take i ++ [d] := by rw [List.take_add_one, hdi]; rfl
    refine hs x d G ys _ dm (dp_same s dx) s hG (Nat.lt_of_lt_of_le (show ys.length < 100001 by omega) (by decide)) (fun pf G' s' hG' => ⟨G', ys, s.trans s', hG', rfl, ?_⟩) (fun pt G' u s' hG' du => ⟨G', _, s.trans s', hG', rfl, ?_⟩)
    · rw [tk, List.filter_append, List.filter_cons, if_neg (by rw [pf]; decide), List.filter_nil, List.append_nil]
      exact dps_same s' hy
    · rw [tk, List.filter_append, List.filter_cons, if_pos pt, List.filter_nil, List.map_append]
      exact dps_snoc (dps_same s' hy) du
  · rintro H ⟨G, ys, s, hG, rfl, hy⟩
    refine hq G ys s hG ?_
    rw [List.take_of_length_le (by omega)] at hy
    exact hy
/-- x is True, x is not True: x any flat value but a number, a text -/
def rIsX (neg : Bool) : R2 := fun x y H Q => ∃ b : Bool, y = .bl b ∧ (x = .non ∨ (∃ a : Bool, x = .bl a) ∨ (∃ i : Int, x = .int i) ∨ ∃ z : Str, x = .str z) ∧ Q (.bl (if neg = true then !decide (x = .bl b) else decide (x = .bl b))) H
section
variable {X : Cx}
theorem op_isX : OpR X (compareOp .Is) (rIsX false) := by
  intro pins s σ H x y v u Q I rx ry h
  obtain ⟨b, rfl, hx, q⟩ := h
  cases (show u = Value.bool b from ry)
  rcases hx with rfl | ⟨a, rfl⟩ | ⟨i, rfl⟩ | ⟨z, rfl⟩
  · cases (show v = Value.none from rx)
    exact PySem.wpAny_is_other rfl (fun z => nomatch z) ⟨.bl false, H, I, rfl, by simpa using q⟩
  · cases (show v = Value.bool a from rx)
    by_cases e : a = b
    · subst e
      exact PySem.wpAny_is_self rfl ⟨.bl true, H, I, rfl, by simpa using q⟩
    · exact PySem.wpAny_is_other rfl (fun z => e (Value.bool.inj z)) ⟨.bl false, H, I, rfl, by simpa [e] using q⟩
  · obtain ⟨t, rfl⟩ := (show ∃ t, v = Value.int i t from rx)
    exact PySem.wpAny_is_other rfl (fun z => nomatch z) ⟨.bl false, H, I, rfl, by simpa using q⟩
  · obtain ⟨t, rfl⟩ := (show ∃ t, v = Value.str z t from rx)
    exact PySem.wpAny_is_other rfl (fun z => nomatch z) ⟨.bl false, H, I, rfl, by simpa using q⟩
theorem op_notX : OpR X (compareOp .IsNot) (rIsX true) := by
  intro pins s σ H x y v u Q I rx ry h
  obtain ⟨b, rfl, hx, q⟩ := h
  cases (show u = Value.bool b from ry)
  rcases hx with rfl | ⟨a, rfl⟩ | ⟨i, rfl⟩ | ⟨z, rfl⟩
  · cases (show v = Value.none from rx)
    exact PySem.wpAny_isNot_other rfl (fun z => nomatch z) ⟨.bl true, H, I, rfl, by simpa using q⟩
  · cases (show v = Value.bool a from rx)
    by_cases e : a = b
    · subst e
      exact PySem.wpAny_isNot_self rfl ⟨.bl false, H, I, rfl, by simpa using q⟩
    · exact PySem.wpAny_isNot_other rfl (fun z => e (Value.bool.inj z)) ⟨.bl true, H, I, rfl, by simpa [e] using q⟩
  · obtain ⟨t, rfl⟩ := (show ∃ t, v = Value.int i t from rx)
    exact PySem.wpAny_isNot_other rfl (fun z => nomatch z) ⟨.bl true, H, I, rfl, by simpa using q⟩
  · obtain ⟨t, rfl⟩ := (show ∃ t, v = Value.str z t from rx)
    exact PySem.wpAny_isNot_other rfl (fun z => nomatch z) ⟨.bl true, H, I, rfl, by simpa using q⟩
end
theorem upd_app {G : Hp} {D : Addr} {acc ys : List V} : upd (upd G D (.lst acc)) D (.lst ys) = upd G D (.lst ys) := upd_upd

/-! ### lists whose items stand in a relation to plain things -/
theorem paired_get {α β : Type} {F : α → β → Prop} : ∀ {l₁ : List α} {l₂ : List β} {i : Nat} {b : β}, Paired F l₁ l₂ → l₂[i]? = some b → ∃ a, l₁[i]? = some a ∧ F a b
  | _, _, i, b, .nil, e => by simp at e
  | _, _, 0, b, .cons h t, e => by
    simp at e
    subst e
    exact ⟨_, rfl, h⟩
  | _, _, i + 1, b, .cons h t, e => by
    obtain ⟨v, h1, h2⟩ := paired_get (i := i) (b := b) t (by simpa using e)
    exact ⟨v, by simpa using h1, h2⟩
theorem paired_getv {α β : Type} {F : α → β → Prop} : ∀ {l₁ : List α} {l₂ : List β} {i : Nat} {a : α}, Paired F l₁ l₂ → l₁[i]? = some a → ∃ b, l₂[i]? = some b ∧ F a b
  | _, _, i, b, .nil, e => by simp at e
  | _, _, 0, b, .cons h t, e => by
    simp at e
    subst e
    exact ⟨_, rfl, h⟩
  | _, _, i + 1, b, .cons h t, e => by
    obtain ⟨v, h1, h2⟩ := paired_getv (i := i) (a := b) t (by simpa using e)
    exact ⟨v, by simpa using h1, h2⟩
theorem paired_app {α β : Type} {F : α → β → Prop} : ∀ {l₁ m₁ : List α} {l₂ m₂ : List β}, Paired F l₁ l₂ → Paired F m₁ m₂ → Paired F (l₁ ++ m₁) (l₂ ++ m₂)
  | _, _, _, _, .nil, h => h
  | _, _, _, _, .cons h t, k => .cons h (paired_app t k)
theorem paired_take {α β : Type} {F : α → β → Prop} : ∀ {l₁ : List α} {l₂ : List β} (n : Nat), Paired F l₁ l₂ → Paired F (l₁.take n) (l₂.take n)
  | _, _, 0, _ => by simpa using .nil
  | _, _, _ + 1, .nil => .nil
  | _, _, n + 1, .cons h t => .cons h (paired_take n t)
theorem paired_drop {α β : Type} {F : α → β → Prop} : ∀ {l₁ : List α} {l₂ : List β} (n : Nat), Paired F l₁ l₂ → Paired F (l₁.drop n) (l₂.drop n)
  | _, _, 0, h => h
  | _, _, _ + 1, .nil => .nil
  | _, _, n + 1, .cons h t => paired_drop n t
theorem paired_rev {α β : Type} {F : α → β → Prop} : ∀ {l₁ : List α} {l₂ : List β}, Paired F l₁ l₂ → Paired F l₁.reverse l₂.reverse
  | _, _, .nil => .nil
  | _, _, .cons h t => by
    rw [List.reverse_cons, List.reverse_cons]
    exact Paired.snoc (paired_rev t) h
theorem paired_set {α β : Type} {F : α → β → Prop} {a : α} {b : β} (hd : F a b) : ∀ {l₁ : List α} {l₂ : List β} (n : Nat), Paired F l₁ l₂ → Paired F (l₁.set n a) (l₂.set n b)
  | _, _, _, .nil => .nil
  | _, _, 0, .cons _ t => .cons hd t
  | _, _, n + 1, .cons h t => .cons h (paired_set hd n t)
theorem paired_map {α β γ : Type} {F : α → β → Prop} {F' : α → γ → Prop} {g : β → γ} (h : ∀ a b, F a b → F' a (g b)) : ∀ {l₁ : List α} {l₂ : List β}, Paired F l₁ l₂ → Paired F' l₁ (l₂.map g)
  | _, _, .nil => .nil
  | _, _, .cons k t => .cons (h _ _ k) (paired_map h t)
/-- a comprehension with one test that changes nothing, over items that stand in a relation -/
theorem lc_rel {α β : Type} {K : PySem.W.Frag} {a : Addr} {xs : List V} {as : List α} {gt : TG} {tt : TT} {te : TE} {vs : List Nat} {σ : St} {H1 : Hp} {D : Addr} {Qd : Hp → Prop} (RA : Hp → V → α → Prop) (RB : Hp → V → β → Prop)
    (mA : ∀ {H H' : Hp} {v : V} {x : α}, Same H H' → RA H v x → RA H' v x) (mB : ∀ {H H' : Hp} {v : V} {x : β}, Same H H' → RB H v x → RB H' v x) (p : α → Bool) (g : α → β)
    (hx : SqL K H1 a xs) (hd : Paired (RA H1) xs as) (hD : H1 D = none) (hl : as.length ≤ 100000)
    (hs : ∀ (v : V) (x : α) (G : Hp) (acc : List V) (R : Hp → Prop), x ∈ as → RA G v x → Same H1 G → G D = none → acc.length < sizeLine →
      (p x = false → ∀ G', Same G G' → G' D = none → R (upd G' D (.lst acc))) →
      (p x = true → ∀ (G' : Hp) (u : V), Same G G' → G' D = none → RB G' u (g x) → R (upd G' D (.lst (acc ++ [u])))) →
      gt v (wipe σ vs) (upd G D (.lst acc)) fun σ2 H2 => wipe σ2 vs = wipe σ vs ∧ tt σ2 H2 fun b H3 =>
        if b = true then te σ2 H3 fun y H4 => ∃ acc, H4 D = some (.lst acc) ∧ acc.length < sizeLine ∧ R (upd H4 D (.lst (acc ++ [y]))) else R H3)
    (hq : ∀ (G : Hp) (ys : List V), Same H1 G → G D = none → Paired (RB G) ys ((as.filter p).map g) → Qd (upd G D (.lst ys))) :
    ∃ W : Nat → Nat → Hp → Prop, (∃ m, W 0 m (upd H1 D (.lst []))) ∧ ∀ i m H, W i m H →
      ((Itl K a).stop i H ∧ Qd H) ∨ ((Itl K a).go i H ∧ ∃ Nx : Hp → Prop, (∀ H', Nx H' → ∃ m', m' < m ∧ W (i + 1) m' H') ∧ ∀ x H', (Itl K a).yld i H x H' → gt x (wipe σ vs) H' fun σ2 H2 => wipe σ2 vs = wipe σ vs ∧ tt σ2 H2 fun b H3 =>
        if b = true then te σ2 H3 fun y H4 => ∃ acc, H4 D = some (.lst acc) ∧ acc.length < sizeLine ∧ Nx (upd H4 D (.lst (acc ++ [y]))) else Nx H3) := by
  have hxd := hd.length
  refine lc_list (K := K) (a := a) (xs := xs) (fun i H => ∃ (G : Hp) (ys : List V), Same H1 G ∧ G D = none ∧ H = upd G D (.lst ys) ∧ Paired (RB G) ys (((as.take i).filter p).map g)) ⟨H1, [], Same.refl _, hD, rfl, .nil⟩ ?_ ?_ ?_
  · rintro i H _ ⟨G, ys, s, hG, rfl, _⟩
    exact (same_new hG).seq (s.seq hx)
  · rintro i x H hi ⟨G, ys, s, hG, rfl, hy⟩
    obtain ⟨d, hdi, dx⟩ := paired_getv hd hi
    have il : i < as.length := (List.getElem?_eq_some_iff.mp hdi).1
    have dm : d ∈ as := List.mem_of_getElem? hdi
    have yl : ys.length ≤ i := by
      rw [hy.length, List.length_map]
      refine Nat.le_trans (List.length_filter_le _ _) ?_
      rw [List.length_take]
      omega
    have tk : as.take (i + 1) = as.take i ++ [d] := by rw [List.take_add_one, hdi]; rfl
    refine hs x d G ys _ dm (mA s dx) s hG (Nat.lt_of_lt_of_le (show ys.length < 100001 by omega) (by decide)) (fun pf G' s' hG' => ⟨G', ys, s.trans s', hG', rfl, ?_⟩) (fun pt G' u s' hG' du => ⟨G', _, s.trans s', hG', rfl, ?_⟩)
    · rw [tk, List.filter_append, List.filter_cons, if_neg (by rw [pf]; decide), List.filter_nil, List.append_nil]
      exact Paired.mapP hy fun _ _ z => mB s' z
    · rw [tk, List.filter_append, List.filter_cons, if_pos pt, List.filter_nil, List.map_append]
      exact Paired.snoc (Paired.mapP hy fun _ _ z => mB s' z) du
  · rintro H ⟨G, ys, s, hG, rfl, hy⟩
    refine hq G ys s hG ?_
    rw [List.take_of_length_le (by omega)] at hy
    exact hy
/-- a tracked tuple of these values -/
def TupL (H : Hp) (v : V) (ws : List V) : Prop := ∃ t, v = .ref t ∧ H t = some (.tup ws)
theorem TupL.same {H H' : Hp} {v : V} {ws : List V} (s : Same H H') : TupL H v ws → TupL H' v ws := fun ⟨t, e, h⟩ => ⟨t, e, s _ _ h⟩
theorem TupL.but {H H' : Hp} {v : V} {ws : List V} (s : ∀ b ys, H b = some (.tup ys) → H' b = some (.tup ys)) : TupL H v ws → TupL H' v ws := fun ⟨t, e, h⟩ => ⟨t, e, s _ _ h⟩
/-- a deck's change leaves tuples -/
theorem But.tups {a : Addr} {H H' : Hp} (h : But a H H') (hn : ∀ ys, H a ≠ some (.tup ys)) : ∀ b ys, H b = some (.tup ys) → H' b = some (.tup ys) := fun b ys e => h b _ (fun q => hn ys (q ▸ e)) e
theorem upd_none {H : Hp} {p q : Addr} {o : HO} (h : upd H p o q = none) : q ≠ p ∧ H q = none := by
  have e : q ≠ p := by
    rintro rfl
    rw [upd_same] at h
    cases h
  exact ⟨e, by rw [upd_ne e] at h; exact h⟩
theorem int_at {l : List Int} {i : Nat} (h : i < l.length) : (l.map V.int)[i]? = some (.int (l.getD i 0)) := by
  rw [List.getElem?_map, List.getD_eq_getElem?_getD, List.getElem?_eq_getElem h]
  rfl
theorem int_atI {l : List Int} {z : Int} (h0 : 0 ≤ z) (h : z.toNat < l.length) : atI (l.map V.int) z = some (.int (l.getD z.toNat 0)) := by
  obtain ⟨n, rfl⟩ := Int.eq_ofNat_of_zero_le h0
  exact atI_nat (int_at h)
theorem take_snoc {α : Type} {l : List α} {i : Nat} {a : α} (h : l[i]? = some a) : l.take (i + 1) = l.take i ++ [a] := by
  rw [List.take_add_one, h]
  rfl
/-- x + y of two tracked tuples, either may be empty -/
theorem catA_new {K : PySem.W.Frag} {H : Hp} {v u : V} {xs ys : List V} {Q : VK} (h1 : TupL H v xs) (h2 : TupL H u ys) (hl : xs.length + ys.length ≤ sizeLine) (k : ∀ (z : V) (H' : Hp), Same H H' → TupL H' z (xs ++ ys) → Q z H') : rCatA K v u H Q := by
  obtain ⟨a, rfl, ha⟩ := h1
  obtain ⟨b, rfl, hb⟩ := h2
  refine ⟨a, b, xs, ys, rfl, rfl, SqT.of' ha, SqT.of' hb, hl, fun e => ?_, fun _ e => ?_, fun _ _ p hp => ?_⟩
  · exact k _ _ (Same.refl _) ⟨b, rfl, by rw [e, List.nil_append]; exact hb⟩
  · exact k _ _ (Same.refl _) ⟨a, rfl, by rw [e, List.append_nil]; exact ha⟩
  · exact k _ _ (same_new hp) ⟨p, rfl, upd_same⟩
theorem size_of {n : Nat} (h : n ≤ 100000) : n ≤ sizeLine := Nat.le_trans h (by decide)

/-! ### slices -/
theorem cut_to {xs : List V} {i : Nat} (h : i ≤ xs.length) : cutV xs none (some (i : Int)) = xs.take i := by
  unfold cutV
  rw [HT.sIx_none, HT.sIx_nat, List.drop_zero, Nat.sub_zero, Nat.min_eq_left h]
theorem cut_from {xs : List V} {i : Nat} (h : i ≤ xs.length) : cutV xs (some (i : Int)) none = xs.drop i := by
  unfold cutV
  rw [HT.sIx_none, HT.sIx_nat, Nat.min_eq_left h]
  exact List.take_of_length_le (by rw [List.length_drop]; exact Nat.le_refl _)
theorem cut_mid {xs : List V} {i j : Nat} (hi : i ≤ j) (h : j ≤ xs.length) : cutV xs (some (i : Int)) (some (j : Int)) = (xs.drop i).take (j - i) := by
  unfold cutV
  rw [HT.sIx_nat, HT.sIx_nat, Nat.min_eq_left h, Nat.min_eq_left (Nat.le_trans hi h)]

/-! ### data without truth values: equal is the same -/
mutual
def pur : PyData → Bool
  | .none | .int _ | .str _ => true
  | .bool _ => false
  | .list xs | .tuple xs => purs xs
  | .dict _ => false
def purs : List PyData → Bool
  | [] => true
  | x :: xs => pur x && purs xs
end
mutual
theorem eqv_pur : ∀ {d e : PyData}, pur d = true → pur e = true → PyData.eqv d e = true → d = e
  | .none, .none, _, _, _ => rfl
  | .int i, .int j, _, _, h => by rw [eq_of_beq (show (i == j) = true from h)]
  | .str i, .str j, _, _, h => by rw [eq_of_beq (show (i == j) = true from h)]
  | .list xs, .list ys, h1, h2, h => by rw [eqvs_pur (ds := xs) (es := ys) h1 h2 (by simpa [PyData.eqv] using h)]
  | .tuple xs, .tuple ys, h1, h2, h => by rw [eqvs_pur (ds := xs) (es := ys) h1 h2 (by simpa [PyData.eqv] using h)]
  | .bool _, _, h1, _, _ => by simp [pur] at h1
  | .dict _, _, h1, _, _ => by simp [pur] at h1
  | .none, .bool _, _, h2, _ => by simp [pur] at h2
  | .int _, .bool _, _, h2, _ => by simp [pur] at h2
  | .str _, .bool _, _, h2, _ => by simp [pur] at h2
  | .list _, .bool _, _, h2, _ => by simp [pur] at h2
  | .tuple _, .bool _, _, h2, _ => by simp [pur] at h2
  | .none, .dict _, _, h2, _ => by simp [pur] at h2
  | .int _, .dict _, _, h2, _ => by simp [pur] at h2
  | .str _, .dict _, _, h2, _ => by simp [pur] at h2
  | .list _, .dict _, _, h2, _ => by simp [pur] at h2
  | .tuple _, .dict _, _, h2, _ => by simp [pur] at h2
  | .none, .int _, _, _, h => by simp [PyData.eqv] at h
  | .none, .str _, _, _, h => by simp [PyData.eqv] at h
  | .none, .list _, _, _, h => by simp [PyData.eqv] at h
  | .none, .tuple _, _, _, h => by simp [PyData.eqv] at h
  | .int _, .none, _, _, h => by simp [PyData.eqv] at h
  | .int _, .str _, _, _, h => by simp [PyData.eqv] at h
  | .int _, .list _, _, _, h => by simp [PyData.eqv] at h
  | .int _, .tuple _, _, _, h => by simp [PyData.eqv] at h
  | .str _, .none, _, _, h => by simp [PyData.eqv] at h
  | .str _, .int _, _, _, h => by simp [PyData.eqv] at h
  | .str _, .list _, _, _, h => by simp [PyData.eqv] at h
  | .str _, .tuple _, _, _, h => by simp [PyData.eqv] at h
  | .list _, .none, _, _, h => by simp [PyData.eqv] at h
  | .list _, .int _, _, _, h => by simp [PyData.eqv] at h
  | .list _, .str _, _, _, h => by simp [PyData.eqv] at h
  | .list _, .tuple _, _, _, h => by simp [PyData.eqv] at h
  | .tuple _, .none, _, _, h => by simp [PyData.eqv] at h
  | .tuple _, .int _, _, _, h => by simp [PyData.eqv] at h
  | .tuple _, .str _, _, _, h => by simp [PyData.eqv] at h
  | .tuple _, .list _, _, _, h => by simp [PyData.eqv] at h
theorem eqvs_pur : ∀ {ds es : List PyData}, purs ds = true → purs es = true → PyData.eqvAll ds es = true → ds = es
  | [], [], _, _, _ => rfl
  | x :: xs, y :: ys, h1, h2, h => by
    simp only [purs, Bool.and_eq_true] at h1 h2
    simp only [PyData.eqvAll, Bool.and_eq_true] at h
    rw [eqv_pur h1.1 h2.1 h.1, eqvs_pur h1.2 h2.2 h.2]
  | [], _ :: _, _, _, h => by simp [PyData.eqvAll] at h
  | _ :: _, [], _, _, h => by simp [PyData.eqvAll] at h
end
theorem eqv_iff {d e : PyData} (hd : pur d = true) (he : pur e = true) (hs : SeqAt.shaped d = true) : PyData.eqv d e = true ↔ d = e :=
  ⟨eqv_pur hd he, fun h => by rw [← h]; exact SeqAt.eqv_refl d (SeqAt.canLay_of_shaped hs)⟩
mutual
/-- data without texts and dicts, of a depth at most n -/
def flat : Nat → PyData → Bool
  | _, .none | _, .bool _ | _, .int _ => true
  | _, .str _ | _, .dict _ => false
  | 0, .list _ | 0, .tuple _ => false
  | n + 1, .list xs => flats n xs
  | n + 1, .tuple xs => flats n xs
def flats : Nat → List PyData → Bool
  | _, [] => true
  | n, x :: xs => flat n x && flats n xs
end
mutual
theorem flat_lay : ∀ {n : Nat} {d : PyData}, flat n d = true → d.canLay0 = true ∧ d.depth ≤ n
  | n, .none, _ => ⟨by simp [PyData.canLay0], by simp [PyData.depth]⟩
  | n, .bool _, _ => ⟨by simp [PyData.canLay0], by simp [PyData.depth]⟩
  | n, .int _, _ => ⟨by simp [PyData.canLay0], by simp [PyData.depth]⟩
  | n, .str _, h => by simp [flat] at h
  | n, .dict _, h => by simp [flat] at h
  | 0, .list _, h => by simp [flat] at h
  | 0, .tuple _, h => by simp [flat] at h
  | n + 1, .list xs, h => by
    obtain ⟨h1, h2⟩ := flats_lay (n := n) (ds := xs) (by simpa [flat] using h)
    exact ⟨by simp only [PyData.canLay0]; exact h1, by simp only [PyData.depth]; omega⟩
  | n + 1, .tuple xs, h => by
    obtain ⟨h1, h2⟩ := flats_lay (n := n) (ds := xs) (by simpa [flat] using h)
    exact ⟨by simp only [PyData.canLay0]; exact h1, by simp only [PyData.depth]; omega⟩
theorem flats_lay : ∀ {n : Nat} {ds : List PyData}, flats n ds = true → PyData.canLayAll0 ds = true ∧ PyData.depthAll ds ≤ n
  | n, [], _ => ⟨by simp [PyData.canLayAll0], by simp [PyData.depthAll]⟩
  | n, x :: xs, h => by
    simp only [flats, Bool.and_eq_true] at h
    obtain ⟨a1, a2⟩ := flat_lay h.1
    obtain ⟨b1, b2⟩ := flats_lay h.2
    exact ⟨by simp only [PyData.canLayAll0, a1, b1, Bool.and_true], by simp only [PyData.depthAll]; omega⟩
end
theorem shaped_flat {n : Nat} {d : PyData} (h : flat n d = true) (hn : n ≤ 64) : SeqAt.shaped d = true := by
  obtain ⟨h1, h2⟩ := flat_lay h
  show (d.canLay0 && decide (d.depth ≤ 64)) = true
  rw [h1, Bool.true_and]
  exact decide_eq_true (by omega)
theorem flats_ints (n : Nat) : ∀ ns : List Int, flats n (ns.map PyData.int) = true
  | [] => by simp [flats]
  | i :: r => by simp [flats, flat, flats_ints n r]
theorem purs_ints : ∀ ns : List Int, purs (ns.map PyData.int) = true
  | [] => by simp [purs]
  | i :: r => by simp [purs, pur, purs_ints r]
theorem flats_map {α : Type} {n : Nat} {f : α → PyData} (h : ∀ a, flat n (f a) = true) : ∀ l : List α, flats n (l.map f) = true
  | [] => by simp [flats]
  | a :: r => by simp [flats, h a, flats_map h r]
theorem purs_map {α : Type} {f : α → PyData} (h : ∀ a, pur (f a) = true) : ∀ l : List α, purs (l.map f) = true
  | [] => by simp [purs]
  | a :: r => by simp [purs, h a, purs_map h r]

/-! ### rules whose reading names the written part, for the inside of a comprehension -/
section
variable {X : Cx} {K : PySem.W.Frag}
theorem ix_tupK (h : X.K = K) : IxR X (rIxT K) := h ▸ ix_tup
theorem ix_listK (h : X.K = K) : IxR X (rIxL K) := h ▸ ix_list
theorem ix_seqK (h : X.K = K) : IxR X (rIx K) := h ▸ ix_seq
theorem sl_tupAK (h : X.K = K) : SlR X (rSlA K) := h ▸ sl_tupA
theorem sl_tupK (h : X.K = K) : SlR X (rSlT K) := h ▸ sl_tup
theorem sl_listK (h : X.K = K) : SlR X (rSlL K) := h ▸ sl_list
theorem call_isiK' (h : X.K = K) : CallR X (.builtin "isinstance") (rIsi K) := h ▸ call_isi
theorem call_isiTK (h : X.K = K) : CallR X (.builtin "isinstance") (rIsiT K) := h ▸ call_isiT
theorem op_eqDK (h : X.K = K) (hu : X.A.units + 64 < cLine) : OpR X (compareOp .Eq) (rEqD K) := h ▸ op_eqD hu
theorem op_neDK (h : X.K = K) (hu : X.A.units + 64 < cLine) : OpR X (compareOp .NotEq) (rNeD K) := h ▸ op_neD hu
theorem op_inDK (h : X.K = K) (hu : X.A.units + 65 < cLine) : OpR X (compareOp .In) (rInD K) := h ▸ op_inD hu
theorem op_notInDK (h : X.K = K) (hu : X.A.units + 65 < cLine) : OpR X (compareOp .NotIn) (rNotInD K) := h ▸ op_notInD hu
theorem op_catAK (h : X.K = K) : OpR X (binaryOp .Add) (rCatA K) := h ▸ op_catA
def rLenS (K : PySem.W.Frag) : List V → Hp → VK → Prop := fun xs H Q => ∃ p ys, xs = [V.ref p] ∧ (SqL K H p ys ∨ SqT K H p ys) ∧ Q (.int ys.length) H
theorem call_len_seqK (h : X.K = K) : CallR X (.builtin "len") (rLenS K) := by
  subst h
  exact call_len_seq
theorem call_tupleTK (h : X.K = K) : CallR X (.type "tuple") (fun xs H Q => ∃ a ys, xs = [V.ref a] ∧ SqT K H a ys ∧ Q (.ref a) H) := by
  subst h
  exact call_tupleT
theorem call_list_ofK (h : X.K = K) : CallR X (.type "list") (fun xs H Q => ∃ p ys, xs = [V.ref p] ∧ (SqL K H p ys ∨ SqT K H p ys) ∧ ∀ l, H l = none → Q (.ref l) (upd H l (.lst ys))) := by
  subst h
  exact call_list_of
theorem kBM {e : Expr} {T : String} {r : V → List V → Hp → VK → Prop} {to : TE} {t : TA} (h : X.K = K) (p : PE X e (tBM X.K T r to t)) : PE X e (tBM K T r to t) := h ▸ p
theorem kBM0 {e : Expr} {T : String} {r : V → List V → Hp → VK → Prop} {to : TE} (h : X.K = K) (p : PE X e (tBM0 X.K T r to)) : PE X e (tBM0 K T r to) := h ▸ p
theorem kFld {e : Expr} {ta : TE} {f : Str} (h : X.K = K) (p : PE X e (tFld X.K ta f)) : PE X e (tFld K ta f) := h ▸ p
theorem kTup {e : Expr} {n : Nat} {t : TGs} (h : X.K = K) (p : PG X e (gTup X.K n t)) : PG X e (gTup K n t) := h ▸ p
theorem kTru {a : Expr} {ta : TE} (h : X.K = K) (p : PT X a (fun σ H Q => ta σ H fun x H' => ∃ k, TruV X.K x H' k ∧ Q k H')) : PT X a (fun σ H Q => ta σ H fun x H' => ∃ k, TruV K x H' k ∧ Q k H') := by
  subst h
  exact p
theorem kRevL {e : Expr} {te : TE} (h : X.K = K) (p : PE X e (tRevL X.K te)) : PE X e (tRevL K te) := h ▸ p
end

/-! ### a call within a comprehension that leaves all as it was -/
def del1 (H : Hp) (D : Addr) : Hp := fun b => if b = D then none else H b
theorem del1_at (H : Hp) (D : Addr) : del1 H D D = none := by unfold del1; rw [if_pos rfl]
theorem del1_ne {H : Hp} {D b : Addr} (h : b ≠ D) : del1 H D b = H b := by unfold del1; rw [if_neg h]
theorem split_at {H : Hp} {D : Addr} {o : HO} (h : H D = some o) : H = upd (del1 H D) D o := by
  funext b
  unfold upd del1
  by_cases e : b = D
  · rw [if_pos e, e, h]
  · rw [if_neg e, if_neg e]
theorem same_del {G H' : Hp} {D : Addr} {o : HO} (hD : G D = none) (s : Same (upd G D o) H') : Same G (del1 H' D) := fun b u e => by
  have n : b ≠ D := ne_of_none e hD
  rw [del1_ne n]
  exact s b u (by rw [upd_ne n]; exact e)
/-- what was seen ahead of a deck's change is seen behind it -/
theorem TupL.deck {a : Addr} {H H' : Hp} (hd : Deck H a) (b : But a H H') {v : V} {ws : List V} (h : TupL H v ws) : TupL H' v ws :=
  h.but (b.tups fun ys e => by obtain ⟨ds, _, q⟩ := hd; rw [q] at e; cases e)
theorem ixN_at {n i : Nat} (h : i < n) : ixN n (i : Int) = some i := by
  unfold ixN
  rw [if_pos (by omega), if_pos (by omega), Int.toNat_natCast]
theorem upd_comm {H : Hp} {a b : Addr} {o u : HO} (h : a ≠ b) : upd (upd H a o) b u = upd (upd H b u) a o := by
  funext c
  unfold upd
  by_cases h1 : c = b
  · rw [if_pos h1, if_neg (fun z => h (z.symm.trans h1)), if_pos h1]
  · rw [if_neg h1, if_neg h1]
end G

/-! ### the mathematics of law k43, in plain Lean -/
namespace M43
abbrev Tri := Int × Int × Int

theorem snocRec {α : Type} {P : List α → Prop} (h0 : P []) (h1 : ∀ l a, P l → P (l ++ [a])) (l : List α) : P l := by
  have key : ∀ r : List α, P r.reverse := fun r => by
    induction r with
    | nil => exact h0
    | cons a r ih =>
      rw [List.reverse_cons]
      exact h1 _ _ ih
  have := key l.reverse
  rw [List.reverse_reverse] at this
  exact this
theorem getD_at {α : Type} (l : List α) (d : α) {i : Nat} (h : i < l.length) : l.getD i d = l[i] := by
  rw [List.getD_eq_getElem?_getD, List.getElem?_eq_getElem h]
  rfl
/-! #### bits -/
def allB : Nat → List (List Int)
  | 0 => [[]]
  | n + 1 => (allB n).flatMap fun r => [r ++ [0], r ++ [1]]
def allP : Nat → List (List Int)
  | 0 => [[]]
  | n + 1 => (allP n).map (fun r => 0 :: r) ++ (allP n).map (fun r => 1 :: r)
theorem allP_snoc : ∀ n : Nat, allP (n + 1) = (allP n).flatMap fun r => [r ++ [0], r ++ [1]]
  | 0 => rfl
  | n + 1 => by
    have ih := allP_snoc n
    have e : allP (n + 1 + 1) = (allP (n + 1)).map (fun r => 0 :: r) ++ (allP (n + 1)).map (fun r => 1 :: r) := rfl
    have e2 : allP (n + 1) = (allP n).map (fun r => 0 :: r) ++ (allP n).map (fun r => 1 :: r) := rfl
    rw [e, ih]
    conv => rhs; rw [← ih, e2]
    rw [List.flatMap_append, List.map_flatMap, List.map_flatMap, List.flatMap_map, List.flatMap_map]
    rfl
theorem allB_eq : ∀ n : Nat, allB n = allP n
  | 0 => rfl
  | n + 1 => by rw [allB, allP_snoc, allB_eq n]
theorem allP_len (n : Nat) : (allP n).length = 2 ^ n := by
  induction n with
  | zero => rfl
  | succ n ih => rw [allP, List.length_append, List.length_map, List.length_map, ih, Nat.pow_succ]; omega
def Bits (m : Nat) (b : List Int) : Prop := b.length = m ∧ ∀ x ∈ b, x = 0 ∨ x = 1
theorem allP_bits : ∀ {n : Nat} {b : List Int}, b ∈ allP n → Bits n b
  | 0, b, h => by
    rw [allP, List.mem_singleton] at h
    subst h
    exact ⟨rfl, fun x hx => by cases hx⟩
  | n + 1, b, h => by
    rw [allP, List.mem_append] at h
    rcases h with h | h
    · obtain ⟨c, hc, rfl⟩ := List.mem_map.mp h
      obtain ⟨h1, h2⟩ := allP_bits hc
      exact ⟨by simp [h1], fun x hx => by
        rcases List.mem_cons.mp hx with rfl | hx
        · exact .inl rfl
        · exact h2 x hx⟩
    · obtain ⟨c, hc, rfl⟩ := List.mem_map.mp h
      obtain ⟨h1, h2⟩ := allP_bits hc
      exact ⟨by simp [h1], fun x hx => by
        rcases List.mem_cons.mp hx with rfl | hx
        · exact .inr rfl
        · exact h2 x hx⟩
theorem nodup_app {α : Type} : ∀ {l₁ l₂ : List α}, l₁.Nodup → l₂.Nodup → (∀ a ∈ l₁, a ∉ l₂) → (l₁ ++ l₂).Nodup := by
  intro l₁ l₂ h1 h2 h
  rw [List.nodup_append]
  exact ⟨h1, h2, fun a ha b hb e => h a ha (e ▸ hb)⟩
theorem nodup_map_cons (z : Int) : ∀ {l : List (List Int)}, l.Nodup → (l.map (fun r => z :: r)).Nodup
  | [], _ => List.nodup_nil
  | a :: r, h => by
    rw [List.map_cons, List.nodup_cons]
    obtain ⟨h1, h2⟩ := List.nodup_cons.mp h
    refine ⟨fun hm => ?_, nodup_map_cons z h2⟩
    obtain ⟨c, hc, e⟩ := List.mem_map.mp hm
    have e2 : c = a := (List.cons.inj e).2
    exact h1 (e2 ▸ hc)
theorem allP_nodup : ∀ n : Nat, (allP n).Nodup
  | 0 => by simp [allP]
  | n + 1 => by
    rw [allP]
    refine nodup_app (nodup_map_cons 0 (allP_nodup n)) (nodup_map_cons 1 (allP_nodup n)) fun a ha hb => ?_
    obtain ⟨c, _, rfl⟩ := List.mem_map.mp ha
    obtain ⟨d, _, e⟩ := List.mem_map.mp hb
    have : (1 : Int) = 0 := (List.cons.inj e).1
    omega
theorem filter_sub {l₁ l₂ : List (List Int)} (h : l₁.Sublist l₂) : l₂.Nodup → l₂.filter (fun a => decide (a ∈ l₁)) = l₁ := by
  induction h with
  | slnil => intro _; rfl
  | cons a s ih =>
    rename_i l₁ l₂
    intro hn
    obtain ⟨h1, h2⟩ := List.nodup_cons.mp hn
    have na : a ∉ l₁ := fun z => h1 (s.subset z)
    rw [List.filter_cons, if_neg (by simpa using na)]
    exact ih h2
  | cons_cons a s ih =>
    rename_i l₁ l₂
    intro hn
    obtain ⟨h1, h2⟩ := List.nodup_cons.mp hn
    rw [List.filter_cons, if_pos (by simp)]
    congr 1
    refine Eq.trans (List.filter_congr fun x hx => ?_) (ih h2)
    have nx : x ≠ a := fun e => h1 (e ▸ hx)
    simp [nx]

/-! #### diagrams -/
def sel (bs : List Int) (r : Tri) : Int := if bs.getD r.1.toNat 0 = 1 then r.2.2 else r.2.1
def vals (bs : List Int) (rs : List Tri) : List Bool := rs.foldl (fun acc r => acc ++ [acc.getD (sel bs r).toNat false]) [false, true]
theorem vals_snoc (bs : List Int) (rs : List Tri) (r : Tri) : vals bs (rs ++ [r]) = vals bs rs ++ [(vals bs rs).getD (sel bs r).toNat false] := by
  unfold vals
  rw [List.foldl_append]
  rfl
theorem vals_len (bs : List Int) (rs : List Tri) : (vals bs rs).length = rs.length + 2 := by
  induction rs using snocRec with
  | h0 => rfl
  | h1 rs r ih => rw [vals_snoc, List.length_append, List.length_append, ih]; rfl
def EndP (rs : List Tri) (i : Nat) (e v : Int) : Prop := 0 ≤ e ∧ e < i + 2 ∧ (1 < e → ∃ q, rs[(e - 2).toNat]? = some q ∧ v < q.1)
structure RowOk (m : Int) (rs : List Tri) (i : Nat) (r : Tri) : Prop where
  v0 : 0 ≤ r.1
  vm : r.1 < m
  ne : r.2.1 ≠ r.2.2
  lo : EndP rs i r.2.1 r.1
  hi : EndP rs i r.2.2 r.1
  new : r ∉ rs.take i
def Good (m : Int) (rs : List Tri) : Prop := ∀ i r, rs[i]? = some r → RowOk m rs i r
def endOk (seen : List Tri) (e v : Int) : Bool := (decide (0 ≤ e) && decide (e < (seen.length : Int) + 2)) && !(decide (1 < e) && decide ((seen.getD (e - 2).toNat (0, 0, 0)).1 ≤ v))
def good1 (m : Int) (seen : List Tri) (r : Tri) : Bool := !(decide (r ∈ seen)) && (decide (0 ≤ r.1) && decide (r.1 < m)) && !(decide (r.2.1 = r.2.2)) && endOk seen r.2.1 r.1 && endOk seen r.2.2 r.1
def goodR (m : Int) : List Tri → List Tri → Bool
  | _, [] => true
  | seen, r :: rest => good1 m seen r && goodR m (seen ++ [r]) rest
theorem endOk_iff {seen : List Tri} {e v : Int} : endOk seen e v = true ↔ EndP seen seen.length e v := by
  unfold endOk EndP
  simp only [Bool.and_eq_true, decide_eq_true_eq, Bool.not_eq_true', Bool.and_eq_false_iff, decide_eq_false_iff_not]
  constructor
  · rintro ⟨⟨h1, h2⟩, h3⟩
    refine ⟨h1, h2, fun he => ?_⟩
    have hl : (e - 2).toNat < seen.length := by omega
    rcases h3 with h3 | h3
    · exact absurd he h3
    · refine ⟨seen[(e - 2).toNat], List.getElem?_eq_getElem hl, ?_⟩
      rw [getD_at _ _ hl] at h3
      omega
  · rintro ⟨h1, h2, h3⟩
    refine ⟨⟨h1, h2⟩, ?_⟩
    by_cases he : 1 < e
    · obtain ⟨q, hq, hv⟩ := h3 he
      refine .inr ?_
      rw [List.getD_eq_getElem?_getD, hq]
      simp only [Option.getD_some]
      omega
    · exact .inl he
theorem EndP.mono {rs ts : List Tri} {i : Nat} {e v : Int} (h : EndP rs i e v) (hi : i ≤ rs.length) : EndP (rs ++ ts) i e v := by
  refine ⟨h.1, h.2.1, fun he => ?_⟩
  obtain ⟨q, hq, hv⟩ := h.2.2 he
  exact ⟨q, by rw [List.getElem?_append_left (List.getElem?_eq_some_iff.mp hq).1]; exact hq, hv⟩
theorem good1_iff {m : Int} {seen : List Tri} {r : Tri} : good1 m seen r = true ↔ RowOk m seen seen.length r := by
  unfold good1
  simp only [Bool.and_eq_true, decide_eq_true_eq, Bool.not_eq_true', decide_eq_false_iff_not, endOk_iff]
  constructor
  · rintro ⟨⟨⟨⟨h1, h2, h3⟩, h4⟩, h5⟩, h6⟩
    exact ⟨h2, h3, h4, h5, h6, by rw [List.take_of_length_le (Nat.le_refl _)]; exact h1⟩
  · rintro ⟨h2, h3, h4, h5, h6, h1⟩
    rw [List.take_of_length_le (Nat.le_refl _)] at h1
    exact ⟨⟨⟨⟨h1, h2, h3⟩, h4⟩, h5⟩, h6⟩
theorem RowOk.app {m : Int} {rs ts : List Tri} {i : Nat} {r : Tri} (h : RowOk m rs i r) (hi : i ≤ rs.length) : RowOk m (rs ++ ts) i r :=
  ⟨h.v0, h.vm, h.ne, h.lo.mono hi, h.hi.mono hi, by rw [List.take_append_of_le_length hi]; exact h.new⟩
theorem RowOk.of_app {m : Int} {rs ts : List Tri} {i : Nat} {r : Tri} (h : RowOk m (rs ++ ts) i r) (hi : i ≤ rs.length) : RowOk m rs i r := by
  have en : ∀ {e : Int}, EndP (rs ++ ts) i e r.1 → EndP rs i e r.1 := fun {e} x => ⟨x.1, x.2.1, fun he => by
    obtain ⟨q, hq, hv⟩ := x.2.2 he
    have := x.2.1
    rw [List.getElem?_append_left (by omega)] at hq
    exact ⟨q, hq, hv⟩⟩
  exact ⟨h.v0, h.vm, h.ne, en h.lo, en h.hi, by have := h.new; rw [List.take_append_of_le_length hi] at this; exact this⟩
theorem Good.snoc {m : Int} {rs : List Tri} {r : Tri} (h : Good m rs) (hr : RowOk m rs rs.length r) : Good m (rs ++ [r]) := fun i q hq => by
  by_cases hi : i < rs.length
  · rw [List.getElem?_append_left hi] at hq
    exact (h i q hq).app (by omega)
  · have hl := (List.getElem?_eq_some_iff.mp hq).1
    rw [List.length_append, List.length_singleton] at hl
    have e : i = rs.length := by omega
    subst e
    rw [List.getElem?_append_right (Nat.le_refl _), Nat.sub_self] at hq
    cases hq
    exact hr.app (Nat.le_refl _)
theorem Good.nil (m : Int) : Good m [] := fun i r h => by simp at h
theorem Good.of_app {m : Int} {rs ts : List Tri} (h : Good m (rs ++ ts)) : Good m rs := fun i q hq => by
  have hl := (List.getElem?_eq_some_iff.mp hq).1
  exact (h i q (by rw [List.getElem?_append_left hl]; exact hq)).of_app (by omega)
theorem goodR_iff {m : Int} : ∀ {rest seen : List Tri}, Good m seen → (goodR m seen rest = true ↔ Good m (seen ++ rest))
  | [], seen, h => by simp [goodR, h]
  | r :: rest, seen, h => by
    rw [goodR, Bool.and_eq_true]
    have e : seen ++ r :: rest = (seen ++ [r]) ++ rest := by simp
    constructor
    · rintro ⟨h1, h2⟩
      rw [e]
      exact (goodR_iff (h.snoc (good1_iff.mp h1))).mp h2
    · intro g
      rw [e] at g
      have g1 : Good m (seen ++ [r]) := g.of_app
      have h1 : RowOk m seen seen.length r := (g1 seen.length r (by rw [List.getElem?_append_right (Nat.le_refl _), Nat.sub_self]; rfl)).of_app (Nat.le_refl _)
      exact ⟨good1_iff.mpr h1, (goodR_iff g1).mpr g⟩
theorem vals_pre (bs : List Int) (rs ts : List Tri) {k : Nat} (hk : k < rs.length + 2) : (vals bs (rs ++ ts)).getD k false = (vals bs rs).getD k false := by
  induction ts using snocRec with
  | h0 => rw [List.append_nil]
  | h1 ts t ih =>
    have hl : k < (vals bs (rs ++ ts)).length := by
      rw [vals_len, List.length_append]
      omega
    rw [← List.append_assoc, vals_snoc, ← ih, List.getD_eq_getElem?_getD, List.getElem?_append_left hl, List.getD_eq_getElem?_getD]
theorem vals_row {m : Int} {bs : List Int} {rs : List Tri} (g : Good m rs) {i : Nat} {r : Tri} (hr : rs[i]? = some r) : (vals bs rs).getD (i + 2) false = (vals bs rs).getD (sel bs r).toNat false := by
  obtain ⟨hi, e⟩ := List.getElem?_eq_some_iff.mp hr
  have ok := g i r hr
  have e1 : rs = (rs.take i ++ [r]) ++ rs.drop (i + 1) := by
    rw [List.append_assoc, ← e]
    simp
  have hs : (sel bs r).toNat < i + 2 := by
    have h1 := ok.lo.2.1
    have h2 := ok.hi.2.1
    unfold sel
    split <;> omega
  have lt : (rs.take i).length = i := by rw [List.length_take]; omega
  have a1 : (vals bs rs).getD (i + 2) false = (vals bs (rs.take i ++ [r])).getD (i + 2) false := by
    conv => lhs; rw [e1]
    exact vals_pre bs _ _ (by rw [List.length_append, lt]; simp)
  have a2 : (vals bs rs).getD (sel bs r).toNat false = (vals bs (rs.take i)).getD (sel bs r).toNat false := by
    conv => lhs; rw [← List.take_append_drop i rs]
    exact vals_pre bs _ _ (by rw [lt]; exact hs)
  rw [a1, a2, vals_snoc, List.getD_eq_getElem?_getD, List.getElem?_append_right (by rw [vals_len, lt]; omega), vals_len, lt, Nat.sub_self]
  rfl
theorem vals0 (bs : List Int) (rs : List Tri) : (vals bs rs).getD 0 false = false := by
  have := vals_pre bs [] rs (k := 0) (by simp)
  rw [List.nil_append] at this
  rw [this]
  rfl
theorem vals1 (bs : List Int) (rs : List Tri) : (vals bs rs).getD 1 false = true := by
  have := vals_pre bs [] rs (k := 1) (by simp)
  rw [List.nil_append] at this
  rw [this]
  rfl

/-! #### the rows that are made -/
def bit (v : Nat) (z : Int) (b : List Int) : Bool := decide (b.getD v 0 = z)
def made : Nat → Nat → List (List Int) → List Tri → Int × List Tri
  | 0, _, ts, rs => (if ts = [] then 0 else 1, rs)
  | k + 1, v, ts, rs =>
    if ts = [] then (0, rs) else
      let a := made k (v + 1) (ts.filter (bit v 0)) rs
      let b := made k (v + 1) (ts.filter (bit v 1)) a.2
      if a.1 = b.1 then (a.1, b.2)
      else if ((v : Int), a.1, b.1) ∈ b.2 then ((b.2.idxOf ((v : Int), a.1, b.1) : Nat) + 2, b.2)
      else (b.2.length + 2, b.2 ++ [((v : Int), a.1, b.1)])
theorem made_rev : ∀ (k v : Nat) (ts : List (List Int)) (rs : List Tri), made k v ts.reverse rs = made k v ts rs
  | 0, v, ts, rs => by simp [made]
  | k + 1, v, ts, rs => by
    simp only [made, List.reverse_eq_nil_iff, List.filter_reverse, made_rev k]
/-- what a call of made keeps -/
structure MadeOk (m v : Nat) (ts : List (List Int)) (rs : List Tri) (p : Int × List Tri) : Prop where
  pre : ∃ more, p.2 = rs ++ more
  good : Good m p.2
  lo : 0 ≤ p.1
  hi : p.1 < p.2.length + 2
  lev : 1 < p.1 → ∃ q, p.2[(p.1 - 2).toNat]? = some q ∧ (v : Int) ≤ q.1
  sem : ∀ bs, Bits m bs → ((vals bs p.2).getD p.1.toNat false = true ↔ ∃ t ∈ ts, t.drop v = bs.drop v)
theorem drop_bit {m v : Nat} {t bs : List Int} (ht : Bits m t) (hb : Bits m bs) (hv : v < m) : t.drop v = bs.drop v ↔ t.getD v 0 = bs.getD v 0 ∧ t.drop (v + 1) = bs.drop (v + 1) := by
  have lt : v < t.length := by rw [ht.1]; exact hv
  have lb : v < bs.length := by rw [hb.1]; exact hv
  rw [List.drop_eq_getElem_cons lt, List.drop_eq_getElem_cons lb, getD_at _ _ lt, getD_at _ _ lb]
  constructor
  · intro h
    exact ⟨(List.cons.inj h).1, (List.cons.inj h).2⟩
  · rintro ⟨h1, h2⟩
    rw [h1, h2]
theorem bits_at {m v : Nat} {t : List Int} (ht : Bits m t) (hv : v < m) : t.getD v 0 = 0 ∨ t.getD v 0 = 1 := by
  have lt : v < t.length := by rw [ht.1]; exact hv
  rw [getD_at _ _ lt]
  exact ht.2 _ (List.getElem_mem lt)
theorem made_ok (m : Nat) : ∀ (k v : Nat) (ts : List (List Int)) (rs : List Tri), v + k = m → Good m rs → (∀ t ∈ ts, Bits m t) → MadeOk m v ts rs (made k v ts rs)
  | 0, v, ts, rs, hk, g, hb => by
    rw [made]
    have hv : v = m := by omega
    subst hv
    by_cases h : ts = []
    · subst h
      exact ⟨⟨[], by simp⟩, g, Int.le_refl _, by simp; omega, fun h => by simp at h, fun bs _ => by
        show (vals bs rs).getD 0 false = true ↔ _
        rw [vals0]
        simp⟩
    · rw [if_neg h]
      obtain ⟨t, r, rfl⟩ := List.exists_cons_of_ne_nil h
      refine ⟨⟨[], by simp⟩, g, by simp, by simp; omega, fun h => by simp at h, fun bs b => ?_⟩
      simp only [show (1 : Int).toNat = 1 from rfl, vals1, true_iff]
      refine ⟨t, List.mem_cons_self .., ?_⟩
      rw [List.drop_eq_nil_of_le (by rw [(hb t (List.mem_cons_self ..)).1]; exact Nat.le_refl _), List.drop_eq_nil_of_le (by rw [b.1]; exact Nat.le_refl _)]
  | k + 1, v, ts, rs, hk, g, hb => by
    rw [made]
    by_cases h : ts = []
    · subst h
      rw [if_pos rfl]
      exact ⟨⟨[], by simp⟩, g, Int.le_refl _, by simp; omega, fun h => by simp at h, fun bs _ => by
        show (vals bs rs).getD 0 false = true ↔ _
        rw [vals0]
        simp⟩
    · rw [if_neg h]
      have A := made_ok m k (v + 1) (ts.filter (bit v 0)) rs (by omega) g fun t ht => hb t (List.mem_filter.mp ht).1
      generalize made k (v + 1) (ts.filter (bit v 0)) rs = a at A ⊢
      have B := made_ok m k (v + 1) (ts.filter (bit v 1)) a.2 (by omega) A.good fun t ht => hb t (List.mem_filter.mp ht).1
      show MadeOk m v ts rs (let b := made k (v + 1) (ts.filter (bit v 1)) a.2; if a.1 = b.1 then (a.1, b.2) else if ((v : Int), a.1, b.1) ∈ b.2 then ((b.2.idxOf ((v : Int), a.1, b.1) : Nat) + 2, b.2) else (b.2.length + 2, b.2 ++ [((v : Int), a.1, b.1)]))
      generalize made k (v + 1) (ts.filter (bit v 1)) a.2 = b at B ⊢
      show MadeOk m v ts rs (if a.1 = b.1 then (a.1, b.2) else if ((v : Int), a.1, b.1) ∈ b.2 then ((b.2.idxOf ((v : Int), a.1, b.1) : Nat) + 2, b.2) else (b.2.length + 2, b.2 ++ [((v : Int), a.1, b.1)]))
      obtain ⟨ma, ea⟩ := A.pre
      obtain ⟨mb, eb⟩ := B.pre
      have hv : v < m := by omega
      have pre : ∃ more, b.2 = rs ++ more := ⟨ma ++ mb, by rw [eb, ea, List.append_assoc]⟩
      have a0 := A.lo
      have a1 := A.hi
      have b0 := B.lo
      have b1 := B.hi
      have lenab : a.2.length ≤ b.2.length := by rw [eb, List.length_append]; omega
      -- both halves over the last rows
      have semA : ∀ bs, Bits m bs → ((vals bs b.2).getD a.1.toNat false = true ↔ ∃ t ∈ ts.filter (bit v 0), t.drop (v + 1) = bs.drop (v + 1)) := fun bs hbs => by
        rw [eb, vals_pre bs a.2 mb (by omega)]
        exact A.sem bs hbs
      have semB := B.sem
      have levA : 1 < a.1 → ∃ q, b.2[(a.1 - 2).toNat]? = some q ∧ ((v : Int) + 1) ≤ q.1 := fun h => by
        obtain ⟨q, hq, hv⟩ := A.lev h
        refine ⟨q, ?_, by simpa using hv⟩
        rw [eb, List.getElem?_append_left (List.getElem?_eq_some_iff.mp hq).1]
        exact hq
      have levB : 1 < b.1 → ∃ q, b.2[(b.1 - 2).toNat]? = some q ∧ ((v : Int) + 1) ≤ q.1 := fun h => by
        obtain ⟨q, hq, hv⟩ := B.lev h
        exact ⟨q, hq, by simpa using hv⟩
      have split : ∀ bs, Bits m bs → ((∃ t ∈ ts, t.drop v = bs.drop v) ↔ if bs.getD v 0 = 1 then (vals bs b.2).getD b.1.toNat false = true else (vals bs b.2).getD a.1.toNat false = true) := fun bs hbs => by
        have one : ∀ z : Int, bs.getD v 0 = z → ((∃ t ∈ ts, t.drop v = bs.drop v) ↔ ∃ t ∈ ts.filter (bit v z), t.drop (v + 1) = bs.drop (v + 1)) := fun z hz => by
          constructor
          · rintro ⟨t, ht, e⟩
            obtain ⟨e1, e2⟩ := (drop_bit (hb t ht) hbs hv).mp e
            exact ⟨t, List.mem_filter.mpr ⟨ht, decide_eq_true (e1.trans hz)⟩, e2⟩
          · rintro ⟨t, ht, e⟩
            obtain ⟨h1, h2⟩ := List.mem_filter.mp ht
            exact ⟨t, h1, (drop_bit (hb t h1) hbs hv).mpr ⟨(of_decide_eq_true h2).trans hz.symm, e⟩⟩
        rcases bits_at hbs hv with h0 | h1
        · rw [if_neg (by rw [h0]; decide), semA bs hbs]
          exact one 0 h0
        · rw [if_pos h1, semB bs hbs]
          exact one 1 h1
      by_cases e : a.1 = b.1
      · rw [if_pos e]
        refine ⟨pre, B.good, a0, by simpa using (show a.1 < b.2.length + 2 by omega), fun h => ?_, fun bs hbs => ?_⟩
        · obtain ⟨q, hq, hv⟩ := levA h
          exact ⟨q, hq, by omega⟩
        · rw [split bs hbs, ← e]
          split <;> exact Iff.rfl
      · rw [if_neg e]
        have rowsem : ∀ (rows : List Tri) (i : Nat), Good m rows → (∃ more, rows = b.2 ++ more) → rows[i]? = some ((v : Int), a.1, b.1) → ∀ bs, Bits m bs → ((vals bs rows).getD (i + 2) false = true ↔ ∃ t ∈ ts, t.drop v = bs.drop v) := fun rows i gr ⟨more, er⟩ hi bs hbs => by
          rw [vals_row gr hi, split bs hbs]
          have pa : (vals bs rows).getD a.1.toNat false = (vals bs b.2).getD a.1.toNat false := by rw [er]; exact vals_pre bs _ _ (by omega)
          have pb : (vals bs rows).getD b.1.toNat false = (vals bs b.2).getD b.1.toNat false := by rw [er]; exact vals_pre bs _ _ (by omega)
          unfold sel
          by_cases hz : bs.getD v 0 = 1
          · rw [if_pos (show bs.getD ((v : Int)).toNat 0 = 1 from hz), if_pos hz]
            exact Iff.of_eq (congrArg (· = true) pb)
          · rw [if_neg (show ¬ bs.getD ((v : Int)).toNat 0 = 1 from hz), if_neg hz]
            exact Iff.of_eq (congrArg (· = true) pa)
        by_cases hm : ((v : Int), a.1, b.1) ∈ b.2
        · rw [if_pos hm]
          have hl := List.idxOf_lt_length_iff.mpr hm
          have hg : b.2[b.2.idxOf ((v : Int), a.1, b.1)]? = some ((v : Int), a.1, b.1) := by
            rw [List.getElem?_eq_getElem hl, List.getElem_idxOf hl]
          refine ⟨pre, B.good, by simp only; omega, by simp only; omega, fun _ => ⟨((v : Int), a.1, b.1), ?_, Int.le_refl _⟩, fun bs hbs => ?_⟩
          · rw [show (((b.2.idxOf ((v : Int), a.1, b.1) : Nat) : Int) + 2 - 2).toNat = b.2.idxOf ((v : Int), a.1, b.1) by omega]
            exact hg
          · rw [show (((b.2.idxOf ((v : Int), a.1, b.1) : Nat) : Int) + 2).toNat = b.2.idxOf ((v : Int), a.1, b.1) + 2 by omega]
            exact rowsem b.2 _ B.good ⟨[], by simp⟩ hg bs hbs
        · rw [if_neg hm]
          have row : RowOk m b.2 b.2.length ((v : Int), a.1, b.1) := by
            refine ⟨by simp only; omega, by simp only; omega, e, ⟨a0, by simp only; omega, fun h => ?_⟩, ⟨b0, by simp only; omega, fun h => ?_⟩, ?_⟩
            · obtain ⟨q, hq, hv⟩ := levA h
              exact ⟨q, hq, by simp only; omega⟩
            · obtain ⟨q, hq, hv⟩ := levB h
              exact ⟨q, hq, by simp only; omega⟩
            · rw [List.take_of_length_le (Nat.le_refl _)]
              exact hm
          have g2 := B.good.snoc row
          have hg : (b.2 ++ [((v : Int), a.1, b.1)])[b.2.length]? = some ((v : Int), a.1, b.1) := by
            rw [List.getElem?_append_right (Nat.le_refl _), Nat.sub_self]
            rfl
          obtain ⟨mo, emo⟩ := pre
          refine ⟨⟨mo ++ [((v : Int), a.1, b.1)], by rw [emo, List.append_assoc]⟩, g2, by simp only; omega, by simp only [List.length_append, List.length_singleton]; omega, fun _ => ⟨((v : Int), a.1, b.1), ?_, Int.le_refl _⟩, fun bs hbs => ?_⟩
          · rw [show ((b.2.length : Int) + 2 - 2).toNat = b.2.length by omega]
            exact hg
          · rw [show ((b.2.length : Int) + 2).toNat = b.2.length + 2 by omega]
            exact rowsem _ _ g2 ⟨_, rfl⟩ hg bs hbs

/-! #### how many are held -/
def lev (m : Int) (rs : List Tri) : List Int := [m, m] ++ rs.map (·.1)
def cterm (L : List Int) (acc : List Int) (v e : Int) : Int := acc.getD e.toNat 0 * 2 ^ (L.getD e.toNat 0 - v - 1).toNat
def cnts (L : List Int) (rs : List Tri) : List Int := rs.foldl (fun acc r => acc ++ [cterm L acc r.1 r.2.1 + cterm L acc r.1 r.2.2]) [0, 1]
theorem cnts_snoc (L : List Int) (rs : List Tri) (r : Tri) : cnts L (rs ++ [r]) = cnts L rs ++ [cterm L (cnts L rs) r.1 r.2.1 + cterm L (cnts L rs) r.1 r.2.2] := by
  unfold cnts
  rw [List.foldl_append]
  rfl
theorem cnts_len (L : List Int) (rs : List Tri) : (cnts L rs).length = rs.length + 2 := by
  induction rs using snocRec with
  | h0 => rfl
  | h1 rs r ih => rw [cnts_snoc, List.length_append, List.length_append, ih]; rfl
theorem cnts_pre (L : List Int) (rs ts : List Tri) {k : Nat} (hk : k < rs.length + 2) : (cnts L (rs ++ ts)).getD k 0 = (cnts L rs).getD k 0 := by
  induction ts using snocRec with
  | h0 => rw [List.append_nil]
  | h1 ts t ih =>
    have hl : k < (cnts L (rs ++ ts)).length := by
      rw [cnts_len, List.length_append]
      omega
    rw [← List.append_assoc, cnts_snoc, ← ih, List.getD_eq_getElem?_getD, List.getElem?_append_left hl, List.getD_eq_getElem?_getD]
theorem lev_pre (m : Int) (rs ts : List Tri) {k : Nat} (hk : k < rs.length + 2) : (lev m (rs ++ ts)).getD k 0 = (lev m rs).getD k 0 := by
  have e : lev m (rs ++ ts) = lev m rs ++ ts.map (·.1) := by
    unfold lev
    rw [List.map_append, List.append_assoc]
  have hl : k < (lev m rs).length := by
    unfold lev
    rw [List.length_append, List.length_map]
    simp
    omega
  rw [e, List.getD_eq_getElem?_getD, List.getElem?_append_left hl, List.getD_eq_getElem?_getD]
theorem lev_row (m : Int) {rs : List Tri} {i : Nat} {r : Tri} (h : rs[i]? = some r) : (lev m rs).getD (i + 2) 0 = r.1 := by
  unfold lev
  rw [List.getD_eq_getElem?_getD, List.getElem?_append_right (by simp)]
  simp [h]
theorem cnts_row {m : Int} {L : List Int} {rs : List Tri} (g : Good m rs) {i : Nat} {r : Tri} (hr : rs[i]? = some r) : (cnts L rs).getD (i + 2) 0 = cterm L (cnts L rs) r.1 r.2.1 + cterm L (cnts L rs) r.1 r.2.2 := by
  obtain ⟨hi, e⟩ := List.getElem?_eq_some_iff.mp hr
  have ok := g i r hr
  have e1 : rs = (rs.take i ++ [r]) ++ rs.drop (i + 1) := by
    rw [List.append_assoc, ← e]
    simp
  have lt : (rs.take i).length = i := by rw [List.length_take]; omega
  have tm : ∀ e : Int, 0 ≤ e → e < i + 2 → cterm L (cnts L rs) r.1 e = cterm L (cnts L (rs.take i)) r.1 e := fun e h0 h1 => by
    unfold cterm
    congr 1
    conv => lhs; rw [← List.take_append_drop i rs]
    exact cnts_pre L _ _ (by rw [lt]; omega)
  have a1 : (cnts L rs).getD (i + 2) 0 = (cnts L (rs.take i ++ [r])).getD (i + 2) 0 := by
    conv => lhs; rw [e1]
    exact cnts_pre L _ _ (by rw [List.length_append, lt]; simp)
  rw [a1, tm _ ok.lo.1 ok.lo.2.1, tm _ ok.hi.1 ok.hi.2.1, cnts_snoc, List.getD_eq_getElem?_getD, List.getElem?_append_right (by rw [cnts_len, lt]; omega), cnts_len, lt, Nat.sub_self]
  rfl
/-- how many ends of p lead to the row k -/
def N (rs : List Tri) (k : Nat) (p : List Int) (n : Nat) : Nat := ((allP n).filter fun s => (vals (p ++ s) rs).getD k false).length
theorem N_succ (rs : List Tri) (k : Nat) (p : List Int) (n : Nat) : N rs k p (n + 1) = N rs k (p ++ [0]) n + N rs k (p ++ [1]) n := by
  unfold N
  rw [allP, List.filter_append, List.length_append, List.filter_map, List.length_map, List.filter_map, List.length_map]
  congr 2 <;> (congr 1; funext s; simp only [Function.comp_apply, List.append_assoc, List.singleton_append])
theorem getD_mid (p s : List Int) (z : Int) : (p ++ [z] ++ s).getD p.length 0 = z := by
  rw [List.append_assoc, List.getD_eq_getElem?_getD, List.getElem?_append_right (Nat.le_refl _), Nat.sub_self]
  rfl
theorem lev_ge {m : Nat} {rs : List Tri} (g : Good m rs) {i : Nat} {r : Tri} (hr : rs[i]? = some r) {e : Int} (h : EndP rs i e r.1) : r.1 + 1 ≤ (lev m rs).getD e.toNat 0 ∧ (lev m rs).getD e.toNat 0 ≤ m := by
  have ok := g i r hr
  have vm := ok.vm
  by_cases h1 : 1 < e
  · obtain ⟨q, hq, hv⟩ := h.2.2 h1
    have e2 : e.toNat = (e - 2).toNat + 2 := by omega
    have okq := g _ q hq
    rw [e2, lev_row _ hq]
    have := okq.vm
    omega
  · have h0 := h.1
    have e2 : e.toNat = 0 ∨ e.toNat = 1 := by omega
    have e3 : (lev m rs).getD e.toNat 0 = m := by
      rcases e2 with e2 | e2 <;> rw [e2] <;> simp [lev]
    rw [e3]
    omega
theorem count (m : Nat) {rs : List Tri} (g : Good m rs) : ∀ (k : Nat), k < rs.length + 2 → ∀ (j : Nat) (p : List Int), ((p.length : Int) + j = (lev m rs).getD k 0) → (N rs k p (m - p.length) : Int) = (cnts (lev m rs) rs).getD k 0 * 2 ^ j := by
  intro k
  induction k using Nat.strongRecOn with
  | ind k ih =>
    intro hk j
    match k, ih, hk with
    | 0, _, _ =>
      intro p hp
      have h1 : N rs 0 p (m - p.length) = 0 := by
        unfold N
        rw [List.length_eq_zero_iff, List.filter_eq_nil_iff]
        intro s _
        rw [vals0]
        decide
      have h2 : (cnts (lev m rs) rs).getD 0 0 = 0 := by
        have := cnts_pre (lev m rs) [] rs (k := 0) (by simp)
        rw [List.nil_append] at this
        rw [this]
        rfl
      rw [h1, h2, Int.zero_mul]
      rfl
    | 1, _, _ =>
      intro p hp
      have hl : (lev m rs).getD 1 0 = m := by simp [lev]
      rw [hl] at hp
      have h1 : N rs 1 p (m - p.length) = 2 ^ j := by
        unfold N
        rw [List.filter_eq_self.mpr fun s _ => vals1 _ _, allP_len]
        congr 1
        omega
      have h2 : (cnts (lev m rs) rs).getD 1 0 = 1 := by
        have := cnts_pre (lev m rs) [] rs (k := 1) (by simp)
        rw [List.nil_append] at this
        rw [this]
        rfl
      rw [h1, h2, Int.one_mul]
      simp
    | i + 2, ih, hk =>
      have hi : i < rs.length := by omega
      obtain ⟨r, hr⟩ : ∃ r, rs[i]? = some r := ⟨rs[i], List.getElem?_eq_getElem hi⟩
      have ok := g i r hr
      have v0 := ok.v0
      have vm := ok.vm
      have hlv := lev_row (m : Int) hr
      induction j with
      | succ j ihj =>
        intro p hp
        rw [hlv] at hp
        have hn : m - p.length = (m - (p.length + 1)) + 1 := by omega
        rw [hn, N_succ]
        have e0 := ihj (p ++ [0]) (by rw [List.length_append, List.length_singleton, hlv]; omega)
        have e1 := ihj (p ++ [1]) (by rw [List.length_append, List.length_singleton, hlv]; omega)
        rw [List.length_append, List.length_singleton] at e0 e1
        rw [Int.natCast_add, e0, e1, Int.pow_succ, ← Int.mul_assoc]
        omega
      | zero =>
        intro p hp
        rw [hlv] at hp
        have hn : m - p.length = (m - (p.length + 1)) + 1 := by omega
        have hpv : p.length = r.1.toNat := by omega
        have row : ∀ (z : Int) (e : Int), (∀ s, sel (p ++ [z] ++ s) r = e) → N rs (i + 2) (p ++ [z]) (m - (p.length + 1)) = N rs e.toNat (p ++ [z]) (m - (p.length + 1)) := fun z e hz => by
          unfold N
          congr 2
          funext s
          rw [vals_row g hr, hz]
        have s0 : ∀ s, sel (p ++ [0] ++ s) r = r.2.1 := fun s => by
          unfold sel
          rw [← hpv, getD_mid, if_neg (by decide)]
        have s1 : ∀ s, sel (p ++ [1] ++ s) r = r.2.2 := fun s => by
          unfold sel
          rw [← hpv, getD_mid, if_pos rfl]
        have one : ∀ (z e : Int), EndP rs i e r.1 → (N rs e.toNat (p ++ [z]) (m - (p.length + 1)) : Int) = cterm (lev m rs) (cnts (lev m rs) rs) r.1 e := fun z e he => by
          have h1 := he.1
          have h2 := he.2.1
          have hge := lev_ge g hr he
          have := ih e.toNat (by omega) (by omega) ((lev m rs).getD e.toNat 0 - r.1 - 1).toNat (p ++ [z]) (by rw [List.length_append, List.length_singleton]; omega)
          rw [List.length_append, List.length_singleton] at this
          rw [this]
          rfl
        rw [hn, N_succ, row 0 _ s0, row 1 _ s1, Int.natCast_add, one 0 _ ok.lo, one 1 _ ok.hi, cnts_row g hr]
        simp
/-- the numbers that are worked out stay small -/
theorem cnts_bound (m : Nat) {rs : List Tri} (g : Good m rs) {k : Nat} (hk : k < rs.length + 2) : 0 ≤ (cnts (lev m rs) rs).getD k 0 ∧ (cnts (lev m rs) rs).getD k 0 ≤ 2 ^ m := by
  have hlv : 0 ≤ (lev m rs).getD k 0 ∧ (lev m rs).getD k 0 ≤ m := by
    match k, hk with
    | 0, _ => simp [lev]
    | 1, _ => simp [lev]
    | i + 2, hk =>
      have hi : i < rs.length := by omega
      have hr := List.getElem?_eq_getElem hi
      have ok := g i _ hr
      rw [lev_row _ hr]
      exact ⟨ok.v0, by have := ok.vm; omega⟩
  have c := count m g k hk 0 (List.replicate ((lev m rs).getD k 0).toNat 0) (by rw [List.length_replicate]; omega)
  rw [Int.pow_zero, Int.mul_one] at c
  rw [← c]
  refine ⟨Int.natCast_nonneg _, ?_⟩
  have h1 : N rs k (List.replicate ((lev m rs).getD k 0).toNat 0) (m - (List.replicate ((lev m rs).getD k 0).toNat (0 : Int)).length) ≤ 2 ^ (m - (List.replicate ((lev m rs).getD k 0).toNat (0 : Int)).length) := by
    unfold N
    refine Nat.le_trans (List.length_filter_le _ _) ?_
    rw [allP_len]
    exact Nat.le_refl _
  have h2 : 2 ^ (m - (List.replicate ((lev m rs).getD k 0).toNat (0 : Int)).length) ≤ 2 ^ m := Nat.pow_le_pow_right (by decide) (by omega)
  have h3 := Nat.le_trans h1 h2
  have : ((2 ^ m : Nat) : Int) = 2 ^ m := by simp
  omega
theorem count_root (m : Nat) {rs : List Tri} (g : Good m rs) {root : Int} (h0 : 0 ≤ root) (h1 : root < rs.length + 2) :
    (cnts (lev m rs) rs).getD root.toNat 0 * 2 ^ ((lev m rs).getD root.toNat 0).toNat = (((allB m).filter fun bs => (vals bs rs).getD root.toNat false).length : Nat) := by
  have hlv : 0 ≤ (lev m rs).getD root.toNat 0 := by
    have hk : root.toNat < rs.length + 2 := by omega
    generalize root.toNat = k at hk
    match k, hk with
    | 0, _ => simp [lev]
    | 1, _ => simp [lev]
    | i + 2, hk =>
      have hi : i < rs.length := by omega
      have hr := List.getElem?_eq_getElem hi
      rw [lev_row _ hr]
      exact (g i _ hr).v0
  have c := count m g root.toNat (by omega) ((lev m rs).getD root.toNat 0).toNat [] (by rw [List.length_nil]; omega)
  rw [← c, allB_eq]
  rfl
/-- what the law asks of the rows that are made -/
theorem made_all {m : Nat} {held : List (List Int)} (hs : held.Sublist (allB m)) : MadeOk m 0 held [] (made m 0 held []) ∧ (allB m).filter (fun bs => (vals bs (made m 0 held []).2).getD (made m 0 held []).1.toNat false) = held := by
  have hb : ∀ t ∈ held, Bits m t := fun t ht => allP_bits (by rw [← allB_eq]; exact hs.subset ht)
  have ok := made_ok m m 0 held [] (by omega) (Good.nil _) hb
  refine ⟨ok, ?_⟩
  have hn : (allB m).Nodup := by rw [allB_eq]; exact allP_nodup m
  refine Eq.trans (List.filter_congr fun bs hbs => ?_) (filter_sub hs hn)
  have b : Bits m bs := allP_bits (by rw [← allB_eq]; exact hbs)
  have s := ok.sem bs b
  rw [Bool.eq_iff_iff, decide_eq_true_iff, s]
  constructor
  · rintro ⟨t, ht, e⟩
    rw [List.drop_zero, List.drop_zero] at e
    exact e ▸ ht
  · exact fun hm => ⟨bs, hm, rfl⟩
end M43
namespace M43
theorem made_len : ∀ (k v : Nat) (ts : List (List Int)) (rs : List Tri), (made k v ts rs).2.length + 1 ≤ rs.length + 2 ^ k
  | 0, v, ts, rs => by simp [made]
  | k + 1, v, ts, rs => by
    have hp : 0 < 2 ^ k := Nat.pow_pos (by decide)
    rw [made, Nat.pow_succ]
    by_cases h : ts = []
    · rw [if_pos h]
      show rs.length + 1 ≤ _
      omega
    · rw [if_neg h]
      have A := made_len k (v + 1) (ts.filter (bit v 0)) rs
      generalize made k (v + 1) (ts.filter (bit v 0)) rs = a at A ⊢
      have B := made_len k (v + 1) (ts.filter (bit v 1)) a.2
      show (let b := made k (v + 1) (ts.filter (bit v 1)) a.2; if a.1 = b.1 then (a.1, b.2) else if ((v : Int), a.1, b.1) ∈ b.2 then ((b.2.idxOf ((v : Int), a.1, b.1) : Nat) + 2, b.2) else (b.2.length + 2, b.2 ++ [((v : Int), a.1, b.1)]) : Int × List Tri).2.length + 1 ≤ _
      generalize made k (v + 1) (ts.filter (bit v 1)) a.2 = b at B ⊢
      show (if a.1 = b.1 then (a.1, b.2) else if ((v : Int), a.1, b.1) ∈ b.2 then ((b.2.idxOf ((v : Int), a.1, b.1) : Nat) + 2, b.2) else (b.2.length + 2, b.2 ++ [((v : Int), a.1, b.1)]) : Int × List Tri).2.length + 1 ≤ _
      by_cases e : a.1 = b.1
      · rw [if_pos e]
        show b.2.length + 1 ≤ _
        omega
      · rw [if_neg e]
        by_cases hm : ((v : Int), a.1, b.1) ∈ b.2
        · rw [if_pos hm]
          show b.2.length + 1 ≤ _
          omega
        · rw [if_neg hm]
          show (b.2 ++ [((v : Int), a.1, b.1)]).length + 1 ≤ _
          rw [List.length_append, List.length_singleton]
          omega
/-- one turn of made, written out -/
theorem made_succ {k v : Nat} {ts : List (List Int)} {rs : List Tri} (h : ts ≠ []) {a b : Int} {r1 r2 : List Tri} (h1 : made k (v + 1) (ts.filter (bit v 0)) rs = (a, r1)) (h2 : made k (v + 1) (ts.filter (bit v 1)) r1 = (b, r2)) :
    made (k + 1) v ts rs = if a = b then (a, r2) else if ((v : Int), a, b) ∈ r2 then ((r2.idxOf ((v : Int), a, b) : Nat) + 2, r2) else (r2.length + 2, r2 ++ [((v : Int), a, b)]) := by
  rw [made, if_neg h]
  simp only [h1, h2]
end M43



namespace Q43
open PySem L2 G
open C8 (Cal Met Mak pe_c pe_mk pe_mt pe_mt0 pe_gc pss_cut tCut)
def top (i : Nat) : Stmt := PySem.Challenge.pw_gatework_k43_whole_diagrams.main.body.getD i (.Pass ⟨0, 0, 0, 0⟩)
abbrev s__law_deck : Stmt := top 9
theorem sc__law_deck : FnScope ["script", "cells", "each", "deck", "seed", "k", "cell", "rest", "at"] ["script", "cells", "each"] (defScope s__law_deck) := ⟨rfl, rfl, rfl, by decide +kernel, rfl, by decide +kernel, by decide +kernel⟩
abbrev s__law_take : Stmt := top 10
theorem sc__law_take : FnScope ["deck", "many"] ["deck", "many"] (defScope s__law_take) := ⟨rfl, rfl, rfl, by decide +kernel, rfl, by decide +kernel, by decide +kernel⟩
abbrev s__law_plain : Stmt := top 11
theorem sc__law_plain : FnScope ["value", "item"] ["value"] (defScope s__law_plain) := ⟨rfl, rfl, rfl, by decide +kernel, rfl, by decide +kernel, by decide +kernel⟩
abbrev s_is_number : Stmt := top 1
theorem sc_is_number : FnScope ["value"] ["value"] (defScope s_is_number) := ⟨rfl, rfl, rfl, by decide +kernel, rfl, by decide +kernel, by decide +kernel⟩
abbrev s_rows_good : Stmt := top 2
theorem sc_rows_good : FnScope ["rows", "many", "seen", "at", "row", "variable", "low", "high", "end", "entry"] ["rows", "many"] (defScope s_rows_good) := ⟨rfl, rfl, rfl, by decide +kernel, rfl, by decide +kernel, by decide +kernel⟩
abbrev s_check_diagram : Stmt := top 3
theorem sc_check_diagram : FnScope ["diagram", "many", "rows", "root"] ["diagram", "many"] (defScope s_check_diagram) := ⟨rfl, rfl, rfl, by decide +kernel, rfl, by decide +kernel, by decide +kernel⟩
abbrev s_Maker___init__ : Stmt := inClass (top 4) 0
theorem sc_Maker___init__ : FnScope ["self", "many"] ["self", "many"] (defScope s_Maker___init__) := ⟨rfl, rfl, rfl, by decide +kernel, rfl, by decide +kernel, by decide +kernel⟩
abbrev s_Maker_made : Stmt := inClass (top 4) 1
theorem sc_Maker_made : FnScope ["self", "variable", "tuples", "low", "high", "row", "bits"] ["self", "variable", "tuples"] (defScope s_Maker_made) := ⟨rfl, rfl, rfl, by decide +kernel, rfl, by decide +kernel, by decide +kernel⟩
abbrev s_diagram_of : Stmt := top 5
theorem sc_diagram_of : FnScope ["tuples", "many", "maker", "root", "bits"] ["tuples", "many"] (defScope s_diagram_of) := ⟨rfl, rfl, rfl, by decide +kernel, rfl, by decide +kernel, by decide +kernel⟩
abbrev s_holds : Stmt := top 6
theorem sc_holds : FnScope ["diagram", "bits", "rows", "here", "variable", "low", "high"] ["diagram", "bits"] (defScope s_holds) := ⟨rfl, rfl, rfl, by decide +kernel, rfl, by decide +kernel, by decide +kernel⟩
abbrev s_count_held : Stmt := top 7
theorem sc_count_held : FnScope ["diagram", "many", "rows", "root", "levels", "counts", "variable", "low", "high", "total", "end"] ["diagram", "many"] (defScope s_count_held) := ⟨rfl, rfl, rfl, by decide +kernel, rfl, by decide +kernel, by decide +kernel⟩
abbrev s__law_tuples : Stmt := top 12
theorem sc__law_tuples : FnScope ["many", "found", "turn", "longer", "row"] ["many"] (defScope s__law_tuples) := ⟨rfl, rfl, rfl, by decide +kernel, rfl, by decide +kernel, by decide +kernel⟩
abbrev s__law_followed : Stmt := top 13
theorem sc__law_followed : FnScope ["rows", "root", "bits", "here", "variable", "low", "high"] ["rows", "root", "bits"] (defScope s__law_followed) := ⟨rfl, rfl, rfl, by decide +kernel, rfl, by decide +kernel, by decide +kernel⟩
abbrev s__law_diagram_right : Stmt := top 14
theorem sc__law_diagram_right : FnScope ["rows", "root", "many", "at", "variable", "low", "high", "end"] ["rows", "root", "many"] (defScope s__law_diagram_right) := ⟨rfl, rfl, rfl, by decide +kernel, rfl, by decide +kernel, by decide +kernel⟩
abbrev s__law_made : Stmt := top 15
theorem sc__law_made : FnScope ["rows", "variable", "many", "tuples", "low", "high", "bits"] ["rows", "variable", "many", "tuples"] (defScope s__law_made) := ⟨rfl, rfl, rfl, by decide +kernel, rfl, by decide +kernel, by decide +kernel⟩
abbrev s_law : Stmt := top 16
theorem sc_law : FnScope ["script", "deck", "many", "every", "share", "held", "drawn", "told", "rows", "root", "due", "end", "turn", "bent", "place", "way", "other", "good", "bits", "row", "thing"] ["script"] (defScope s_law) := ⟨rfl, rfl, rfl, by decide +kernel, rfl, by decide +kernel, by decide +kernel⟩
theorem boot_abs' : bootBuiltins "abs" = some (.builtin "abs") := by decide +kernel
theorem boot_all' : bootBuiltins "all" = some (.builtin "all") := by decide +kernel
theorem boot_bool' : bootBuiltins "bool" = some (.type "bool") := by decide +kernel
theorem boot_enumerate' : bootBuiltins "enumerate" = some (.type "enumerate") := by decide +kernel
theorem boot_int' : bootBuiltins "int" = some (.type "int") := by decide +kernel
theorem boot_isinstance' : bootBuiltins "isinstance" = some (.builtin "isinstance") := by decide +kernel
theorem boot_len' : bootBuiltins "len" = some (.builtin "len") := by decide +kernel
theorem boot_list' : bootBuiltins "list" = some (.type "list") := by decide +kernel
theorem boot_max' : bootBuiltins "max" = some (.builtin "max") := by decide +kernel
theorem boot_range' : bootBuiltins "range" = some (.type "range") := by decide +kernel
theorem boot_str' : bootBuiltins "str" = some (.type "str") := by decide +kernel
theorem boot_tuple' : bootBuiltins "tuple" = some (.type "tuple") := by decide +kernel
/-- what the top has left: the built-in names are the built-in ones -/
structure Txt (K : PySem.W.Frag) (mg : Str → Option Value) : Prop where
  b_abs : mg "abs" = none
  b_all : mg "all" = none
  b_bool : mg "bool" = none
  b_enumerate : mg "enumerate" = none
  b_int : mg "int" = none
  b_isinstance : mg "isinstance" = none
  b_len : mg "len" = none
  b_list : mg "list" = none
  b_max : mg "max" = none
  b_range : mg "range" = none
  b_str : mg "str" = none
  b_tuple : mg "tuple" = none
theorem small1000' {n : Nat} (h : n < 100000) : n < sizeLine := Nat.lt_of_lt_of_le h (by decide)
theorem hu65_of {A : Around} {k : Nat} (hr : Room k A) : A.units + 65 < cLine := Nat.lt_of_le_of_lt (by omega) hr.un

section
variable {P : Program} {w : World} {K : PySem.W.Frag} {mg : Str → Option Value} {base : Heap}

/-! ### _law_take: some number below -/
def spTake : Sp := fun vs H Q _ => ∃ (a : Addr) (m : Int), vs = [.ref a, .int m] ∧ 0 < m ∧ Deck H a ∧ ∀ (r : Int) (H' : Hp), 0 ≤ r → r < m → But a H H' → Deck H' a → Q (.int r) H'
theorem ok_take {f : Addr} {fd : FuncData} (F : Fun K "_law_take" "_law_take" s__law_take f fd) (T : Txt K mg) : FnOk P w K mg base CX0 1 f fd ["deck", "many"] spTake := by
  refine F.ok sc__law_take (fun vs H Q E h => ?_) (fun cdv A outer s H vs Q E hr h => ?_)
  · obtain ⟨a, m, rfl, _⟩ := h
    rfl
  · obtain ⟨a, m, rfl, hm, ⟨ds, hl, hd⟩, k⟩ := h
    refine ⟨_, (pss_cons (ps_if (pt_cmpR op_eq (pe_callB call_len_seq (by rfl) T.b_len boot_len' (pa_cons (pv 0) pa_nil)) pe_int (nomark _)) (pss_one (ps_ret pe_int)) pss_nil)
      (pss_one (ps_ret (pe_op op_mod (pe_callTy call_int1 (by rfl) T.b_int boot_int' (pa_cons (pe_bm0 PySem.F.plainAttrs_list PySem.F.slot_list_pop PySem.F.type_list_pop mt_pop (pv 0)) pa_nil)) (pv 1))))), ?_⟩
    refine ⟨_, rfl, a, _, rfl, .inl (SqL.of hd), rfl, _, rfl, ?_⟩
    rw [List.length_map]
    refine ite2 (fun hc => ?_) (fun hc => ?_)
    · exact k 0 H (by decide) hm (But.refl _ _) ⟨ds, hl, hd⟩
    · have hne : ds ≠ [] := fun e => hc (by rw [e]; rfl)
      have hp : 0 < ds.length := List.length_pos_iff.mpr hne
      refine ⟨_, rfl, .inl ⟨rfl, _, SqL.of hd⟩, a, _, .int (ds.getLast hne), rfl, rfl, hd, ?_, .inl ⟨_, rfl, _, rfl, _, _, rfl, rfl, hm, ?_⟩⟩
      · rw [List.length_map, List.getElem?_map, List.getLast_eq_getElem, List.getElem?_eq_getElem (by omega)]
        rfl
      · refine k _ _ (Int.emod_nonneg _ (by omega)) (Int.emod_lt_of_pos _ hm) but_upd ⟨ds.dropLast, by rw [List.length_dropLast]; omega, ?_⟩
        rw [upd_same, List.map_dropLast]

/-! ### _law_deck: some ints -/
def spDeck (K : PySem.W.Frag) : Sp := fun vs H Q _ => ∃ (a : Addr) (ns : List Int) (c e : Nat), vs = [.ref a, .int c, .int e] ∧ SqL K H a (ns.map V.int) ∧ ns.length ≤ 1000 ∧ c * e ≤ 2000 ∧ c ≤ 1000 ∧ e ≤ 1000 ∧ ∀ (p : Addr) (H' : Hp), H p = none → Same H H' → Deck H' p → Q (.ref p) H'
theorem ok_deck {f : Addr} {fd : FuncData} (F : Fun K "_law_deck" "_law_deck" s__law_deck f fd) (T : Txt K mg) : FnOk P w K mg base CX0 1 f fd ["script", "cells", "each"] (spDeck K) := by
  refine F.ok sc__law_deck (fun vs H Q E h => ?_) (fun cdv A outer s H vs Q E hr h => ?_)
  · obtain ⟨a, ns, c, e, rfl, _⟩ := h
    rfl
  · obtain ⟨a, ns, c, e, rfl, hS, hn, hce, hc, he, k⟩ := h
    refine ⟨_, (pss_cons (ps_set (i := 3) sc__law_deck.nd rfl (Or.inl rfl) (pe_lst pa_nil))
      (pss_cons (ps_set (i := 4) sc__law_deck.nd rfl (Or.inl rfl) (pe_op op_add pe_int (pe_callB call_len_seq (by rfl) T.b_len boot_len' (pa_cons (pv 0) pa_nil))))
      (pss_cons (ps_for PassesOwn.never rfl (pi_range1 (by rfl) T.b_range (pa_cons (pv 1) pa_nil)) (pg_name (i := 5) sc__law_deck.nd rfl (Or.inl rfl)) (pss_cons (ps_set (i := 6) sc__law_deck.nd rfl (Or.inl rfl) pe_int)
      (pss_cut (ps_if (pt_cmpR op_lt (pv 5) (pe_callB call_len_seq (by rfl) T.b_len boot_len' (pa_cons (pv 0) pa_nil)) (nomark _)) (pss_one (ps_set (i := 6) sc__law_deck.nd rfl (Or.inl rfl) (pe_ix ix_list (pv 0) (pv 5) (fun _ _ => rfl)))) pss_nil)
      (pss_cons (ps_set (i := 7) sc__law_deck.nd rfl (Or.inl rfl) (pe_callB call_abs (by rfl) T.b_abs boot_abs' (pa_cons (pv 6) pa_nil)))
      (pss_one (ps_if (pt_cmpR op_ge (pv 7) (pe_op op_pow pe_int pe_int) (nomark _)) (pss_one (ps_for PassesOwn.never rfl (pi_range1 (by rfl) T.b_range (pa_cons (pv 2) pa_nil)) (pg_name (i := 8) sc__law_deck.nd rfl (Or.inl rfl)) (pss_cons (ps_expr (pe_bm PySem.F.plainAttrs_list PySem.F.slot_list_append PySem.F.type_list_append mt_append (pv 3) (pa_cons (pe_op op_mod (pe_callTy call_int1 (by rfl) T.b_int boot_int' (pa_cons (pv 7) pa_nil)) pe_int) pa_nil)))
      (pss_one (ps_set (i := 7) sc__law_deck.nd rfl (Or.inl rfl) (pe_op op_fdiv (pv 7) pe_int)))))) (pss_cons (ps_set (i := 4) sc__law_deck.nd rfl (Or.inl rfl) (pe_op op_mod (pe_callTy call_int1 (by rfl) T.b_int boot_int' (pa_cons (pe_op op_add (pe_op op_add (pe_op op_add (pe_op op_mul (pv 4) pe_int) (pe_op op_mul pe_int (pv 7))) (pe_callTy call_int1 (by rfl) T.b_int boot_int' (pa_cons (pe_cmpR op_lt (pv 6) pe_int (nomark _)) pa_nil))) (pv 5)) pa_nil)) pe_int))
      (pss_one (ps_for PassesOwn.never rfl (pi_range1 (by rfl) T.b_range (pa_cons (pv 2) pa_nil)) (pg_name (i := 8) sc__law_deck.nd rfl (Or.inl rfl)) (pss_cons (ps_set (i := 4) sc__law_deck.nd rfl (Or.inl rfl) (pe_op op_mod (pe_callTy call_int1 (by rfl) T.b_int boot_int' (pa_cons (pe_op op_add (pe_op op_add (pe_op op_mul (pv 4) pe_int) (pv 8)) pe_int) pa_nil)) pe_int))
      (pss_one (ps_expr (pe_bm PySem.F.plainAttrs_list PySem.F.slot_list_append PySem.F.type_list_append mt_append (pv 3) (pa_cons (pe_op op_mod (pe_callTy call_int1 (by rfl) T.b_int boot_int' (pa_cons (pe_op op_fdiv (pv 4) pe_int) pa_nil)) pe_int) pa_nil))))))))))))))
      (pss_cons (ps_expr (pe_bm0 PySem.F.plainAttrs_list PySem.F.slot_list_reverse PySem.F.type_list_reverse mt_reverse (pv 3)))
      (pss_one (ps_ret (pv 3))))))), ?_⟩
    refine ⟨Nat.zero_le _, fun p hp => ?_⟩
    have hap : a ≠ p → True := fun _ => trivial
    refine ⟨_, rfl, a, _, rfl, .inl ((same_new hp).seq hS), _, _, rfl, rfl, ?_⟩
    rw [List.length_map]
    refine ⟨_, rfl, _, rfl, by omega, by omega, for_range (lo := 0) (n := (c : Int).toNat) (fun i σ H' => ∃ (ds : List Int) (sd : Int) (o1 o2 o3 o4 : Option V),
      σ = [some (.ref a), some (.int c), some (.int e), some (.ref p), some (.int sd), o1, o2, o3, o4] ∧ Same H H' ∧ H' p = some (.lst (ds.map V.int)) ∧ ds.length ≤ i * e ∧ 0 ≤ sd ∧ sd < 2147483647)
      ⟨[], _, none, none, none, none, rfl, same_new hp, upd_same, Nat.zero_le _, by omega, by omega⟩ ?_ ?_⟩
    · rintro i σ H1 hi ⟨ds, sd, o1, o2, o3, o4, rfl, e1, h1, hl, s0, s1⟩
      have hie : (i + 1) * e ≤ 2000 := Nat.le_trans (Nat.mul_le_mul_right e (by omega)) hce
      have hie2 : (i + 1) * e = i * e + e := Nat.succ_mul i e
      -- cell = 0 ; if k < len(script): cell = script[k]
      refine ⟨fun σ' H' => ∃ cl : Int, σ' = [some (.ref a), some (.int c), some (.int e), some (.ref p), some (.int sd), some (.int (0 + (i : Int))), some (.int cl), o3, o4] ∧ H' = H1, ?_, ?_⟩
      · refine ⟨_, rfl, _, rfl, a, _, rfl, .inl (e1.seq hS), _, _, rfl, rfl, _, rfl, ?_⟩
        rw [List.length_map]
        refine ite2 (fun hk => ?_) (fun hk => ⟨0, rfl, rfl⟩)
        have hk' : i < ns.length := by
          have := of_decide_eq_true hk
          omega
        refine ⟨_, rfl, _, rfl, a, _, _, .int ns[i], rfl, rfl, e1.seq hS, ?_, ⟨_, rfl, rfl⟩⟩
        rw [Int.zero_add]
        refine atI_nat ?_
        rw [List.getElem?_map, List.getElem?_eq_getElem hk']
        rfl
      · rintro σ' H' ⟨cl, rfl, rfl⟩
        -- rest = abs(cell)
        refine ⟨_, rfl, _, rfl, ?_⟩
        -- if rest >= 10 ** 30
        refine ⟨_, rfl, _, _, rfl, rfl, ⟨by decide, by decide, by decide⟩, _, _, rfl, rfl, _, rfl, ?_⟩
        have hrest : 0 ≤ (if cl < 0 then -cl else cl) := by split <;> omega
        generalize (if cl < 0 then -cl else cl) = rest at hrest
        refine ite2 (fun hb => ?_) (fun hb => ?_)
        · refine ⟨_, rfl, _, rfl, by omega, by omega, for_range (lo := 0) (n := (e : Int).toNat) (fun j σ H2 => ∃ (es : List Int) (rs : Int) (o : Option V),
            σ = [some (.ref a), some (.int c), some (.int e), some (.ref p), some (.int sd), some (.int (0 + (i : Int))), some (.int cl), some (.int rs), o] ∧ Same H H2 ∧ H2 p = some (.lst (es.map V.int)) ∧ es.length ≤ i * e + j)
            ⟨ds, rest, o4, rfl, e1, h1, hl⟩ ?_ ?_⟩
          · rintro j σ H2 hj ⟨es, rs, o, rfl, e2, h2, hl2⟩
            refine ⟨_, rfl, .inl ⟨rfl, _, SqL.of h2⟩, _, rfl, .inl ⟨_, rfl, _, _, rfl, rfl, (by decide : (0 : Int) < 1000003), ?_⟩⟩
            refine ⟨_, _, _, rfl, rfl, h2, small1000' (by rw [List.length_map]; omega), ?_⟩
            refine ⟨_, rfl, _, _, rfl, rfl, ⟨by decide, by decide⟩, ?_⟩
            refine ⟨es ++ [_], _, _, rfl, same_mut e2 hp, by rw [upd_same, List.map_append]; rfl, by rw [List.length_append, List.length_singleton]; omega⟩
          · rintro σ H2 ⟨es, rs, o, rfl, e2, h2, hl2⟩
            exact ⟨es, sd, _, _, _, _, rfl, e2, h2, by omega, s0, s1⟩
        · have hb2 : rest < 10 ^ 30 := by
            have := hb
            simp only [decide_eq_true_eq] at this
            have h3 : ((10 : Int) ^ (30 : Int).toNat) = 10 ^ 30 := by decide
            omega
          refine ⟨_, rfl, _, _, rfl, rfl, .inl ⟨by omega, by omega⟩, _, rfl, _, _, rfl, rfl, .inl ⟨by decide, by decide⟩, _, _, rfl, rfl, ?_⟩
          refine ⟨_, rfl, _, _, rfl, rfl, .inr ⟨_, rfl, _, _, rfl, rfl, _, rfl, _, _, rfl, rfl, .inl ⟨_, rfl, _, _, rfl, rfl, (by decide : (0 : Int) < 2147483647), ?_⟩⟩⟩
          refine ⟨_, rfl, _, rfl, by omega, by omega, for_range (lo := 0) (n := (e : Int).toNat) (fun j σ H2 => ∃ (es : List Int) (se : Int) (o : Option V),
            σ = [some (.ref a), some (.int c), some (.int e), some (.ref p), some (.int se), some (.int (0 + (i : Int))), some (.int cl), some (.int rest), o] ∧ Same H H2 ∧ H2 p = some (.lst (es.map V.int)) ∧ es.length ≤ i * e + j ∧ 0 ≤ se ∧ se < 2147483647)
            ⟨ds, _, o4, rfl, e1, h1, hl, Int.emod_nonneg _ (by decide), Int.emod_lt_of_pos _ (by decide)⟩ ?_ ?_⟩
          · rintro j σ H2 hj ⟨es, se, o, rfl, e2, h2, hl2, u0, u1⟩
            refine ⟨_, rfl, _, _, rfl, rfl, .inl ⟨by omega, by omega⟩, _, rfl, _, _, rfl, rfl, _, _, rfl, rfl, .inl ⟨_, rfl, _, _, rfl, rfl, (by decide : (0 : Int) < 2147483629), ?_⟩⟩
            have v1 := Int.emod_lt_of_pos (se * 69621 + (0 + (j : Int)) + 1) (by decide : (0 : Int) < 2147483629)
            refine ⟨_, rfl, .inl ⟨rfl, _, SqL.of h2⟩, _, rfl, _, _, rfl, rfl, ⟨by decide, by decide⟩, .inl ⟨_, rfl, _, _, rfl, rfl, (by decide : (0 : Int) < 1000003), ?_⟩⟩
            refine ⟨_, _, _, rfl, rfl, h2, small1000' (by rw [List.length_map]; omega), ?_⟩
            exact ⟨es ++ [_], _, _, rfl, same_mut e2 hp, by rw [upd_same, List.map_append]; rfl, by rw [List.length_append, List.length_singleton]; omega, Int.emod_nonneg _ (by decide), Int.lt_trans v1 (by decide)⟩
          · rintro σ H2 ⟨es, se, o, rfl, e2, h2, hl2, u0, u1⟩
            exact ⟨es, se, _, _, _, _, rfl, e2, h2, by omega, u0, u1⟩
    · rintro σ H1 ⟨ds, sd, o1, o2, o3, o4, rfl, e1, h1, hl, s0, s1⟩
      refine ⟨_, rfl, .inl ⟨rfl, _, SqL.of h1⟩, p, _, rfl, rfl, h1, ?_⟩
      refine ⟨_, rfl, k p _ hp (same_mut e1 hp) ⟨ds.reverse, by rw [List.length_reverse]; have : (c : Int).toNat * e = c * e := rfl; omega, by rw [upd_same, List.map_reverse]⟩⟩

/-! ### _law_plain -/
mutual
def plain : PyData → PyData
  | .tuple ds => .list (.bool false :: plains ds)
  | .list ds => .list (.bool true :: plains ds)
  | .none => .str "None"
  | .bool b => .str (if b then "True" else "False")
  | .int i => .list [.bool false, .int i]
  | .str z => .list [.bool true, .str z]
  | .dict _ => .str "another"
def plains : List PyData → List PyData
  | [] => []
  | d :: r => plain d :: plains r
end
theorem plains_map : ∀ ds : List PyData, plains ds = ds.map plain
  | [] => rfl
  | d :: r => by rw [plains, plains_map r, List.map_cons]
mutual
/-- how deep, with no dict in it and no list too long -/
def tall : PyData → Nat → Prop
  | .tuple ds, n + 1 => ds.length ≤ 10000 ∧ talls ds n
  | .list ds, n + 1 => ds.length ≤ 10000 ∧ talls ds n
  | .tuple _, 0 => False
  | .list _, 0 => False
  | .dict _, _ => False
  | _, _ => True
def talls : List PyData → Nat → Prop
  | [], _ => True
  | d :: r, n => tall d n ∧ talls r n
end
theorem talls_get : ∀ {ds : List PyData} {n i : Nat} {d : PyData}, talls ds n → ds[i]? = some d → tall d n
  | [], _, i, d, _, e => by simp at e
  | _ :: _, _, 0, d, h, e => by
    simp at e
    subst e
    exact h.1
  | _ :: r, n, i + 1, d, h, e => talls_get (ds := r) h.2 (by simpa using e)
theorem talls_mem {ds : List PyData} {n : Nat} {d : PyData} (h : talls ds n) (hm : d ∈ ds) : tall d n := by
  obtain ⟨i, hi⟩ := List.mem_iff_getElem?.mp hm
  exact talls_get h hi
def spPlain (K : PySem.W.Frag) : Nat → Sp
  | 0 => fun _ _ _ _ => False
  | n + 1 => fun vs H Q _ => ∃ (v : V) (d : PyData), vs = [v] ∧ Dp K H v d ∧ tall d n ∧ ∀ (u : V) (H' : Hp), Same H H' → Dp K H' u (plain d) → Q u H'
theorem spPlain_mono {K : PySem.W.Frag} {n : Nat} {vs : List V} {H : Hp} {E : XK} (Q1 Q2 : VK) (q : ∀ v G', Q1 v G' → Q2 v G') (h : spPlain K n vs H Q1 E) : spPlain K n vs H Q2 E := by
  cases n with
  | zero => exact h
  | succ n =>
    obtain ⟨v, d, e, h1, h2, k⟩ := h
    exact ⟨v, d, e, h1, h2, fun u H' s p => q u H' (k u H' s p)⟩
theorem plain_step {K : PySem.W.Frag} {n : Nat} {G : Hp} {D : Addr} {acc : List V} {v : V} {d : PyData} {Q : VK} {E : XK} (hD : G D = none) (hd : Dp K G v d) (ht : tall d n)
    (h : ∀ (u : V) (G' : Hp), Same G G' → G' D = none → Dp K G' u (plain d) → Q u (upd G' D (.lst acc))) : fr (spPlain K (n + 1)) [v] (upd G D (.lst acc)) Q E :=
  fr_one hD ⟨v, d, rfl, hd, ht, fun u G' s p hn => h u G' s hn p⟩ fun Q1 Q2 q z => spPlain_mono Q1 Q2 q z
theorem ok_plain {f : Addr} {fd : FuncData} (F : Fun K "_law_plain" "_law_plain" s__law_plain f fd) (T : Txt K mg) (hm : mg "_law_plain" = some (.ref f)) (b : Binds K fd ["value"] []) : ∀ n : Nat, FnOk P w K mg base CX0 n f fd ["value"] (spPlain K n) := by
  intro n
  induction n with
  | zero => exact ⟨fun _ _ _ _ h => h.elim, fun _ _ _ _ _ _ _ _ _ _ _ _ _ h => h.elim⟩
  | succ n ih =>
    have c__law_plain : Cal P w K mg base n "_law_plain" (fr (spPlain K n)) [] := ⟨f, fd, _, _, fn_fr ih, hm, F.kp, b, .nil⟩
    refine F.ok sc__law_plain (fun vs H Q E h => ?_) (fun cdv A outer s H vs Q E hr h => ?_)
    · obtain ⟨v, d, rfl, _⟩ := h
      rfl
    · obtain ⟨v, d, rfl, hd, ht, k⟩ := h
      cases d with
      | tuple ds =>
        cases n with
        | zero => exact ht.elim
        | succ n =>
          obtain ⟨hl, ht⟩ := ht
          obtain ⟨a, xs, rfl, hx, hxs⟩ := dp_tup hd
          refine ⟨_, (pss_cons (ps_if (pt_val (pe_callB call_isiT (by rfl) T.b_isinstance boot_isinstance' (pa_cons (pv 0) (pa_cons (pe_tup (pa_cons (pe_bltn (v := .ty "tuple") (by rfl) T.b_tuple boot_tuple' rfl) (pa_cons (pe_bltn (v := .ty "list") (by rfl) T.b_list boot_list' rfl) pa_nil))) pa_nil)))) (pss_one (ps_ret (pe_op op_cat (pe_lst (pa_cons (pe_callB call_isi (by rfl) T.b_isinstance boot_isinstance' (pa_cons (pv 0) (pa_cons (pe_bltn (v := .ty "list") (by rfl) T.b_list boot_list' rfl) pa_nil))) pa_nil)) (pe_lc (own := [("item", 1)]) rfl sc__law_plain.nd (pi_tup (pv 0)) (blkOk_by (own := [("item", 1)]) (N := ["value", "item"]) (sc := defScope s__law_plain) (by decide +kernel)) (fun _ _ _ _ _ => (pg_name (i := 1) sc__law_plain.nd rfl (Or.inl rfl))) (fun _ _ _ _ _ => pts_nil) (fun _ _ _ _ _ => (pe_c c__law_plain hr (by omega) rfl (pa_cons (pv 1) pa_nil))))))) pss_nil)
      (pss_cons (ps_if (PW.pt (pw_or (pt_cmpR op_isN (pv 0) pe_non (nomark _)) (pw_or1 (pt_val (pe_callB call_isi (by rfl) T.b_isinstance boot_isinstance' (pa_cons (pv 0) (pa_cons (pe_bltn (v := .ty "bool") (by rfl) T.b_bool boot_bool' rfl) pa_nil))))))) (pss_one (ps_ret (pe_ix ix_list (pe_lst (pa_cons pe_str (pa_cons pe_str (pa_cons pe_str pa_nil)))) (pe_op op_add (pe_callTy call_int1 (by rfl) T.b_int boot_int' (pa_cons (pe_cmpR op_notN (pv 0) pe_non (nomark _)) pa_nil)) (pe_callTy call_int1 (by rfl) T.b_int boot_int' (pa_cons (pe_cmpR op_isX (pv 0) pe_bl (nomark _)) pa_nil))) (fun _ _ => rfl)))) pss_nil)
      (pss_cons (ps_if (pt_val (pe_callB call_isiT (by rfl) T.b_isinstance boot_isinstance' (pa_cons (pv 0) (pa_cons (pe_tup (pa_cons (pe_bltn (v := .ty "int") (by rfl) T.b_int boot_int' rfl) (pa_cons (pe_bltn (v := .ty "str") (by rfl) T.b_str boot_str' rfl) pa_nil))) pa_nil)))) (pss_one (ps_ret (pe_lst (pa_cons (pe_callB call_isi (by rfl) T.b_isinstance boot_isinstance' (pa_cons (pv 0) (pa_cons (pe_bltn (v := .ty "str") (by rfl) T.b_str boot_str' rfl) pa_nil))) (pa_cons (pv 0) pa_nil))))) pss_nil)
      (pss_one (ps_ret pe_str))))), ?_⟩
          refine ⟨_, rfl, by decide, fun p1 n1 => ?_⟩
          refine ⟨_, _, _, _, _, _, rfl, upd_same, clsv2 _ _, dp_ty (dp_same (same_new n1) hd), kitD2 K _ _ _ (by decide) (by decide), _, rfl, iteT ?_⟩
          refine ⟨_, rfl, _, _, _, _, _, rfl, .ty _, dp_ty (dp_same (same_new n1) hd), kitD K _ _ (by decide), (show 1 ≤ sizeLine by decide), fun p2 n2 => ?_⟩
          have s2 := (same_new (o := HO.tup [V.ty "tuple", V.ty "list"]) n1).trans (same_new (o := HO.lst [V.bl (isD "list" (.tuple ds))]) n2)
          refine ⟨_, rfl, a, rfl, ⟨_, Same.tup s2 hx⟩, fun D hD => lc_dataT (K := K) (a := a) (xs := xs) (ds := ds) (fun _ => true) plain (Same.tup s2 hx) (dps_same s2 hxs) hD (by omega) ?_ ?_⟩
          · intro v d G acc R dm hv sG hG ha _ hk
            refine ⟨rfl, _, rfl, ?_⟩
            refine plain_step hG hv (talls_mem ht dm) fun u G' s' hG' du => ⟨acc, upd_same, ha, ?_⟩
            rw [upd_app]
            exact hk rfl G' u s' hG' du
          · intro G ys sG hG hys
            have hF : ds.filter (fun _ => true) = ds := List.filter_eq_self.mpr fun _ _ => rfl
            rw [hF] at hys
            have hp2 : G p2 = some (.lst [V.bl (isD "list" (.tuple ds))]) := sG _ _ upd_same
            refine ⟨p2, D, _, _, rfl, rfl, by rw [upd_ne (ne_of_none hp2 hG)]; exact hp2, upd_same, ?_, fun p n3 => ?_⟩
            · show 1 + ys.length ≤ sizeLine
              have q := dps_len hys
              rw [List.length_map] at q
              exact Nat.le_of_lt (small1000' (by omega))
            · have s4 : Same G (upd (upd G D (.lst ys)) p (.lst ([V.bl (isD "list" (.tuple ds))] ++ ys))) := (same_new hG).trans (same_new n3)
              refine k _ _ (s2.trans (sG.trans s4)) (.lst (SqL.of upd_same) (.cons ?_ ?_))
              · exact .bl _
              · rw [plains_map]
                exact dps_same s4 hys
      | list ds =>
        cases n with
        | zero => exact ht.elim
        | succ n =>
          obtain ⟨hl, ht⟩ := ht
          obtain ⟨a, xs, rfl, hx, hxs⟩ := dp_lst hd
          refine ⟨_, (pss_cons (ps_if (pt_val (pe_callB call_isiT (by rfl) T.b_isinstance boot_isinstance' (pa_cons (pv 0) (pa_cons (pe_tup (pa_cons (pe_bltn (v := .ty "tuple") (by rfl) T.b_tuple boot_tuple' rfl) (pa_cons (pe_bltn (v := .ty "list") (by rfl) T.b_list boot_list' rfl) pa_nil))) pa_nil)))) (pss_one (ps_ret (pe_op op_cat (pe_lst (pa_cons (pe_callB call_isi (by rfl) T.b_isinstance boot_isinstance' (pa_cons (pv 0) (pa_cons (pe_bltn (v := .ty "list") (by rfl) T.b_list boot_list' rfl) pa_nil))) pa_nil)) (pe_lc (own := [("item", 1)]) rfl sc__law_plain.nd (pi_list (pv 0)) (blkOk_by (own := [("item", 1)]) (N := ["value", "item"]) (sc := defScope s__law_plain) (by decide +kernel)) (fun _ _ _ _ _ => (pg_name (i := 1) sc__law_plain.nd rfl (Or.inl rfl))) (fun _ _ _ _ _ => pts_nil) (fun _ _ _ _ _ => (pe_c c__law_plain hr (by omega) rfl (pa_cons (pv 1) pa_nil))))))) pss_nil)
      (pss_cons (ps_if (PW.pt (pw_or (pt_cmpR op_isN (pv 0) pe_non (nomark _)) (pw_or1 (pt_val (pe_callB call_isi (by rfl) T.b_isinstance boot_isinstance' (pa_cons (pv 0) (pa_cons (pe_bltn (v := .ty "bool") (by rfl) T.b_bool boot_bool' rfl) pa_nil))))))) (pss_one (ps_ret (pe_ix ix_list (pe_lst (pa_cons pe_str (pa_cons pe_str (pa_cons pe_str pa_nil)))) (pe_op op_add (pe_callTy call_int1 (by rfl) T.b_int boot_int' (pa_cons (pe_cmpR op_notN (pv 0) pe_non (nomark _)) pa_nil)) (pe_callTy call_int1 (by rfl) T.b_int boot_int' (pa_cons (pe_cmpR op_isX (pv 0) pe_bl (nomark _)) pa_nil))) (fun _ _ => rfl)))) pss_nil)
      (pss_cons (ps_if (pt_val (pe_callB call_isiT (by rfl) T.b_isinstance boot_isinstance' (pa_cons (pv 0) (pa_cons (pe_tup (pa_cons (pe_bltn (v := .ty "int") (by rfl) T.b_int boot_int' rfl) (pa_cons (pe_bltn (v := .ty "str") (by rfl) T.b_str boot_str' rfl) pa_nil))) pa_nil)))) (pss_one (ps_ret (pe_lst (pa_cons (pe_callB call_isi (by rfl) T.b_isinstance boot_isinstance' (pa_cons (pv 0) (pa_cons (pe_bltn (v := .ty "str") (by rfl) T.b_str boot_str' rfl) pa_nil))) (pa_cons (pv 0) pa_nil))))) pss_nil)
      (pss_one (ps_ret pe_str))))), ?_⟩
          refine ⟨_, rfl, by decide, fun p1 n1 => ?_⟩
          refine ⟨_, _, _, _, _, _, rfl, upd_same, clsv2 _ _, dp_ty (dp_same (same_new n1) hd), kitD2 K _ _ _ (by decide) (by decide), _, rfl, iteT ?_⟩
          refine ⟨_, rfl, _, _, _, _, _, rfl, .ty _, dp_ty (dp_same (same_new n1) hd), kitD K _ _ (by decide), (show 1 ≤ sizeLine by decide), fun p2 n2 => ?_⟩
          have s2 := (same_new (o := HO.tup [V.ty "tuple", V.ty "list"]) n1).trans (same_new (o := HO.lst [V.bl (isD "list" (.list ds))]) n2)
          refine ⟨_, rfl, a, rfl, ⟨_, s2.seq hx⟩, fun D hD => lc_data (K := K) (a := a) (xs := xs) (ds := ds) (fun _ => true) plain (s2.seq hx) (dps_same s2 hxs) hD (by omega) ?_ ?_⟩
          · intro v d G acc R dm hv sG hG ha _ hk
            refine ⟨rfl, _, rfl, ?_⟩
            refine plain_step hG hv (talls_mem ht dm) fun u G' s' hG' du => ⟨acc, upd_same, ha, ?_⟩
            rw [upd_app]
            exact hk rfl G' u s' hG' du
          · intro G ys sG hG hys
            have hF : ds.filter (fun _ => true) = ds := List.filter_eq_self.mpr fun _ _ => rfl
            rw [hF] at hys
            have hp2 : G p2 = some (.lst [V.bl (isD "list" (.list ds))]) := sG _ _ upd_same
            refine ⟨p2, D, _, _, rfl, rfl, by rw [upd_ne (ne_of_none hp2 hG)]; exact hp2, upd_same, ?_, fun p n3 => ?_⟩
            · show 1 + ys.length ≤ sizeLine
              have q := dps_len hys
              rw [List.length_map] at q
              exact Nat.le_of_lt (small1000' (by omega))
            · have s4 : Same G (upd (upd G D (.lst ys)) p (.lst ([V.bl (isD "list" (.list ds))] ++ ys))) := (same_new hG).trans (same_new n3)
              refine k _ _ (s2.trans (sG.trans s4)) (.lst (SqL.of upd_same) (.cons ?_ ?_))
              · exact .bl _
              · rw [plains_map]
                exact dps_same s4 hys
      | dict _ => cases hd
      | none =>
        cases dp_non hd
        refine ⟨_, (pss_cons (ps_if (pt_val (pe_callB call_isiT (by rfl) T.b_isinstance boot_isinstance' (pa_cons (pv 0) (pa_cons (pe_tup (pa_cons (pe_bltn (v := .ty "tuple") (by rfl) T.b_tuple boot_tuple' rfl) (pa_cons (pe_bltn (v := .ty "list") (by rfl) T.b_list boot_list' rfl) pa_nil))) pa_nil)))) (pss_one (ps_ret (pe_op op_cat (pe_lst (pa_cons (pe_callB call_isi (by rfl) T.b_isinstance boot_isinstance' (pa_cons (pv 0) (pa_cons (pe_bltn (v := .ty "list") (by rfl) T.b_list boot_list' rfl) pa_nil))) pa_nil)) (pe_lc (own := [("item", 1)]) rfl sc__law_plain.nd (pi_list (pv 0)) (blkOk_by (own := [("item", 1)]) (N := ["value", "item"]) (sc := defScope s__law_plain) (by decide +kernel)) (fun _ _ _ _ _ => (pg_name (i := 1) sc__law_plain.nd rfl (Or.inl rfl))) (fun _ _ _ _ _ => pts_nil) (fun _ _ _ _ _ => (pe_c c__law_plain hr (by omega) rfl (pa_cons (pv 1) pa_nil))))))) pss_nil)
      (pss_cons (ps_if (PW.pt (pw_or (pt_cmpR op_isN (pv 0) pe_non (nomark _)) (pw_or1 (pt_val (pe_callB call_isi (by rfl) T.b_isinstance boot_isinstance' (pa_cons (pv 0) (pa_cons (pe_bltn (v := .ty "bool") (by rfl) T.b_bool boot_bool' rfl) pa_nil))))))) (pss_one (ps_ret (pe_ix ix_list (pe_lst (pa_cons pe_str (pa_cons pe_str (pa_cons pe_str pa_nil)))) (pe_op op_add (pe_callTy call_int1 (by rfl) T.b_int boot_int' (pa_cons (pe_cmpR op_notN (pv 0) pe_non (nomark _)) pa_nil)) (pe_callTy call_int1 (by rfl) T.b_int boot_int' (pa_cons (pe_cmpR op_isX (pv 0) pe_bl (nomark _)) pa_nil))) (fun _ _ => rfl)))) pss_nil)
      (pss_cons (ps_if (pt_val (pe_callB call_isiT (by rfl) T.b_isinstance boot_isinstance' (pa_cons (pv 0) (pa_cons (pe_tup (pa_cons (pe_bltn (v := .ty "int") (by rfl) T.b_int boot_int' rfl) (pa_cons (pe_bltn (v := .ty "str") (by rfl) T.b_str boot_str' rfl) pa_nil))) pa_nil)))) (pss_one (ps_ret (pe_lst (pa_cons (pe_callB call_isi (by rfl) T.b_isinstance boot_isinstance' (pa_cons (pv 0) (pa_cons (pe_bltn (v := .ty "str") (by rfl) T.b_str boot_str' rfl) pa_nil))) (pa_cons (pv 0) pa_nil))))) pss_nil)
      (pss_one (ps_ret pe_str))))), ?_⟩
        refine ⟨_, rfl, by decide, fun p1 n1 => ?_⟩
        refine ⟨_, _, _, _, _, _, rfl, upd_same, clsv2 _ _, dp_ty (dp_same (same_new n1) hd), kitD2 K _ _ _ (by decide) (by decide), _, rfl, iteF ?_⟩
        refine ⟨_, rfl, rfl, _, rfl, iteT (iteT ?_)⟩
        refine ⟨(show 3 ≤ sizeLine by decide), fun p2 n2 => ?_⟩
        refine ⟨_, rfl, rfl, .inr ⟨_, rfl, _, rfl, _, rfl, .inl rfl, .inr ⟨_, rfl, _, _, rfl, rfl, p2, _, 0, .str "None", rfl, rfl, SqL.of upd_same, rfl, ?_⟩⟩⟩
        exact k _ _ ((same_new n1).trans (same_new n2)) (.str _)
      | bool z =>
        cases dp_bl hd
        refine ⟨_, (pss_cons (ps_if (pt_val (pe_callB call_isiT (by rfl) T.b_isinstance boot_isinstance' (pa_cons (pv 0) (pa_cons (pe_tup (pa_cons (pe_bltn (v := .ty "tuple") (by rfl) T.b_tuple boot_tuple' rfl) (pa_cons (pe_bltn (v := .ty "list") (by rfl) T.b_list boot_list' rfl) pa_nil))) pa_nil)))) (pss_one (ps_ret (pe_op op_cat (pe_lst (pa_cons (pe_callB call_isi (by rfl) T.b_isinstance boot_isinstance' (pa_cons (pv 0) (pa_cons (pe_bltn (v := .ty "list") (by rfl) T.b_list boot_list' rfl) pa_nil))) pa_nil)) (pe_lc (own := [("item", 1)]) rfl sc__law_plain.nd (pi_list (pv 0)) (blkOk_by (own := [("item", 1)]) (N := ["value", "item"]) (sc := defScope s__law_plain) (by decide +kernel)) (fun _ _ _ _ _ => (pg_name (i := 1) sc__law_plain.nd rfl (Or.inl rfl))) (fun _ _ _ _ _ => pts_nil) (fun _ _ _ _ _ => (pe_c c__law_plain hr (by omega) rfl (pa_cons (pv 1) pa_nil))))))) pss_nil)
      (pss_cons (ps_if (PW.pt (pw_or (pt_cmpR op_isN (pv 0) pe_non (nomark _)) (pw_or1 (pt_val (pe_callB call_isi (by rfl) T.b_isinstance boot_isinstance' (pa_cons (pv 0) (pa_cons (pe_bltn (v := .ty "bool") (by rfl) T.b_bool boot_bool' rfl) pa_nil))))))) (pss_one (ps_ret (pe_ix ix_list (pe_lst (pa_cons pe_str (pa_cons pe_str (pa_cons pe_str pa_nil)))) (pe_op op_add (pe_callTy call_int1 (by rfl) T.b_int boot_int' (pa_cons (pe_cmpR op_notN (pv 0) pe_non (nomark _)) pa_nil)) (pe_callTy call_int1 (by rfl) T.b_int boot_int' (pa_cons (pe_cmpR op_isX (pv 0) pe_bl (nomark _)) pa_nil))) (fun _ _ => rfl)))) pss_nil)
      (pss_cons (ps_if (pt_val (pe_callB call_isiT (by rfl) T.b_isinstance boot_isinstance' (pa_cons (pv 0) (pa_cons (pe_tup (pa_cons (pe_bltn (v := .ty "int") (by rfl) T.b_int boot_int' rfl) (pa_cons (pe_bltn (v := .ty "str") (by rfl) T.b_str boot_str' rfl) pa_nil))) pa_nil)))) (pss_one (ps_ret (pe_lst (pa_cons (pe_callB call_isi (by rfl) T.b_isinstance boot_isinstance' (pa_cons (pv 0) (pa_cons (pe_bltn (v := .ty "str") (by rfl) T.b_str boot_str' rfl) pa_nil))) (pa_cons (pv 0) pa_nil))))) pss_nil)
      (pss_one (ps_ret pe_str))))), ?_⟩
        refine ⟨_, rfl, by decide, fun p1 n1 => ?_⟩
        refine ⟨_, _, _, _, _, _, rfl, upd_same, clsv2 _ _, dp_ty (dp_same (same_new n1) hd), kitD2 K _ _ _ (by decide) (by decide), _, rfl, iteF ?_⟩
        refine ⟨_, rfl, rfl, _, rfl, iteF ⟨_, rfl, _, _, _, _, _, rfl, .ty _, dp_ty (dp_same (same_new n1) hd), kitD K _ _ (by decide), _, rfl, iteT ?_⟩⟩
        refine ⟨(show 3 ≤ sizeLine by decide), fun p2 n2 => ?_⟩
        cases z with
        | true =>
          refine ⟨_, rfl, rfl, .inr ⟨_, rfl, _, rfl, _, rfl, .inr (.inl ⟨_, rfl⟩), .inr ⟨_, rfl, _, _, rfl, rfl, p2, _, 2, .str "True", rfl, rfl, SqL.of upd_same, rfl, ?_⟩⟩⟩
          exact k _ _ ((same_new n1).trans (same_new n2)) (.str _)
        | false =>
          refine ⟨_, rfl, rfl, .inr ⟨_, rfl, _, rfl, _, rfl, .inr (.inl ⟨_, rfl⟩), .inr ⟨_, rfl, _, _, rfl, rfl, p2, _, 1, .str "False", rfl, rfl, SqL.of upd_same, rfl, ?_⟩⟩⟩
          exact k _ _ ((same_new n1).trans (same_new n2)) (.str _)
      | int i =>
        cases dp_int hd
        refine ⟨_, (pss_cons (ps_if (pt_val (pe_callB call_isiT (by rfl) T.b_isinstance boot_isinstance' (pa_cons (pv 0) (pa_cons (pe_tup (pa_cons (pe_bltn (v := .ty "tuple") (by rfl) T.b_tuple boot_tuple' rfl) (pa_cons (pe_bltn (v := .ty "list") (by rfl) T.b_list boot_list' rfl) pa_nil))) pa_nil)))) (pss_one (ps_ret (pe_op op_cat (pe_lst (pa_cons (pe_callB call_isi (by rfl) T.b_isinstance boot_isinstance' (pa_cons (pv 0) (pa_cons (pe_bltn (v := .ty "list") (by rfl) T.b_list boot_list' rfl) pa_nil))) pa_nil)) (pe_lc (own := [("item", 1)]) rfl sc__law_plain.nd (pi_list (pv 0)) (blkOk_by (own := [("item", 1)]) (N := ["value", "item"]) (sc := defScope s__law_plain) (by decide +kernel)) (fun _ _ _ _ _ => (pg_name (i := 1) sc__law_plain.nd rfl (Or.inl rfl))) (fun _ _ _ _ _ => pts_nil) (fun _ _ _ _ _ => (pe_c c__law_plain hr (by omega) rfl (pa_cons (pv 1) pa_nil))))))) pss_nil)
      (pss_cons (ps_if (PW.pt (pw_or (pt_cmpR op_isN (pv 0) pe_non (nomark _)) (pw_or1 (pt_val (pe_callB call_isi (by rfl) T.b_isinstance boot_isinstance' (pa_cons (pv 0) (pa_cons (pe_bltn (v := .ty "bool") (by rfl) T.b_bool boot_bool' rfl) pa_nil))))))) (pss_one (ps_ret (pe_ix ix_list (pe_lst (pa_cons pe_str (pa_cons pe_str (pa_cons pe_str pa_nil)))) (pe_op op_add (pe_callTy call_int1 (by rfl) T.b_int boot_int' (pa_cons (pe_cmpR op_notN (pv 0) pe_non (nomark _)) pa_nil)) (pe_callTy call_int1 (by rfl) T.b_int boot_int' (pa_cons (pe_cmpR op_isX (pv 0) pe_bl (nomark _)) pa_nil))) (fun _ _ => rfl)))) pss_nil)
      (pss_cons (ps_if (pt_val (pe_callB call_isiT (by rfl) T.b_isinstance boot_isinstance' (pa_cons (pv 0) (pa_cons (pe_tup (pa_cons (pe_bltn (v := .ty "int") (by rfl) T.b_int boot_int' rfl) (pa_cons (pe_bltn (v := .ty "str") (by rfl) T.b_str boot_str' rfl) pa_nil))) pa_nil)))) (pss_one (ps_ret (pe_lst (pa_cons (pe_callB call_isi (by rfl) T.b_isinstance boot_isinstance' (pa_cons (pv 0) (pa_cons (pe_bltn (v := .ty "str") (by rfl) T.b_str boot_str' rfl) pa_nil))) (pa_cons (pv 0) pa_nil))))) pss_nil)
      (pss_one (ps_ret pe_str))))), ?_⟩
        refine ⟨_, rfl, by decide, fun p1 n1 => ?_⟩
        refine ⟨_, _, _, _, _, _, rfl, upd_same, clsv2 _ _, dp_ty (dp_same (same_new n1) hd), kitD2 K _ _ _ (by decide) (by decide), _, rfl, iteF ?_⟩
        refine ⟨_, rfl, rfl, _, rfl, iteF ⟨_, rfl, _, _, _, _, _, rfl, .ty _, dp_ty (dp_same (same_new n1) hd), kitD K _ _ (by decide), _, rfl, iteF ?_⟩⟩
        refine ⟨_, rfl, by decide, fun p2 n2 => ?_⟩
        have s2 := (same_new (o := HO.tup [V.ty "tuple", V.ty "list"]) n1).trans (same_new (o := HO.tup [V.ty "int", V.ty "str"]) n2)
        refine ⟨_, _, _, _, _, _, rfl, upd_same, clsv2 _ _, dp_ty (dp_same s2 hd), kitD2 K _ _ _ (by decide) (by decide), _, rfl, iteT ?_⟩
        refine ⟨_, rfl, _, _, _, _, _, rfl, .ty _, dp_ty (dp_same s2 hd), kitD K _ _ (by decide), _, rfl, (show 2 ≤ sizeLine by decide), fun p3 n3 => ?_⟩
        exact k _ _ (s2.trans (same_new n3)) (.lst (SqL.of upd_same) (.cons (.bl _) (.cons (.int _) .nil)))
      | str z =>
        cases dp_str hd
        refine ⟨_, (pss_cons (ps_if (pt_val (pe_callB call_isiT (by rfl) T.b_isinstance boot_isinstance' (pa_cons (pv 0) (pa_cons (pe_tup (pa_cons (pe_bltn (v := .ty "tuple") (by rfl) T.b_tuple boot_tuple' rfl) (pa_cons (pe_bltn (v := .ty "list") (by rfl) T.b_list boot_list' rfl) pa_nil))) pa_nil)))) (pss_one (ps_ret (pe_op op_cat (pe_lst (pa_cons (pe_callB call_isi (by rfl) T.b_isinstance boot_isinstance' (pa_cons (pv 0) (pa_cons (pe_bltn (v := .ty "list") (by rfl) T.b_list boot_list' rfl) pa_nil))) pa_nil)) (pe_lc (own := [("item", 1)]) rfl sc__law_plain.nd (pi_list (pv 0)) (blkOk_by (own := [("item", 1)]) (N := ["value", "item"]) (sc := defScope s__law_plain) (by decide +kernel)) (fun _ _ _ _ _ => (pg_name (i := 1) sc__law_plain.nd rfl (Or.inl rfl))) (fun _ _ _ _ _ => pts_nil) (fun _ _ _ _ _ => (pe_c c__law_plain hr (by omega) rfl (pa_cons (pv 1) pa_nil))))))) pss_nil)
      (pss_cons (ps_if (PW.pt (pw_or (pt_cmpR op_isN (pv 0) pe_non (nomark _)) (pw_or1 (pt_val (pe_callB call_isi (by rfl) T.b_isinstance boot_isinstance' (pa_cons (pv 0) (pa_cons (pe_bltn (v := .ty "bool") (by rfl) T.b_bool boot_bool' rfl) pa_nil))))))) (pss_one (ps_ret (pe_ix ix_list (pe_lst (pa_cons pe_str (pa_cons pe_str (pa_cons pe_str pa_nil)))) (pe_op op_add (pe_callTy call_int1 (by rfl) T.b_int boot_int' (pa_cons (pe_cmpR op_notN (pv 0) pe_non (nomark _)) pa_nil)) (pe_callTy call_int1 (by rfl) T.b_int boot_int' (pa_cons (pe_cmpR op_isX (pv 0) pe_bl (nomark _)) pa_nil))) (fun _ _ => rfl)))) pss_nil)
      (pss_cons (ps_if (pt_val (pe_callB call_isiT (by rfl) T.b_isinstance boot_isinstance' (pa_cons (pv 0) (pa_cons (pe_tup (pa_cons (pe_bltn (v := .ty "int") (by rfl) T.b_int boot_int' rfl) (pa_cons (pe_bltn (v := .ty "str") (by rfl) T.b_str boot_str' rfl) pa_nil))) pa_nil)))) (pss_one (ps_ret (pe_lst (pa_cons (pe_callB call_isi (by rfl) T.b_isinstance boot_isinstance' (pa_cons (pv 0) (pa_cons (pe_bltn (v := .ty "str") (by rfl) T.b_str boot_str' rfl) pa_nil))) (pa_cons (pv 0) pa_nil))))) pss_nil)
      (pss_one (ps_ret pe_str))))), ?_⟩
        refine ⟨_, rfl, by decide, fun p1 n1 => ?_⟩
        refine ⟨_, _, _, _, _, _, rfl, upd_same, clsv2 _ _, dp_ty (dp_same (same_new n1) hd), kitD2 K _ _ _ (by decide) (by decide), _, rfl, iteF ?_⟩
        refine ⟨_, rfl, rfl, _, rfl, iteF ⟨_, rfl, _, _, _, _, _, rfl, .ty _, dp_ty (dp_same (same_new n1) hd), kitD K _ _ (by decide), _, rfl, iteF ?_⟩⟩
        refine ⟨_, rfl, by decide, fun p2 n2 => ?_⟩
        have s2 := (same_new (o := HO.tup [V.ty "tuple", V.ty "list"]) n1).trans (same_new (o := HO.tup [V.ty "int", V.ty "str"]) n2)
        refine ⟨_, _, _, _, _, _, rfl, upd_same, clsv2 _ _, dp_ty (dp_same s2 hd), kitD2 K _ _ _ (by decide) (by decide), _, rfl, iteT ?_⟩
        refine ⟨_, rfl, _, _, _, _, _, rfl, .ty _, dp_ty (dp_same s2 hd), kitD K _ _ (by decide), _, rfl, (show 2 ≤ sizeLine by decide), fun p3 n3 => ?_⟩
        exact k _ _ (s2.trans (same_new n3)) (.lst (SqL.of upd_same) (.cons (.bl _) (.cons (.str _) .nil)))

end
end Q43



namespace Q43
open PySem L2 G M43
open C8 (Cal Met Mak pe_c pe_mk pe_mt pe_mt0 pe_gc pss_cut tCut)
def triV (r : Tri) : List V := [.int r.1, .int r.2.1, .int r.2.2]
def triD (r : Tri) : PyData := .tuple [.int r.1, .int r.2.1, .int r.2.2]
def bitV (b : List Int) : List V := b.map V.int
abbrev Rows (H : Hp) (xs : List V) (rs : List Tri) : Prop := Paired (fun v r => TupL H v (triV r)) xs rs
abbrev BRows (H : Hp) (xs : List V) (bs : List (List Int)) : Prop := Paired (fun v b => TupL H v (bitV b)) xs bs
theorem Rows.same {H H' : Hp} {xs : List V} {rs : List Tri} (s : Same H H') (h : Rows H xs rs) : Rows H' xs rs := Paired.mapP h fun _ _ z => z.same s
theorem BRows.same {H H' : Hp} {xs : List V} {rs : List (List Int)} (s : Same H H') (h : BRows H xs rs) : BRows H' xs rs := Paired.mapP h fun _ _ z => z.same s
/-- a slot's number -/
def natAt (σ : List (Option V)) (i : Nat) : Nat := match σ[i]? with | some (some (V.int z)) => z.toNat | _ => 0
/-- a diagram: a tuple of a list of rows and a root -/
def Diag (K : PySem.W.Frag) (H : Hp) (v : V) (rs : List Tri) (root : Int) : Prop := ∃ (a l : Addr) (xs : List V), v = .ref a ∧ SqT K H a [.ref l, .int root] ∧ SqL K H l xs ∧ Rows H xs rs
theorem at_tri {l : List V} {i : Int} {v : V} (h0 : 0 ≤ i) (h : l[i.toNat]? = some v) : atI l i = some v := by
  obtain ⟨n, rfl⟩ := Int.eq_ofNat_of_zero_le h0
  exact atI_nat h

section
variable {P : Program} {w : World} {K : PySem.W.Frag} {mg : Str → Option Value} {base : Heap}
/-! ### is_number -/
def isNum : PyData → Bool
  | .int _ => true
  | _ => false
def spNum (K : PySem.W.Frag) : Sp := fun vs H Q _ => ∃ (v : V) (d : PyData), vs = [v] ∧ Dp K H v d ∧ Q (.bl (isNum d)) H
theorem ok_num {f : Addr} {fd : FuncData} (F : Fun K "is_number" "is_number" s_is_number f fd) (T : Txt K mg) : FnOk P w K mg base CX0 1 f fd ["value"] (spNum K) := by
  refine F.ok sc_is_number (fun vs H Q E h => ?_) (fun cdv A outer s H vs Q E hr h => ?_)
  · obtain ⟨v, d, rfl, _⟩ := h
    rfl
  · obtain ⟨v, d, rfl, hd, k⟩ := h
    refine ⟨_, (pss_one (ps_ret (pe_and (pe_callB call_isi (by rfl) T.b_isinstance boot_isinstance' (pa_cons (pv 0) (pa_cons (pe_bltn (v := .ty "int") (by rfl) T.b_int boot_int' rfl) pa_nil))) (pe_one (pe_not (pe_callB call_isi (by rfl) T.b_isinstance boot_isinstance' (pa_cons (pv 0) (pa_cons (pe_bltn (v := .ty "bool") (by rfl) T.b_bool boot_bool' rfl) pa_nil)))))))), ?_⟩
    refine ⟨_, rfl, _, _, _, _, _, rfl, .ty _, dp_ty hd, kitD K _ _ (by decide), _, rfl, ?_⟩
    refine ite2 (fun h1 => ?_) (fun h1 => ?_)
    · refine ⟨_, rfl, _, _, _, _, _, rfl, .ty _, dp_ty hd, kitD K _ _ (by decide), _, rfl, ?_⟩
      have e : isNum d = !isD "bool" d := by
        cases d <;> first | rfl | (exact absurd h1 (by simp [isD, isT, tyD]))
      rw [← e]
      exact k
    · have e : isNum d = false := by
        cases d <;> first | rfl | (exact absurd (by simp [isD, isT, tyD]) h1)
      rw [← e]
      exact k

/-! ### holds, followed -/
def spHolds (K : PySem.W.Frag) : Sp := fun vs H Q _ => ∃ (d b : V) (rs : List Tri) (root : Int) (bs : List Int) (m : Int), vs = [d, b] ∧ Diag K H d rs root ∧ TupL H b (bitV bs) ∧ Good m rs ∧ m ≤ bs.length ∧ (∀ x ∈ bs, x = 0 ∨ x = 1) ∧
  0 ≤ root ∧ root < rs.length + 2 ∧ Q (.bl ((vals bs rs).getD root.toNat false)) H
theorem row_here {m : Int} {rs : List Tri} (g : Good m rs) {here : Int} (h1 : 1 < here) (h2 : here < rs.length + 2) : ∃ r, rs[(here - 2).toNat]? = some r ∧ RowOk m rs (here - 2).toNat r := by
  have hl : (here - 2).toNat < rs.length := by omega
  exact ⟨_, List.getElem?_eq_getElem hl, g _ _ (List.getElem?_eq_getElem hl)⟩
theorem end_here {bs : List Int} {rs : List Tri} {here : Int} (h0 : 0 ≤ here) (h1 : ¬ 1 < here) : decide (V.int here = V.int 1) = (vals bs rs).getD here.toNat false := by
  have e : here = 0 ∨ here = 1 := by omega
  rcases e with rfl | rfl
  · exact (vals0 bs rs).symm
  · exact (vals1 bs rs).symm
theorem ok_holds {f : Addr} {fd : FuncData} (F : Fun K "holds" "holds" s_holds f fd) (T : Txt K mg) : FnOk P w K mg base CX0 1 f fd ["diagram", "bits"] (spHolds K) := by
  refine F.ok sc_holds (fun vs H Q E h => ?_) (fun cdv A outer s H vs Q E hr h => ?_)
  · obtain ⟨v, d, _, _, _, _, rfl, _⟩ := h
    rfl
  · obtain ⟨d, b, rs, root, bs, m, rfl, ⟨a, l, xs, rfl, ha, hl, hx⟩, ⟨tb, rfl, hb⟩, g, hm, h01, r0, r1, k⟩ := h
    refine ⟨_, (pss_cons (ps_asg (pv 0) (pg_tup rfl (pgs_cons (pg_name (i := 2) sc_holds.nd rfl (Or.inl rfl)) (pgs_cons (pg_name (i := 3) sc_holds.nd rfl (Or.inl rfl)) pgs_nil))))
      (pss_cons (ps_while PassesOwn.never (pt_cmpR op_gt (pv 3) pe_int (nomark _)) (pss_cons (ps_asg (pe_ix ix_list (pv 2) (pe_op op_sub (pv 3) pe_int) (fun _ _ => rfl)) (pg_tup rfl (pgs_cons (pg_name (i := 4) sc_holds.nd rfl (Or.inl rfl)) (pgs_cons (pg_name (i := 5) sc_holds.nd rfl (Or.inl rfl)) (pgs_cons (pg_name (i := 6) sc_holds.nd rfl (Or.inl rfl)) pgs_nil)))))
      (pss_one (ps_set (i := 3) sc_holds.nd rfl (Or.inl rfl) (pe_ifExp (pt_truth (pe_ix ix_tup (pv 1) (pv 4) (fun _ _ => rfl)) (by intro _; rfl)) (pv 6) (pv 5))))))
      (pss_one (ps_ret (pe_cmpR op_eq (pv 3) pe_int (nomark _)))))), ?_⟩
    refine ⟨_, rfl, a, _, rfl, ha, rfl, _, _, rfl, _, _, rfl, rfl, ?_⟩
    refine while_by (fun σ H' => ∃ (here : Int) (o1 o2 o3 : Option V), σ = [some (.ref a), some (.ref tb), some (.ref l), some (.int here), o1, o2, o3] ∧ H' = H ∧ 0 ≤ here ∧ here < rs.length + 2 ∧ (vals bs rs).getD here.toNat false = (vals bs rs).getD root.toNat false)
      (fun σ _ => natAt σ 3) ⟨root, none, none, none, rfl, rfl, r0, r1, rfl⟩ ?_ ?_
    · rintro σ H' ⟨here, o1, o2, o3, rfl, rfl, h0, h2, hv⟩
      refine ⟨_, rfl, _, _, rfl, rfl, _, rfl, ?_⟩
      refine ite2 (fun h1 => ?_) (fun h1 => ?_)
      · have h1 := of_decide_eq_true h1
        obtain ⟨r, hr', ok⟩ := row_here g h1 h2
        obtain ⟨v, hvx, t, rfl, ht⟩ := paired_get hx hr'
        refine ⟨_, rfl, _, rfl, _, _, rfl, rfl, l, xs, _, _, rfl, rfl, hl, at_tri (by omega) hvx, ?_⟩
        refine ⟨t, _, rfl, SqT.of' ht, rfl, _, _, rfl, _, _, rfl, _, _, rfl, rfl, ?_⟩
        have v0 := ok.v0
        have vm := ok.vm
        have lb : r.1.toNat < bs.length := by omega
        have hbit : (bitV bs)[r.1.toNat]? = some (.int (bs.getD r.1.toNat 0)) := by
          unfold bitV
          rw [List.getElem?_map, List.getElem?_eq_getElem lb, getD_at _ _ lb]
          rfl
        refine ⟨_, rfl, _, rfl, tb, _, _, _, rfl, rfl, SqT.of' hb, at_tri v0 hbit, _, rfl, ?_⟩
        have b01 : bs.getD r.1.toNat 0 = 0 ∨ bs.getD r.1.toNat 0 = 1 := by
          rw [getD_at _ _ lb]
          exact h01 _ (List.getElem_mem lb)
        have hrow := vals_row (bs := bs) g hr'
        have e2 : (here - 2).toNat + 2 = here.toNat := by omega
        rw [e2] at hrow
        have lo1 := ok.lo.1
        have lo2 := ok.lo.2.1
        have hi1 := ok.hi.1
        have hi2 := ok.hi.2.1
        rcases b01 with e | e
        · rw [e]
          have es : sel bs r = r.2.1 := by
            unfold sel
            rw [if_neg (by rw [e]; decide)]
          rw [es] at hrow
          refine ⟨_, rfl, ⟨r.2.1, _, _, _, rfl, rfl, lo1, by omega, by rw [← hrow]; exact hv⟩, ?_⟩
          show r.2.1.toNat < here.toNat
          omega
        · rw [e]
          have es : sel bs r = r.2.2 := by
            unfold sel
            rw [if_pos e]
          rw [es] at hrow
          refine ⟨_, rfl, ⟨r.2.2, _, _, _, rfl, rfl, hi1, by omega, by rw [← hrow]; exact hv⟩, ?_⟩
          show r.2.2.toNat < here.toNat
          omega
      · refine ⟨_, rfl, rfl, ?_⟩
        rw [end_here (bs := bs) (rs := rs) h0 (fun z => h1 (decide_eq_true z)), hv]
        exact k
    · rintro σ H Q Q' hq ⟨v, hv, i, j, e1, e2, c, e3, q⟩
      exact ⟨v, hv, i, j, e1, e2, c, e3, hq _ _ q⟩
end
end Q43



namespace Q43
open PySem L2 G M43
open C8 (Cal Met Mak pe_c pe_mk pe_mt pe_mt0 pe_gc pss_cut tCut)
section
variable {P : Program} {w : World} {K : PySem.W.Frag} {mg : Str → Option Value} {base : Heap}
/-! ### _law_followed -/
def spFoll (K : PySem.W.Frag) : Sp := fun vs H Q _ => ∃ (l : Addr) (b : V) (xs : List V) (rs : List Tri) (root : Int) (bs : List Int) (m : Int), vs = [.ref l, .int root, b] ∧ SqL K H l xs ∧ Rows H xs rs ∧ TupL H b (bitV bs) ∧ Good m rs ∧ m ≤ bs.length ∧ (∀ x ∈ bs, x = 0 ∨ x = 1) ∧
  0 ≤ root ∧ root < rs.length + 2 ∧ Q (.bl ((vals bs rs).getD root.toNat false)) H
theorem ok_foll {f : Addr} {fd : FuncData} (F : Fun K "_law_followed" "_law_followed" s__law_followed f fd) (T : Txt K mg) : FnOk P w K mg base CX0 1 f fd ["rows", "root", "bits"] (spFoll K) := by
  refine F.ok sc__law_followed (fun vs H Q E h => ?_) (fun cdv A outer s H vs Q E hr h => ?_)
  · obtain ⟨v, d, _, _, _, _, _, rfl, _⟩ := h
    rfl
  · obtain ⟨l, b, xs, rs, root, bs, m, rfl, hl, hx, ⟨tb, rfl, hb⟩, g, hm, h01, r0, r1, k⟩ := h
    refine ⟨_, (pss_cons (ps_set (i := 3) sc__law_followed.nd rfl (Or.inl rfl) (pv 1))
      (pss_cons (ps_while PassesOwn.never (pt_cmpR op_gt (pv 3) pe_int (nomark _)) (pss_cons (ps_asg (pe_ix ix_list (pv 0) (pe_op op_sub (pv 3) pe_int) (fun _ _ => rfl)) (pg_tup rfl (pgs_cons (pg_name (i := 4) sc__law_followed.nd rfl (Or.inl rfl)) (pgs_cons (pg_name (i := 5) sc__law_followed.nd rfl (Or.inl rfl)) (pgs_cons (pg_name (i := 6) sc__law_followed.nd rfl (Or.inl rfl)) pgs_nil)))))
      (pss_one (ps_set (i := 3) sc__law_followed.nd rfl (Or.inl rfl) (pe_ifExp (pt_cmpR op_eq (pe_ix ix_tup (pv 2) (pv 4) (fun _ _ => rfl)) pe_int (nomark _)) (pv 6) (pv 5))))))
      (pss_one (ps_ret (pe_cmpR op_eq (pv 3) pe_int (nomark _)))))), ?_⟩
    refine ⟨_, rfl, while_by (fun σ H' => ∃ (here : Int) (o1 o2 o3 : Option V), σ = [some (.ref l), some (.int root), some (.ref tb), some (.int here), o1, o2, o3] ∧ H' = H ∧ 0 ≤ here ∧ here < rs.length + 2 ∧ (vals bs rs).getD here.toNat false = (vals bs rs).getD root.toNat false)
      (fun σ _ => natAt σ 3) ⟨root, none, none, none, rfl, rfl, r0, r1, rfl⟩ ?_ ?_⟩
    · rintro σ H' ⟨here, o1, o2, o3, rfl, rfl, h0, h2, hv⟩
      refine ⟨_, rfl, _, _, rfl, rfl, _, rfl, ?_⟩
      refine ite2 (fun h1 => ?_) (fun h1 => ?_)
      · have h1 := of_decide_eq_true h1
        obtain ⟨r, hr', ok⟩ := row_here g h1 h2
        obtain ⟨v, hvx, t, rfl, ht⟩ := paired_get hx hr'
        refine ⟨_, rfl, _, rfl, _, _, rfl, rfl, l, xs, _, _, rfl, rfl, hl, at_tri (by omega) hvx, ?_⟩
        refine ⟨t, _, rfl, SqT.of' ht, rfl, _, _, rfl, _, _, rfl, _, _, rfl, rfl, ?_⟩
        have v0 := ok.v0
        have vm := ok.vm
        have lb : r.1.toNat < bs.length := by omega
        have hbit : (bitV bs)[r.1.toNat]? = some (.int (bs.getD r.1.toNat 0)) := by
          unfold bitV
          rw [List.getElem?_map, List.getElem?_eq_getElem lb, getD_at _ _ lb]
          rfl
        refine ⟨_, rfl, _, rfl, tb, _, _, _, rfl, rfl, SqT.of' hb, at_tri v0 hbit, rfl, _, rfl, ?_⟩
        have b01 : bs.getD r.1.toNat 0 = 0 ∨ bs.getD r.1.toNat 0 = 1 := by
          rw [getD_at _ _ lb]
          exact h01 _ (List.getElem_mem lb)
        have hrow := vals_row (bs := bs) g hr'
        have e2 : (here - 2).toNat + 2 = here.toNat := by omega
        rw [e2] at hrow
        have lo1 := ok.lo.1
        have lo2 := ok.lo.2.1
        have hi1 := ok.hi.1
        have hi2 := ok.hi.2.1
        rcases b01 with e | e
        · rw [e]
          have es : sel bs r = r.2.1 := by
            unfold sel
            rw [if_neg (by rw [e]; decide)]
          rw [es] at hrow
          refine ⟨_, rfl, ⟨r.2.1, _, _, _, rfl, rfl, lo1, by omega, by rw [← hrow]; exact hv⟩, ?_⟩
          show r.2.1.toNat < here.toNat
          omega
        · rw [e]
          have es : sel bs r = r.2.2 := by
            unfold sel
            rw [if_pos e]
          rw [es] at hrow
          refine ⟨_, rfl, ⟨r.2.2, _, _, _, rfl, rfl, hi1, by omega, by rw [← hrow]; exact hv⟩, ?_⟩
          show r.2.2.toNat < here.toNat
          omega
      · refine ⟨_, rfl, rfl, ?_⟩
        rw [end_here (bs := bs) (rs := rs) h0 (fun z => h1 (decide_eq_true z)), hv]
        exact k
    · rintro σ H Q Q' hq ⟨v, hv, i, j, e1, e2, c, e3, q⟩
      exact ⟨v, hv, i, j, e1, e2, c, e3, hq _ _ q⟩

/-! ### count_held -/
def spCount (K : PySem.W.Frag) : Sp := fun vs H Q _ => ∃ (d : V) (rs : List Tri) (root : Int) (m : Nat), vs = [d, .int m] ∧ Diag K H d rs root ∧ Good m rs ∧ m ≤ 60 ∧ rs.length ≤ 10000 ∧ 0 ≤ root ∧ root < rs.length + 2 ∧
  ∀ H', Same H H' → Q (.int ((((allB m).filter fun bs => (vals bs rs).getD root.toNat false).length : Nat))) H'
theorem lev_root {m : Nat} {rs : List Tri} (g : Good m rs) {root : Int} (h0 : 0 ≤ root) (h1 : root < rs.length + 2) : 0 ≤ (lev m rs).getD root.toNat 0 ∧ (lev m rs).getD root.toNat 0 ≤ m := by
  have hk : root.toNat < rs.length + 2 := by omega
  generalize root.toNat = k at hk
  match k, hk with
  | 0, _ => simp [lev]
  | 1, _ => simp [lev]
  | i + 2, hk =>
    have hi : i < rs.length := by omega
    have hr := List.getElem?_eq_getElem hi
    rw [lev_row _ hr]
    have ok := g i _ hr
    exact ⟨ok.v0, by have := ok.vm; omega⟩
theorem pow60 {m : Nat} (h : m ≤ 60) : (2 : Int) ^ m ≤ 2 ^ 60 := by
  have h1 : 2 ^ m ≤ 2 ^ 60 := Nat.pow_le_pow_right (by decide) h
  have h2 : ((2 ^ m : Nat) : Int) = 2 ^ m := by simp
  have h3 : ((2 ^ 60 : Nat) : Int) = 2 ^ 60 := by simp
  omega
theorem ok_count {f : Addr} {fd : FuncData} (F : Fun K "count_held" "count_held" s_count_held f fd) (T : Txt K mg) : FnOk P w K mg base CX0 1 f fd ["diagram", "many"] (spCount K) := by
  refine F.ok sc_count_held (fun vs H Q E h => ?_) (fun cdv A outer s H vs Q E hr h => ?_)
  · obtain ⟨v, d, _, _, rfl, _⟩ := h
    rfl
  · obtain ⟨d, rs, root, m, rfl, ⟨a, l, xs, rfl, ha, hl, hx⟩, g, hm, hn, r0, r1, k⟩ := h
    have hxl := hx.length
    refine ⟨_, (pss_cons (ps_asg (pv 0) (pg_tup rfl (pgs_cons (pg_name (i := 2) sc_count_held.nd rfl (Or.inl rfl)) (pgs_cons (pg_name (i := 3) sc_count_held.nd rfl (Or.inl rfl)) pgs_nil))))
      (pss_cons (ps_set (i := 4) sc_count_held.nd rfl (Or.inl rfl) (pe_lst (pa_cons (pv 1) (pa_cons (pv 1) pa_nil))))
      (pss_cons (ps_set (i := 5) sc_count_held.nd rfl (Or.inl rfl) (pe_lst (pa_cons pe_int (pa_cons pe_int pa_nil))))
      (pss_cons (ps_for PassesOwn.never rfl (pi_list (pv 2)) (pg_tup rfl (pgs_cons (pg_name (i := 6) sc_count_held.nd rfl (Or.inl rfl)) (pgs_cons (pg_name (i := 7) sc_count_held.nd rfl (Or.inl rfl)) (pgs_cons (pg_name (i := 8) sc_count_held.nd rfl (Or.inl rfl)) pgs_nil)))) (pss_cons (ps_set (i := 9) sc_count_held.nd rfl (Or.inl rfl) pe_int)
      (pss_cons (ps_for PassesOwn.never rfl (pi_tup (pe_tup (pa_cons (pv 7) (pa_cons (pv 8) pa_nil)))) (pg_name (i := 10) sc_count_held.nd rfl (Or.inl rfl)) (pss_one (ps_aug (i := 9) sc_count_held.nd rfl (Or.inl rfl) (pe_op op_shl (pe_ix ix_list (pv 5) (pv 10) (fun _ _ => rfl)) (pe_op op_sub (pe_op op_sub (pe_ix ix_list (pv 4) (pv 10) (fun _ _ => rfl)) (pv 6)) pe_int)) ip_add)))
      (pss_cons (ps_expr (pe_bm PySem.F.plainAttrs_list PySem.F.slot_list_append PySem.F.type_list_append mt_append (pv 4) (pa_cons (pv 6) pa_nil)))
      (pss_one (ps_expr (pe_bm PySem.F.plainAttrs_list PySem.F.slot_list_append PySem.F.type_list_append mt_append (pv 5) (pa_cons (pv 9) pa_nil))))))))
      (pss_one (ps_ret (pe_op op_shl (pe_ix ix_list (pv 5) (pv 3) (fun _ _ => rfl)) (pe_ix ix_list (pv 4) (pv 3) (fun _ _ => rfl))))))))), ?_⟩
    refine ⟨_, rfl, a, _, rfl, ha, rfl, _, _, rfl, _, _, rfl, rfl, ?_⟩
    refine ⟨_, rfl, _, rfl, (show 2 ≤ sizeLine by decide), fun p1 n1 => ⟨(show 2 ≤ sizeLine by decide), fun p2 n2 => ?_⟩⟩
    have s2 := (same_new (o := HO.lst [V.int m, V.int m]) n1).trans (same_new (o := HO.lst [V.int 0, V.int 1]) n2)
    have p12 : p2 ≠ p1 := (upd_none n2).1
    have q2 : H p2 = none := (upd_none n2).2
    refine ⟨_, rfl, l, rfl, ⟨_, s2.seq hl⟩, for_list (K := K) (a := l) (xs := xs) (fun i σ H' => ∃ (o5 o6 o7 o8 o9 : Option V),
      σ = [some (.ref a), some (.int m), some (.ref l), some (.int root), some (.ref p1), some (.ref p2), o5, o6, o7, o8, o9] ∧ Same H H' ∧ H' p1 = some (.lst ((lev m (rs.take i)).map V.int)) ∧ H' p2 = some (.lst ((cnts (lev m rs) (rs.take i)).map V.int)))
      ⟨none, none, none, none, none, rfl, s2, by rw [upd_ne p12.symm, upd_same]; rfl, upd_same⟩ (fun i σ H' _ ⟨_, _, _, _, _, _, s, _⟩ => s.seq hl) ?_ ?_⟩
    · rintro i x σ H1 hi ⟨o5, o6, o7, o8, o9, rfl, s1, h1, h2⟩
      obtain ⟨r, hr', t, rfl, ht⟩ := paired_getv hx hi
      have il : i < rs.length := (List.getElem?_eq_some_iff.mp hr').1
      have ok := g i r hr'
      have tkl : (rs.take i).length = i := by rw [List.length_take]; omega
      have ll : (lev m (rs.take i)).length = i + 2 := by
        unfold lev
        rw [List.length_append, List.length_map, tkl]
        simp
        omega
      have cl : (cnts (lev m rs) (rs.take i)).length = i + 2 := by rw [cnts_len, tkl]
      refine ⟨t, _, rfl, SqT.of' (s1 _ _ ht), rfl, _, _, rfl, _, _, rfl, _, _, rfl, rfl, ?_⟩
      -- total = 0; for end in (low, high)
      refine ⟨_, rfl, _, rfl, (show 2 ≤ sizeLine by decide), fun p n => ⟨p, rfl, ⟨_, SqT.of' upd_same⟩, ?_⟩⟩
      have sp := same_new (o := HO.tup [V.int r.2.1, V.int r.2.2]) n
      refine for_tup (K := K) (a := p) (xs := [V.int r.2.1, V.int r.2.2]) (fun j σ H' => ∃ (tot : Int) (o : Option V),
        σ = [some (.ref a), some (.int m), some (.ref l), some (.int root), some (.ref p1), some (.ref p2), some (.int r.1), some (.int r.2.1), some (.int r.2.2), some (.int tot), o] ∧ Same H1 H' ∧ H' p = some (.tup [V.int r.2.1, V.int r.2.2]) ∧ tot = (([r.2.1, r.2.2].take j).map (cterm (lev m rs) (cnts (lev m rs) (rs.take i)) r.1)).sum)
        ⟨0, o9, rfl, sp, upd_same, rfl⟩ (fun j σ H' _ ⟨_, _, _, _, h, _⟩ => SqT.of' h) ?_ ?_
      · rintro j x σ H2 hj ⟨tot, o, rfl, s2, h3, ht2⟩
        have hj2 : j < 2 := (List.getElem?_eq_some_iff.mp hj).1
        obtain ⟨e, rfl, he, ek⟩ : ∃ e, x = V.int e ∧ EndP rs i e r.1 ∧ [r.2.1, r.2.2][j]? = some e := by
          match j, hj2, hj with
          | 0, _, hj => exact ⟨r.2.1, (Option.some.inj hj).symm, ok.lo, rfl⟩
          | 1, _, hj => exact ⟨r.2.2, (Option.some.inj hj).symm, ok.hi, rfl⟩
        have e0 := he.1
        have e1 := he.2.1
        have hge := lev_ge g hr' he
        have lv : (lev m (rs.take i)).getD e.toNat 0 = (lev m rs).getD e.toNat 0 := by
          conv => rhs; rw [← List.take_append_drop i rs]
          exact (lev_pre m (rs.take i) (rs.drop i) (k := e.toNat) (by rw [tkl]; omega)).symm
        have cv : (cnts (lev m rs) (rs.take i)).getD e.toNat 0 = (cnts (lev m rs) rs).getD e.toNat 0 := by
          generalize lev m rs = L
          conv => rhs; rw [← List.take_append_drop i rs]
          exact (cnts_pre L (rs.take i) (rs.drop i) (k := e.toNat) (by rw [tkl]; omega)).symm
        have cb := cnts_bound m g (k := e.toNat) (by omega)
        have p60 := pow60 hm
        refine ⟨_, rfl, _, rfl, _, rfl, p2, _, _, _, rfl, rfl, SqL.of (s2 _ _ h2), int_atI e0 (show e.toNat < _ by rw [cl]; omega), ?_⟩
        refine ⟨_, rfl, _, rfl, p1, _, _, _, rfl, rfl, SqL.of (s2 _ _ h1), int_atI e0 (show e.toNat < _ by rw [ll]; omega), ?_⟩
        refine ⟨_, rfl, _, _, rfl, rfl, _, _, rfl, rfl, _, _, rfl, rfl, ⟨?_, ?_, ?_⟩, _, _, rfl, rfl, ?_⟩
        · show 0 ≤ (lev m (rs.take i)).getD e.toNat 0 - r.1 - 1
          rw [lv]; omega
        · show (lev m (rs.take i)).getD e.toNat 0 - r.1 - 1 ≤ 1000000
          have := ok.v0
          rw [lv]; omega
        · show ((cnts (lev m rs) (rs.take i)).getD e.toNat 0).natAbs < 2 ^ 64
          rw [cv]; omega
        · refine ⟨_, _, rfl, s2, h3, ?_⟩
          rw [ht2, take_snoc ek, List.map_append, List.sum_append, List.map_singleton, List.sum_singleton]
          unfold cterm
          rw [lv]
      · rintro σ H2 ⟨tot, o, rfl, s2, h3, ht2⟩
        refine ⟨_, rfl, .inl ⟨rfl, _, SqL.of (s2 _ _ h1)⟩, _, rfl, _, _, _, rfl, rfl, s2 _ _ h1, small1000' (by rw [List.length_map, ll]; omega), ?_⟩
        have h4 : upd H2 p1 (.lst ((lev m (rs.take i)).map V.int ++ [.int r.1])) p2 = some (.lst ((cnts (lev m rs) (rs.take i)).map V.int)) := by
          rw [upd_ne p12]
          exact s2 _ _ h2
        refine ⟨_, rfl, .inl ⟨rfl, _, SqL.of h4⟩, _, rfl, _, _, _, rfl, rfl, h4, small1000' (by rw [List.length_map, cl]; omega), ?_⟩
        refine ⟨_, _, _, _, _, rfl, ?_, ?_, ?_⟩
        · exact same_mut (same_mut (s1.trans s2) n1) q2
        · rw [upd_ne p12.symm, upd_same, take_snoc hr']
          unfold lev
          rw [List.map_append, List.map_append, List.append_assoc, ← List.map_append, List.map_append (l₁ := rs.take i)]
          simp
        · rw [upd_same, take_snoc hr', cnts_snoc, List.map_append, ht2]
          simp
    · rintro σ H1 ⟨o5, o6, o7, o8, o9, rfl, s1, h1, h2⟩
      rw [hxl, List.take_of_length_le (Nat.le_refl _)] at h1 h2
      have ll : (lev m rs).length = rs.length + 2 := by
        unfold lev
        rw [List.length_append, List.length_map]
        simp
        omega
      have cl := cnts_len (lev m rs) rs
      have cb := cnts_bound m g (k := root.toNat) (by omega)
      have p60 := pow60 hm
      have cr := count_root m g r0 r1
      have lr : 0 ≤ (lev m rs).getD root.toNat 0 ∧ (lev m rs).getD root.toNat 0 ≤ m := lev_root g r0 r1
      refine ⟨_, rfl, _, rfl, p2, _, _, _, rfl, rfl, SqL.of h2, int_atI r0 (by rw [cl]; omega), ?_⟩
      refine ⟨_, rfl, _, rfl, p1, _, _, _, rfl, rfl, SqL.of h1, int_atI r0 (by rw [ll]; omega), ?_⟩
      refine ⟨_, _, rfl, rfl, ⟨lr.1, by omega, by omega⟩, ?_⟩
      show Q (V.int ((cnts (lev m rs) rs).getD root.toNat 0 * 2 ^ ((lev m rs).getD root.toNat 0).toNat)) H1
      rw [cr]
      exact k _ s1
end
end Q43



namespace Q43
open PySem L2 G M43
open C8 (Cal Met Mak pe_c pe_mk pe_mt pe_mt0 pe_gc pss_cut tCut)
section
variable {P : Program} {w : World} {K : PySem.W.Frag} {mg : Str → Option Value} {base : Heap}
/-! ### _law_tuples -/
def spTuples : Sp := fun vs H Q _ => ∃ m : Nat, vs = [.int m] ∧ m ≤ 12 ∧ ∀ (p : Addr) (H' : Hp) (xs : List V), H p = none → Same H H' → H' p = some (.lst xs) → BRows H' xs (allB m) → Q (.ref p) H'
theorem allB_length (n : Nat) : (allB n).length = 2 ^ n := by rw [allB_eq, allP_len]
theorem pow12 {i : Nat} (h : i ≤ 12) : 2 ^ i ≤ 4096 := Nat.pow_le_pow_right (n := 2) (by decide) h
theorem ok_tuples {f : Addr} {fd : FuncData} (F : Fun K "_law_tuples" "_law_tuples" s__law_tuples f fd) (T : Txt K mg) : FnOk P w K mg base CX0 1 f fd ["many"] spTuples := by
  refine F.ok sc__law_tuples (fun vs H Q E h => ?_) (fun cdv A outer s H vs Q E hr h => ?_)
  · obtain ⟨m, rfl, _⟩ := h
    rfl
  · obtain ⟨m, rfl, hm, k⟩ := h
    refine ⟨_, (pss_cons (ps_set (i := 1) sc__law_tuples.nd rfl (Or.inl rfl) (pe_lst (pa_cons (pe_tup pa_nil) pa_nil)))
      (pss_cons (ps_for PassesOwn.never rfl (pi_range1 (by rfl) T.b_range (pa_cons (pv 0) pa_nil)) (pg_name (i := 2) sc__law_tuples.nd rfl (Or.inl rfl)) (pss_cons (ps_set (i := 3) sc__law_tuples.nd rfl (Or.inl rfl) (pe_lst pa_nil))
      (pss_cons (ps_for PassesOwn.never rfl (pi_list (pv 1)) (pg_name (i := 4) sc__law_tuples.nd rfl (Or.inl rfl)) (pss_one (ps_expr (pe_bm PySem.F.plainAttrs_list PySem.F.slot_list_extend PySem.F.type_list_extend mt_extend (pv 3) (pa_cons (pe_lst (pa_cons (pe_op op_catA (pv 4) (pe_tup (pa_cons pe_int pa_nil))) (pa_cons (pe_op op_catA (pv 4) (pe_tup (pa_cons pe_int pa_nil))) pa_nil))) pa_nil)))))
      (pss_one (ps_set (i := 1) sc__law_tuples.nd rfl (Or.inl rfl) (pv 3))))))
      (pss_one (ps_ret (pv 1))))), ?_⟩
    refine ⟨Nat.zero_le _, fun t0 n0 => ⟨(show 1 ≤ sizeLine by decide), fun p1 n1 => ?_⟩⟩
    have s0 := (same_new (o := HO.tup []) n0).trans (same_new (o := HO.lst [V.ref t0]) n1)
    have f1 := upd_none n1
    refine ⟨_, rfl, _, rfl, by omega, by omega, for_range (lo := 0) (n := (m : Int).toNat) (fun i σ H' => ∃ (p : Addr) (xs : List V) (o2 o3 o4 : Option V),
      σ = [some (.int m), some (.ref p), o2, o3, o4] ∧ Same H H' ∧ H p = none ∧ H' p = some (.lst xs) ∧ BRows H' xs (allB i))
      ⟨p1, _, none, none, none, rfl, s0, f1.2, upd_same, .cons ⟨t0, rfl, by rw [upd_ne f1.1.symm, upd_same]; rfl⟩ .nil⟩ ?_ ?_⟩
    · rintro i σ H1 hi ⟨p, xs, o2, o3, o4, rfl, s1, hp, h1, hx⟩
      have hi' : i < m := by omega
      have hxl := hx.length
      rw [allB_length] at hxl
      have pw := pow12 (i := i) (by omega)
      refine ⟨Nat.zero_le _, fun q nq => ?_⟩
      have sq := same_new (o := HO.lst []) nq
      have hqp : p ≠ q := ne_of_none h1 nq
      refine ⟨_, rfl, p, rfl, ⟨_, SqL.of (sq _ _ h1)⟩, for_list (K := K) (a := p) (xs := xs) (fun j σ H' => ∃ (ys : List V) (o : Option V),
        σ = [some (.int m), some (.ref p), some (.int (0 + (i : Int))), some (.ref q), o] ∧ Same H1 H' ∧ H' q = some (.lst ys) ∧ BRows H' ys (((allB i).take j).flatMap fun r => [r ++ [0], r ++ [1]]))
        ⟨[], o4, rfl, sq, upd_same, .nil⟩ (fun j σ H' _ ⟨_, _, _, s, _⟩ => SqL.of (s _ _ h1)) ?_ ?_⟩
      · rintro j x σ H2 hj ⟨ys, o, rfl, s2, hq, hy⟩
        obtain ⟨b, hb, t, rfl, ht⟩ := paired_getv hx hj
        have jl : j < 2 ^ i := by
          have := (List.getElem?_eq_some_iff.mp hb).1
          rw [allB_length] at this
          exact this
        have bl : b.length = i := (allP_bits (by rw [← allB_eq]; exact List.mem_of_getElem? hb)).1
        have yl : ys.length = 2 * j := by
          rw [hy.length, List.length_flatMap]
          have e : (fun a : List Int => ([a ++ [(0 : Int)], a ++ [1]] : List (List Int)).length) = fun _ => 2 := by funext a; rfl
          rw [e, List.map_const', List.sum_replicate_nat, List.length_take, allB_length]
          have : min j (2 ^ i) = j := by omega
          rw [this]
          omega
        have tb : TupL H2 (.ref t) (bitV b) := ⟨t, rfl, s2 _ _ ht⟩
        refine ⟨_, rfl, .inl ⟨rfl, _, SqL.of hq⟩, ?_⟩
        refine ⟨_, rfl, (show 1 ≤ sizeLine by decide), fun t1 n1 => ?_⟩
        have sa := same_new (o := HO.tup [V.int 0]) n1
        refine catA_new (tb.same sa) ⟨t1, rfl, upd_same⟩ (size_of (by unfold bitV; rw [List.length_map, List.length_singleton]; omega)) fun z0 G0 e0 u0 => ?_
        have sA := sa.trans e0
        refine ⟨_, rfl, (show 1 ≤ sizeLine by decide), fun t2 n2 => ?_⟩
        have sb := same_new (o := HO.tup [V.int 1]) n2
        refine catA_new ((tb.same sA).same sb) ⟨t2, rfl, upd_same⟩ (size_of (by unfold bitV; rw [List.length_map, List.length_singleton]; omega)) fun z1 G1 e1 u1 => ?_
        have sB := sb.trans e1
        refine ⟨(show 2 ≤ sizeLine by decide), fun l nl => ?_⟩
        have sC := (sA.trans sB).trans (same_new (o := HO.lst [z0, z1]) nl)
        refine ⟨q, l, ys, [z0, z1], rfl, rfl, sC _ _ hq, upd_same, size_of (by rw [yl, List.length_cons, List.length_singleton]; omega), ?_⟩
        have sD : ∀ b ws, H2 b = some (.tup ws) → (upd (upd G1 l (.lst [z0, z1])) q (.lst (ys ++ [z0, z1]))) b = some (.tup ws) := fun b ws e => by
          rw [upd_ne (by rintro rfl; rw [hq] at e; cases e)]
          exact sC _ _ e
        have sE : ∀ b ws, G1 b = some (.tup ws) → (upd (upd G1 l (.lst [z0, z1])) q (.lst (ys ++ [z0, z1]))) b = some (.tup ws) := fun b ws e => by
          rw [upd_ne (by rintro rfl; rw [(sA.trans sB) _ _ hq] at e; cases e)]
          exact same_new nl _ _ e
        refine ⟨_, _, rfl, same_mut (s2.trans sC) nq, upd_same, ?_⟩
        rw [take_snoc hb, List.flatMap_append]
        refine paired_app (Paired.mapP hy fun _ _ z => z.but sD) ?_
        show BRows _ [z0, z1] [b ++ [0], b ++ [1]]
        have c0 : bitV b ++ [V.int 0] = bitV (b ++ [0]) := by unfold bitV; rw [List.map_append]; rfl
        have c1 : bitV b ++ [V.int 1] = bitV (b ++ [1]) := by unfold bitV; rw [List.map_append]; rfl
        rw [c0] at u0
        rw [c1] at u1
        exact .cons ((u0.same sB).but sE) (.cons (u1.but sE) .nil)
      · rintro σ H2 ⟨ys, o, rfl, s2, hq, hy⟩
        refine ⟨_, rfl, q, ys, _, _, _, rfl, s1.trans s2, s1.free nq, hq, ?_⟩
        rw [List.take_of_length_le (by rw [allB_length, hxl]; exact Nat.le_refl _)] at hy
        exact hy
    · rintro σ H1 ⟨p, xs, o2, o3, o4, rfl, s1, hp, h1, hx⟩
      exact ⟨_, rfl, k p H1 xs hp s1 h1 hx⟩

/-! ### rows: rows_good, the law's own look -/
def asTri : PyData → Option Tri
  | .tuple [.int a, .int b, .int c] => some (a, b, c)
  | _ => none
theorem asTri_of {d : PyData} {r : Tri} (h : asTri d = some r) : d = triD r := by
  unfold asTri at h
  split at h
  · cases h
    rfl
  · cases h
theorem asTri_tri (r : Tri) : asTri (triD r) = some r := rfl
def rowsG (m : Int) : List Tri → List PyData → Bool
  | _, [] => true
  | rs, d :: ds => match asTri d with
    | none => false
    | some r => good1 m rs r && rowsG m (rs ++ [r]) ds
theorem rowsG_tri (m : Int) : ∀ (rest seen : List Tri), rowsG m seen (rest.map triD) = goodR m seen rest
  | [], _ => rfl
  | r :: rest, seen => by
    show (good1 m seen r && rowsG m (seen ++ [r]) (rest.map triD)) = (good1 m seen r && goodR m (seen ++ [r]) rest)
    rw [rowsG_tri m rest]
def keyT (r : Tri) : List Key := [.inl r.1, .inl r.2.1, .inl r.2.2]
theorem keyT_inj {r q : Tri} (h : keyT r = keyT q) : r = q := by
  obtain ⟨a, b, c⟩ := r
  obtain ⟨a', b', c'⟩ := q
  have h := h
  simp only [keyT, List.cons.injEq, Sum.inl.injEq, and_true] at h
  obtain ⟨rfl, rfl, rfl⟩ := h
  rfl
def kvT (rs : List Tri) : List (List Key × V) := rs.map fun r => (keyT r, V.bl true)
theorem valV_kvT (rs : List Tri) (r : Tri) : valV (kvT rs) (keyT r) = if r ∈ rs then some (V.bl true) else none := by
  induction rs with
  | nil => rfl
  | cons q rs ih =>
    show valV ((keyT q, V.bl true) :: kvT rs) (keyT r) = _
    by_cases e : q = r
    · subst e
      rw [valV_pos rfl, if_pos (List.mem_cons_self ..)]
    · rw [valV_neg (fun z => e (keyT_inj z)), ih]
      by_cases h : r ∈ rs
      · rw [if_pos h, if_pos (List.mem_cons_of_mem _ h)]
      · rw [if_neg h, if_neg (fun z => (List.mem_cons.mp z).elim (fun z => e z.symm) h)]
/-- rows as they come: data, and what is a row is a tracked tuple -/
def DRows (K : PySem.W.Frag) (H : Hp) (xs : List V) (ds : List PyData) : Prop := DpAll K H xs ds ∧ ∀ (i : Nat) (v : V) (r : Tri), xs[i]? = some v → ds[i]? = some (triD r) → TupL H v (triV r)
theorem DRows.same {H H' : Hp} {xs : List V} {ds : List PyData} (s : Same H H') (h : DRows K H xs ds) : DRows K H' xs ds := ⟨dps_same s h.1, fun i v r a b => (h.2 i v r a b).same s⟩
theorem DRows.of {H : Hp} : ∀ {xs : List V} {rs : List Tri}, Rows H xs rs → DRows K H xs (rs.map triD)
  | _, _, .nil => ⟨.nil, fun i v r a b => by simp at a⟩
  | _, _, .cons (a := v) (b := r) h t => by
    obtain ⟨ih1, ih2⟩ := DRows.of t
    obtain ⟨a, rfl, ha⟩ := id h
    refine ⟨.cons (.tup (SqT.of' ha) (.cons (.int _) (.cons (.int _) (.cons (.int _) .nil)))) ih1, fun i v q hx hd => ?_⟩
    cases i with
    | zero =>
      simp only [List.getElem?_cons_zero, Option.some.injEq, List.map_cons] at hx hd
      subst hx
      have e := asTri_tri q
      rw [← hd, asTri_tri] at e
      cases e
      exact h
    | succ i => exact ih2 i v q (by simpa using hx) (by simpa using hd)
def spRows (K : PySem.W.Frag) : Sp := fun vs H Q _ => ∃ (l : Addr) (m : Int) (xs : List V) (ds : List PyData), vs = [.ref l, .int m] ∧ SqL K H l xs ∧ DRows K H xs ds ∧ ds.length ≤ 10000 ∧ ∀ H', Same H H' → Q (.bl (rowsG m [] ds)) H'
theorem ends_ok {m : Int} {rs : List Tri} {r : Tri} (h : ∀ e ∈ [r.2.1, r.2.2], endOk rs e r.1 = true) (hn : r ∉ rs) (h0 : 0 ≤ r.1) (h1 : r.1 < m) (hd : r.2.1 ≠ r.2.2) : good1 m rs r = true := by
  unfold good1
  rw [h _ (by simp), h _ (by simp)]
  simp [hn, h0, h1, hd]
theorem ends_bad {m : Int} {rs : List Tri} {r : Tri} {e : Int} (he : e ∈ [r.2.1, r.2.2]) (h : endOk rs e r.1 = false) : good1 m rs r = false := by
  unfold good1
  simp only [List.mem_cons, List.not_mem_nil, or_false] at he
  rcases he with rfl | rfl
  · rw [h]
    simp
  · rw [h]
    simp
end
end Q43



namespace Q43
open PySem L2 G M43
open C8 (Cal Met Mak pe_c pe_mk pe_mt pe_mt0 pe_gc pss_cut tCut)
section
variable {P : Program} {w : World} {K : PySem.W.Frag} {mg : Str → Option Value} {base : Heap}
theorem num_step {G : Hp} {D : Addr} {acc : List V} {v : V} {d : PyData} {Q : VK} {E : XK} (hD : G D = none) (hd : Dp K G v d) (h : Q (.bl (isNum d)) (upd G D (.lst acc))) : fr (spNum K) [v] (upd G D (.lst acc)) Q E :=
  fr_one hD ⟨v, d, rfl, hd, fun _ => h⟩ fun Q1 Q2 q ⟨v, d, e, h1, h2⟩ => ⟨v, d, e, h1, q _ _ h2⟩
theorem nums_of {G : Hp} : ∀ {es : List PyData} {ys : List V}, DpAll K G ys (es.map fun e => PyData.bool (isNum e)) → ys = (es.map isNum).map V.bl
  | [], _, .nil => rfl
  | e :: es, _, .cons h t => by
    cases dp_bl h
    rw [nums_of t]
    rfl
theorem three {es : List PyData} (hl : es.length = 3) (ha : (es.map isNum).all id = true) : ∃ r : Tri, PyData.tuple es = triD r := by
  match es, hl with
  | [x, y, z], _ =>
    simp only [List.map_cons, List.map_nil, List.all_cons, List.all_nil, id_eq, Bool.and_true, Bool.and_eq_true] at ha
    obtain ⟨h1, h2, h3⟩ := ha
    cases x <;> simp [isNum] at h1
    cases y <;> simp [isNum] at h2
    cases z <;> simp [isNum] at h3
    exact ⟨(_, _, _), rfl⟩
theorem endOk_true {rs : List Tri} {e v : Int} (h0 : 0 ≤ e) (h1 : e < (rs.length : Int) + 2) (h2 : ∀ q, 1 < e → rs[(e - 2).toNat]? = some q → v < q.1) : endOk rs e v = true := by
  rw [endOk_iff]
  refine ⟨h0, h1, fun he => ?_⟩
  have hl : (e - 2).toNat < rs.length := by omega
  exact ⟨_, List.getElem?_eq_getElem hl, h2 _ he (List.getElem?_eq_getElem hl)⟩
theorem endOk_false {rs : List Tri} {e v : Int} (h : ¬ (0 ≤ e ∧ e < (rs.length : Int) + 2) ∨ (1 < e ∧ ∃ q, rs[(e - 2).toNat]? = some q ∧ q.1 ≤ v)) : endOk rs e v = false := by
  cases hb : endOk rs e v with
  | false => rfl
  | true =>
    obtain ⟨h0, h1, h2⟩ := endOk_iff.mp hb
    rcases h with h | ⟨h3, q, hq, hv⟩
    · exact absurd ⟨h0, h1⟩ h
    · obtain ⟨q', hq', hv'⟩ := h2 h3
      rw [hq] at hq'
      cases hq'
      omega
theorem ok_rows {f : Addr} {fd : FuncData} (F : Fun K "rows_good" "rows_good" s_rows_good f fd) (T : Txt K mg) (c_is_number : Cal P w K mg base 1 "is_number" (fr (spNum K)) []) : FnOk P w K mg base CX0 2 f fd ["rows", "many"] (spRows K) := by
  refine F.ok sc_rows_good (fun vs H Q E h => ?_) (fun cdv A outer s H vs Q E hr h => ?_)
  · obtain ⟨_, _, _, _, rfl, _⟩ := h
    rfl
  · obtain ⟨l, m, xs, ds, rfl, hl, hx, hn, k⟩ := h
    have hxl := dps_len hx.1
    have hu := hu_of hr
    refine ⟨_, (pss_cons (ps_set (i := 2) sc_rows_good.nd rfl (Or.inl rfl) pe_dnewT)
      (pss_cons (ps_for PassesOwn.never rfl (pi_enum (by rfl) T.b_enumerate (pa_cons (pv 0) pa_nil)) (pg_tup rfl (pgs_cons (pg_name (i := 3) sc_rows_good.nd rfl (Or.inl rfl)) (pgs_cons (pg_name (i := 4) sc_rows_good.nd rfl (Or.inl rfl)) pgs_nil))) (pss_cons (ps_if (PW.pt (pw_or (pt_not (pt_val (pe_callB call_isi (by rfl) T.b_isinstance boot_isinstance' (pa_cons (pv 4) (pa_cons (pe_bltn (v := .ty "tuple") (by rfl) T.b_tuple boot_tuple' rfl) pa_nil))))) (pw_or (pt_cmpR op_ne (pe_callB call_len_seq (by rfl) T.b_len boot_len' (pa_cons (pv 4) pa_nil)) pe_int (nomark _)) (pw_or (pt_not (pt_val (pe_callB (cr_all rfl) (by rfl) T.b_all boot_all' (pa_cons (pe_lc (own := [("entry", 9)]) rfl sc_rows_good.nd (pi_tup (pv 4)) (blkOk_by (own := [("entry", 9)]) (N := ["rows", "many", "seen", "at", "row", "variable", "low", "high", "end", "entry"]) (sc := defScope s_rows_good) (by decide +kernel)) (fun _ _ _ _ _ => (pg_name (i := 9) sc_rows_good.nd rfl (Or.inl rfl))) (fun _ _ _ _ _ => pts_nil) (fun _ _ _ _ _ => (pe_c c_is_number hr (by omega) rfl (pa_cons (pv 9) pa_nil)))) pa_nil)))) (pw_or1 (pt_cmp (pc_din hu (pv 4) (pv 2)))))))) (pss_one (ps_ret pe_bl)) pss_nil)
      (pss_cons (ps_dput hu (pv 2) (pv 4) pe_bl rfl)
      (pss_cons (ps_asg (pv 4) (pg_tup rfl (pgs_cons (pg_name (i := 5) sc_rows_good.nd rfl (Or.inl rfl)) (pgs_cons (pg_name (i := 6) sc_rows_good.nd rfl (Or.inl rfl)) (pgs_cons (pg_name (i := 7) sc_rows_good.nd rfl (Or.inl rfl)) pgs_nil)))))
      (pss_cons (ps_if (PW.pt (pw_or (pt_not (pt_chain op_le op_lt pe_int (pv 5) (pv 1))) (pw_or1 (pt_cmpR op_eq (pv 6) (pv 7) (nomark _))))) (pss_one (ps_ret pe_bl)) pss_nil)
      (pss_one (ps_for PassesOwn.never rfl (pi_tup (pe_tup (pa_cons (pv 6) (pa_cons (pv 7) pa_nil)))) (pg_name (i := 8) sc_rows_good.nd rfl (Or.inl rfl)) (pss_one (ps_if (PW.pt (pw_or (pt_not (pt_chain op_le op_lt pe_int (pv 8) (pe_op op_add (pv 3) pe_int))) (pw_or1 (PW.pt (pw_and (pt_cmpR op_gt (pv 8) pe_int (nomark _)) (pw_and1 (pt_cmpR op_le (pe_ix ix_tup (pe_ix ix_list (pv 0) (pe_op op_sub (pv 8) pe_int) (fun _ _ => rfl)) pe_int (fun _ _ => rfl)) (pv 5) (nomark _)))))))) (pss_one (ps_ret pe_bl)) pss_nil)))))))))
      (pss_one (ps_ret pe_bl)))), ?_⟩
    intro sn nsn
    refine ⟨_, rfl, l, xs, rfl, (same_new nsn).seq hl, ⟨fun i n σ H' => n = xs.length - i ∧ i ≤ xs.length ∧ ∃ (rs : List Tri) (o3 o4 o5 o6 o7 o8 o9 : Option V),
      σ = [some (.ref l), some (.int m), some (.ref sn), o3, o4, o5, o6, o7, o8, o9] ∧ Same H H' ∧ H' sn = some (.dT (kvT rs)) ∧ ds.take i = rs.map triD ∧ rowsG m [] ds = rowsG m rs (ds.drop i), ⟨_, rfl, Nat.zero_le _, [], none, none, none, none, none, none, none, rfl, same_new nsn, upd_same, rfl, rfl⟩, ?_⟩⟩
    rintro i n σ H1 ⟨rfl, hi, rs, o3, o4, o5, o6, o7, o8, o9, rfl, s1, h1, htk, hG⟩
    by_cases hlt : i < xs.length
    · refine .inr ⟨⟨xs, xs[i], s1.seq hl, List.getElem?_eq_getElem hlt⟩, fun σ H' => ∃ (rs : List Tri) (o3 o4 o5 o6 o7 o8 o9 : Option V),
        σ = [some (.ref l), some (.int m), some (.ref sn), o3, o4, o5, o6, o7, o8, o9] ∧ Same H H' ∧ H' sn = some (.dT (kvT rs)) ∧ ds.take (i + 1) = rs.map triD ∧ rowsG m [] ds = rowsG m rs (ds.drop (i + 1)), fun σ' H' h => ⟨_, by omega, rfl, hlt, h⟩, ?_⟩
      rintro x H2 ⟨tt, v, rfl, ntt, rfl, hv⟩
      have hvi := hv xs (s1.seq hl)
      obtain ⟨d, hdi, hvd⟩ := dps_getv hx.1 hvi
      have il : i < ds.length := by omega
      have hdrop : ds.drop i = d :: ds.drop (i + 1) := by
        rw [List.drop_eq_getElem_cons il]
        congr 1
        rw [List.getElem?_eq_getElem il] at hdi
        exact Option.some.inj hdi
      rw [hdrop] at hG
      have sT := same_new (o := HO.tup [V.int (i : Nat), v]) ntt
      have s2 := s1.trans sT
      have rl : rs.length = i := by
        have := congrArg List.length htk
        rw [List.length_take, List.length_map] at this
        omega
      refine ⟨tt, _, rfl, SqT.of' upd_same, rfl, _, _, rfl, _, _, rfl, rfl, ?_⟩
      have hvd2 := dp_same s2 hvd
      have bad : asTri d = none → ∀ H', Same H H' → Q (.bl false) H' := fun e H' s' => by
        have := k H' s'
        rw [hG] at this
        unfold rowsG at this
        rw [e] at this
        exact this
      refine ⟨_, rfl, _, _, _, _, _, rfl, .ty _, dp_ty hvd2, kitD K _ _ (by decide), _, rfl, ?_⟩
      cases ht : isD "tuple" d with
      | false =>
        refine iteT (iteT (bad ?_ _ s2))
        cases d <;> first | rfl | (exact absurd ht (by simp [isD, isT, tyD]))
      | true =>
        obtain ⟨es, rfl⟩ : ∃ es, d = .tuple es := by
          cases d <;> first | exact ⟨_, rfl⟩ | (exact absurd ht (by simp [isD, isT, tyD]))
        obtain ⟨a, ys, rfl, ha, hys⟩ := dp_tup hvd2
        refine iteF ?_
        refine ⟨_, rfl, a, _, rfl, .inr ha, rfl, _, rfl, ?_⟩
        rw [dps_len hys]
        by_cases h3 : es.length = 3
        · have e3 : (!decide (V.int ((es.length : Nat) : Int) = V.int 3)) = false := by rw [h3]; rfl
          rw [e3]
          refine iteF ?_
          refine ⟨_, rfl, a, rfl, ⟨_, ha⟩, fun D hD => lc_dataT (K := K) (a := a) (xs := ys) (ds := es) (fun _ => true) (fun e => .bool (isNum e)) ha hys hD (by omega) ?_ ?_⟩
          · intro v' d' G acc R dm hv' sG hG' hacc _ hk
            refine ⟨rfl, _, rfl, ?_⟩
            refine num_step hG' hv' ⟨acc, upd_same, hacc, ?_⟩
            rw [upd_app]
            exact hk rfl G _ (Same.refl _) hG' (.bl _)
          · intro G zs sG hG' hzs
            have hF : es.filter (fun _ => true) = es := List.filter_eq_self.mpr fun _ _ => rfl
            rw [hF] at hzs
            have e := nums_of hzs
            subst e
            have s3 : Same H (upd G D (.lst ((es.map isNum).map V.bl))) := (s2.trans sG).trans (same_new hG')
            refine ⟨D, _, rfl, SqL.of upd_same, _, rfl, ?_⟩
            cases hall : (es.map isNum).all id with
            | false =>
              refine iteT (iteT (bad ?_ _ s3))
              cases hb : asTri (.tuple es) with
              | none => rfl
              | some r =>
                have := asTri_of hb
                injection this with this
                rw [this] at hall
                exact absurd hall (by simp [isNum])
            | true =>
              refine iteF ?_
              obtain ⟨r, er⟩ := three h3 hall
              rw [er] at hG hdi
              have hG : rowsG m [] ds = (good1 m rs r && rowsG m (rs ++ [r]) (ds.drop (i + 1))) := hG
              obtain ⟨t, et, htt⟩ := hx.2 i _ r hvi hdi
              cases et
              have fin : good1 m rs r = false → ∀ H', Same H H' → Q (.bl false) H' := fun e H' s' => by
                have := k H' s'
                rw [hG, e] at this
                exact this
              have hsn : (upd G D (.lst ((es.map isNum).map V.bl))) sn = some (.dT (kvT rs)) := ((sT.trans sG).trans (same_new hG')) _ _ h1
              refine ⟨_, rfl, _, rfl, sn, _, rfl, DGet.t (k := keyT r) hsn (s3 _ _ htt), _, rfl, ?_⟩
              rw [valV_kvT]
              by_cases hm : r ∈ rs
              · rw [if_pos hm]
                exact iteT (fin (by unfold good1; simp [hm]) _ s3)
              · rw [if_neg hm]
                refine iteF ?_
                refine ⟨_, rfl, _, rfl, sn, _, rfl, DPut.t (k := keyT r) hsn (s3 _ _ htt) (small1000' (by unfold kvT; rw [List.length_map]; omega)), ?_⟩
                have hv0 : valV (kvT rs) (keyT r) = none := by rw [valV_kvT, if_neg hm]
                have hpk : putK (kvT rs) (keyT r) (V.bl true) = kvT (rs ++ [r]) := by
                  rw [putK_new _ hv0]
                  unfold kvT
                  rw [List.map_append]
                  rfl
                rw [hpk]
                have s4 : Same H (upd (upd G D (.lst ((es.map isNum).map V.bl))) sn (.dT (kvT (rs ++ [r])))) := same_mut s3 nsn
                refine ⟨_, rfl, a, _, rfl, SqT.of' (s4 _ _ htt), rfl, _, _, rfl, _, _, rfl, _, _, rfl, rfl, ?_⟩
                generalize hH4 : upd (upd G D (.lst ((es.map isNum).map V.bl))) sn (.dT (kvT (rs ++ [r]))) = H4 at s4
                have h4 : H4 sn = some (.dT (kvT (rs ++ [r]))) := by rw [← hH4, upd_same]
                -- if not 0 <= variable < many or low == high
                refine ⟨_, rfl, _, _, rfl, rfl, _, rfl, ?_⟩
                by_cases v0 : 0 ≤ r.1
                · rw [decide_eq_true v0]
                  refine iteT ⟨_, rfl, _, _, rfl, rfl, _, rfl, ?_⟩
                  by_cases v1 : r.1 < m
                  · rw [decide_eq_true v1]
                    refine iteF ⟨_, rfl, _, rfl, rfl, _, rfl, ?_⟩
                    by_cases lh : r.2.1 = r.2.2
                    · rw [lh, decide_eq_true rfl]
                      exact iteT (fin (by unfold good1; simp [lh]) _ s4)
                    · rw [decide_eq_false (fun z => lh (V.int.inj z))]
                      refine iteF ⟨_, rfl, _, rfl, (show 2 ≤ sizeLine by decide), fun p np => ⟨p, rfl, ⟨_, SqT.of' upd_same⟩, ?_⟩⟩
                      have s5 := s4.trans (same_new (o := HO.tup [V.int r.2.1, V.int r.2.2]) np)
                      refine for_tup (K := K) (a := p) (xs := [V.int r.2.1, V.int r.2.2]) (fun j σ H' => ∃ (o : Option V),
                        σ = [some (.ref l), some (.int m), some (.ref sn), some (.int (i : Nat)), some (.ref a), some (.int r.1), some (.int r.2.1), some (.int r.2.2), o, o9] ∧ H' = upd H4 p (.tup [V.int r.2.1, V.int r.2.2]) ∧ ∀ e ∈ [r.2.1, r.2.2].take j, endOk rs e r.1 = true)
                        ⟨o8, rfl, rfl, fun _ h => by simp at h⟩ (fun j σ H' _ ⟨_, _, e, _⟩ => by rw [e]; exact SqT.of' upd_same) ?_ ?_
                      · rintro j x σ H5 hj ⟨o, rfl, rfl, hes⟩
                        have hj2 : j < 2 := (List.getElem?_eq_some_iff.mp hj).1
                        obtain ⟨e, rfl, ek⟩ : ∃ e, x = V.int e ∧ [r.2.1, r.2.2][j]? = some e := by
                          match j, hj2, hj with
                          | 0, _, hj => exact ⟨r.2.1, (Option.some.inj hj).symm, rfl⟩
                          | 1, _, hj => exact ⟨r.2.2, (Option.some.inj hj).symm, rfl⟩
                        have em : e ∈ [r.2.1, r.2.2] := List.mem_of_getElem? ek
                        have go : endOk rs e r.1 = true → ∀ e' ∈ [r.2.1, r.2.2].take (j + 1), endOk rs e' r.1 = true := fun h e' he' => by
                          rw [take_snoc ek] at he'
                          rcases List.mem_append.mp he' with q | q
                          · exact hes e' q
                          · rw [List.mem_singleton.mp q]
                            exact h
                        refine ⟨_, rfl, _, _, rfl, rfl, _, rfl, ?_⟩
                        by_cases e0 : 0 ≤ e
                        · rw [decide_eq_true e0]
                          refine iteT ⟨_, rfl, _, _, rfl, rfl, _, _, rfl, rfl, _, rfl, ?_⟩
                          by_cases e1 : e < (i : Int) + 2
                          · rw [decide_eq_true e1]
                            refine iteF ⟨_, rfl, _, _, rfl, rfl, _, rfl, ?_⟩
                            by_cases e2 : 1 < e
                            · rw [decide_eq_true e2]
                              have hl2 : (e - 2).toNat < rs.length := by omega
                              obtain ⟨q, hq⟩ : ∃ q, rs[(e - 2).toNat]? = some q := ⟨_, List.getElem?_eq_getElem hl2⟩
                              have hdq : ds[(e - 2).toNat]? = some (triD q) := by
                                have : (ds.take i)[(e - 2).toNat]? = some (triD q) := by rw [htk, List.getElem?_map, hq]; rfl
                                rw [List.getElem?_take_of_lt (by omega)] at this
                                exact this
                              obtain ⟨u, hu', _⟩ := dps_get hx.1 hdq
                              obtain ⟨tq, rfl, htq⟩ := hx.2 _ u q hu' hdq
                              refine iteT ⟨_, rfl, _, rfl, _, _, rfl, rfl, l, xs, _, _, rfl, rfl, s5.seq hl, at_tri (by omega) hu', tq, _, 0, .int q.1, rfl, rfl, SqT.of' (s5 _ _ htq), rfl, _, rfl, _, _, rfl, rfl, _, rfl, ?_⟩
                              by_cases e3 : q.1 ≤ r.1
                              · rw [decide_eq_true e3]
                                exact iteT (fin (ends_bad em (endOk_false (.inr ⟨e2, q, hq, e3⟩))) _ s5)
                              · rw [decide_eq_false e3]
                                refine iteF ⟨_, rfl, rfl, go (endOk_true e0 (by omega) fun q' _ hq' => ?_)⟩
                                rw [hq] at hq'
                                cases hq'
                                omega
                            · rw [decide_eq_false e2]
                              exact iteF (iteF ⟨_, rfl, rfl, go (endOk_true e0 (by omega) fun q' h2 _ => absurd h2 e2)⟩)
                          · rw [decide_eq_false e1]
                            exact iteT (iteT (fin (ends_bad em (endOk_false (.inl fun z => e1 (by omega)))) _ s5))
                        · rw [decide_eq_false e0]
                          exact iteF ⟨_, rfl, iteT (iteT (fin (ends_bad em (endOk_false (.inl fun z => e0 z.1))) _ s5))⟩
                      · rintro σ H5 ⟨o, rfl, rfl, hes⟩
                        have g1 : good1 m rs r = true := ends_ok hes hm v0 v1 lh
                        refine ⟨rs ++ [r], _, _, _, _, _, _, _, rfl, s5, by rw [upd_ne (ne_of_none h4 np)]; exact h4, by rw [take_snoc hdi, htk, List.map_append]; rfl, ?_⟩
                        rw [hG, g1, Bool.true_and]
                  · rw [decide_eq_false v1]
                    exact iteT (iteT (fin (by unfold good1; simp [v1]) _ s4))
                · rw [decide_eq_false v0]
                  exact iteF ⟨_, rfl, iteT (iteT (fin (by unfold good1; simp [v0]) _ s4))⟩
        · have e3 : (!decide (V.int ((es.length : Nat) : Int) = V.int 3)) = true := by
            rw [decide_eq_false (fun z => h3 (by have := V.int.inj z; omega))]
            rfl
          rw [e3]
          refine iteT (iteT (bad ?_ _ s2))
          cases hb : asTri (.tuple es) with
          | none => rfl
          | some r =>
            have := asTri_of hb
            injection this with this
            rw [this] at h3
            exact absurd rfl h3
    · have e : i = xs.length := by omega
      refine .inl ⟨⟨xs, s1.seq hl, by omega⟩, ?_⟩
      rw [List.drop_eq_nil_of_le (by omega)] at hG
      have := k H1 s1
      rw [hG] at this
      exact this
end
end Q43



namespace Q43
open PySem L2 G M43
open C8 (Cal Met Mak pe_c pe_mk pe_mt pe_mt0 pe_gc pss_cut tCut)
section
variable {P : Program} {w : World} {K : PySem.W.Frag} {mg : Str → Option Value} {base : Heap}
theorem triD_flat (r : Tri) : flat 1 (triD r) = true := by simp [triD, flat, flats]
theorem triD_pur (r : Tri) : pur (triD r) = true := by simp [triD, pur, purs]
theorem triD_inj {r q : Tri} (h : triD r = triD q) : r = q := by
  have e := asTri_tri r
  rw [h, asTri_tri] at e
  exact (Option.some.inj e).symm
theorem triD_eqv (r q : Tri) : PyData.eqv (triD r) (triD q) = decide (r = q) := by
  rw [Bool.eq_iff_iff, decide_eq_true_iff, eqv_iff (triD_pur r) (triD_pur q) (shaped_flat (triD_flat r) (by decide))]
  exact ⟨triD_inj, fun h => by rw [h]⟩
theorem tris_shaped (rs : List Tri) : SeqAt.shaped (.list (rs.map triD)) = true := shaped_flat (n := 2) (by simp only [flat]; exact flats_map triD_flat rs) (by decide)
theorem any_tri (rs : List Tri) (r : Tri) : ((rs.map triD).any fun z => PyData.eqv z (triD r)) = decide (r ∈ rs) := by
  rw [Bool.eq_iff_iff, decide_eq_true_iff, List.any_eq_true]
  constructor
  · rintro ⟨x, hx, e⟩
    obtain ⟨q, hq, rfl⟩ := List.mem_map.mp hx
    rw [triD_eqv] at e
    rw [← of_decide_eq_true e]
    exact hq
  · exact fun h => ⟨triD r, List.mem_map.mpr ⟨r, h, rfl⟩, by rw [triD_eqv]; exact decide_eq_true rfl⟩
theorem tri_dp {H : Hp} {v : V} {r : Tri} (h : TupL H v (triV r)) : Dp K H v (triD r) := by
  obtain ⟨a, rfl, ha⟩ := h
  exact .tup (SqT.of' ha) (.cons (.int _) (.cons (.int _) (.cons (.int _) .nil)))
/-- what the law finds right -/
def rightR (m : Int) (rs : List Tri) (root : Int) : Bool := goodR m [] rs && (decide (0 ≤ root) && decide (root < (rs.length : Int) + 2))
def spRight (K : PySem.W.Frag) : Sp := fun vs H Q _ => ∃ (l : Addr) (root m : Int) (xs : List V) (rs : List Tri), vs = [.ref l, .int root, .int m] ∧ SqL K H l xs ∧ Rows H xs rs ∧ rs.length ≤ 10000 ∧ ∀ H', Same H H' → Q (.bl (rightR m rs root)) H'
theorem ok_right {f : Addr} {fd : FuncData} (F : Fun K "_law_diagram_right" "_law_diagram_right" s__law_diagram_right f fd) (T : Txt K mg) : FnOk P w K mg base CX0 1 f fd ["rows", "root", "many"] (spRight K) := by
  refine F.ok sc__law_diagram_right (fun vs H Q E h => ?_) (fun cdv A outer s H vs Q E hr h => ?_)
  · obtain ⟨_, _, _, _, _, rfl, _⟩ := h
    rfl
  · obtain ⟨l, root, m, xs, rs, rfl, hl, hx, hn, k⟩ := h
    have hxl := hx.length
    have hu65 := hu65_of hr
    refine ⟨_, (pss_cons (ps_for PassesOwn.never rfl (pi_range1 (by rfl) T.b_range (pa_cons (pe_callB call_len_seq (by rfl) T.b_len boot_len' (pa_cons (pv 0) pa_nil)) pa_nil)) (pg_name (i := 3) sc__law_diagram_right.nd rfl (Or.inl rfl)) (pss_cons (ps_asg (pe_ix ix_list (pv 0) (pv 3) (fun _ _ => rfl)) (pg_tup rfl (pgs_cons (pg_name (i := 4) sc__law_diagram_right.nd rfl (Or.inl rfl)) (pgs_cons (pg_name (i := 5) sc__law_diagram_right.nd rfl (Or.inl rfl)) (pgs_cons (pg_name (i := 6) sc__law_diagram_right.nd rfl (Or.inl rfl)) pgs_nil)))))
      (pss_cons (ps_if (PW.pt (pw_or (pt_not (pt_chain op_le op_lt pe_int (pv 4) (pv 2))) (pw_or (pt_cmpR op_eq (pv 5) (pv 6) (nomark _)) (pw_or1 (pt_cmpR (op_inD hu65) (pe_ix ix_list (pv 0) (pv 3) (fun _ _ => rfl)) (pe_slice sl_list (pv 0) po_none (po_some (pv 3))) rfl))))) (pss_one (ps_ret pe_bl)) pss_nil)
      (pss_one (ps_for PassesOwn.never rfl (pi_tup (pe_tup (pa_cons (pv 5) (pa_cons (pv 6) pa_nil)))) (pg_name (i := 7) sc__law_diagram_right.nd rfl (Or.inl rfl)) (pss_one (ps_if (PW.pt (pw_or (pt_not (pt_chain op_le op_lt pe_int (pv 7) (pe_op op_add (pv 3) pe_int))) (pw_or1 (PW.pt (pw_and (pt_cmpR op_gt (pv 7) pe_int (nomark _)) (pw_and1 (pt_cmpR op_le (pe_ix ix_tup (pe_ix ix_list (pv 0) (pe_op op_sub (pv 7) pe_int) (fun _ _ => rfl)) pe_int (fun _ _ => rfl)) (pv 4) (nomark _)))))))) (pss_one (ps_ret pe_bl)) pss_nil)))))))
      (pss_one (ps_ret (pe_chain op_le op_lt pe_int (pv 1) (pe_op op_add (pe_callB call_len_seq (by rfl) T.b_len boot_len' (pa_cons (pv 0) pa_nil)) pe_int))))), ?_⟩
    refine ⟨_, rfl, l, _, rfl, .inl hl, _, rfl, by omega, by omega, for_range (lo := 0) (n := ((xs.length : Nat) : Int).toNat) (fun i σ H' => ∃ (o3 o4 o5 o6 o7 : Option V),
      σ = [some (.ref l), some (.int root), some (.int m), o3, o4, o5, o6, o7] ∧ Same H H' ∧ goodR m [] rs = goodR m (rs.take i) (rs.drop i))
      ⟨none, none, none, none, none, rfl, Same.refl _, rfl⟩ ?_ ?_⟩
    · rintro i σ H1 hi ⟨o3, o4, o5, o6, o7, rfl, s1, hG⟩
      have il : i < rs.length := by omega
      obtain ⟨r, hr'⟩ : ∃ r, rs[i]? = some r := ⟨_, List.getElem?_eq_getElem il⟩
      have hdrop : rs.drop i = r :: rs.drop (i + 1) := by
        rw [List.drop_eq_getElem_cons il]
        congr 1
        rw [List.getElem?_eq_getElem il] at hr'
        exact Option.some.inj hr'
      have hG : goodR m [] rs = (good1 m (rs.take i) r && goodR m (rs.take (i + 1)) (rs.drop (i + 1))) := by
        rw [hG, hdrop, take_snoc hr']
        rfl
      have fin : good1 m (rs.take i) r = false → ∀ H', Same H H' → Q (.bl false) H' := fun e H' s' => by
        have := k H' s'
        unfold rightR at this
        rw [hG, e] at this
        exact this
      have tkl : (rs.take i).length = i := by rw [List.length_take]; omega
      obtain ⟨v, hvi, t, rfl, ht⟩ := paired_get hx hr'
      have ati : atI xs (0 + (i : Int)) = some (.ref t) := by rw [Int.zero_add]; exact atI_nat hvi
      refine ⟨_, rfl, _, rfl, l, xs, _, _, rfl, rfl, s1.seq hl, ati, t, _, rfl, SqT.of' (s1 _ _ ht), rfl, _, _, rfl, _, _, rfl, _, _, rfl, rfl, ?_⟩
      refine ⟨_, rfl, _, _, rfl, rfl, _, rfl, ?_⟩
      by_cases v0 : 0 ≤ r.1
      · rw [decide_eq_true v0]
        refine iteT ⟨_, rfl, _, _, rfl, rfl, _, rfl, ?_⟩
        by_cases v1 : r.1 < m
        · rw [decide_eq_true v1]
          refine iteF ⟨_, rfl, _, rfl, rfl, _, rfl, ?_⟩
          by_cases lh : r.2.1 = r.2.2
          · rw [lh, decide_eq_true rfl]
            exact iteT (iteT (fin (by unfold good1; simp [lh]) _ s1))
          · rw [decide_eq_false (fun z => lh (V.int.inj z))]
            refine iteF ⟨_, rfl, _, rfl, l, xs, _, _, rfl, rfl, s1.seq hl, ati, _, rfl, _, rfl, _, rfl, l, xs, rfl, s1.seq hl, fun p np => ?_⟩
            rw [Int.zero_add, cut_to (by omega)]
            have s2 : Same H (upd H1 p (.lst (xs.take i))) := s1.trans (same_new np)
            refine ⟨triD r, (rs.take i).map triD, tri_dp ⟨t, rfl, s2 _ _ ht⟩, .lst (SqL.of upd_same) (DRows.of (paired_take i (Rows.same s2 hx))).1, shaped_flat (triD_flat r) (by decide), tris_shaped _, _, rfl, ?_⟩
            rw [any_tri]
            by_cases hm : r ∈ rs.take i
            · rw [decide_eq_true hm]
              exact iteT (fin (by unfold good1; simp [hm]) _ s2)
            · rw [decide_eq_false hm]
              refine iteF ⟨_, rfl, _, rfl, (show 2 ≤ sizeLine by decide), fun q nq => ⟨q, rfl, ⟨_, SqT.of' upd_same⟩, ?_⟩⟩
              have s5 := s2.trans (same_new (o := HO.tup [V.int r.2.1, V.int r.2.2]) nq)
              generalize hH5 : upd (upd H1 p (.lst (xs.take i))) q (.tup [V.int r.2.1, V.int r.2.2]) = H5 at s5
              have hq5 : H5 q = some (.tup [V.int r.2.1, V.int r.2.2]) := by rw [← hH5, upd_same]
              refine for_tup (K := K) (a := q) (xs := [V.int r.2.1, V.int r.2.2]) (fun j σ H' => ∃ (o : Option V),
                σ = [some (.ref l), some (.int root), some (.int m), some (.int (i : Int)), some (.int r.1), some (.int r.2.1), some (.int r.2.2), o] ∧ H' = H5 ∧ ∀ e ∈ [r.2.1, r.2.2].take j, endOk (rs.take i) e r.1 = true)
                ⟨o7, rfl, rfl, fun _ h => by simp at h⟩ (fun j σ H' _ ⟨_, _, e, _⟩ => by rw [e]; exact SqT.of' hq5) ?_ ?_
              · rintro j x σ H6 hj ⟨o, rfl, rfl, hes⟩
                have hj2 : j < 2 := (List.getElem?_eq_some_iff.mp hj).1
                obtain ⟨e, rfl, ek⟩ : ∃ e, x = V.int e ∧ [r.2.1, r.2.2][j]? = some e := by
                  match j, hj2, hj with
                  | 0, _, hj => exact ⟨r.2.1, (Option.some.inj hj).symm, rfl⟩
                  | 1, _, hj => exact ⟨r.2.2, (Option.some.inj hj).symm, rfl⟩
                have em : e ∈ [r.2.1, r.2.2] := List.mem_of_getElem? ek
                have go : endOk (rs.take i) e r.1 = true → ∀ e' ∈ [r.2.1, r.2.2].take (j + 1), endOk (rs.take i) e' r.1 = true := fun h e' he' => by
                  rw [take_snoc ek] at he'
                  rcases List.mem_append.mp he' with q | q
                  · exact hes e' q
                  · rw [List.mem_singleton.mp q]
                    exact h
                refine ⟨_, rfl, _, _, rfl, rfl, _, rfl, ?_⟩
                by_cases e0 : 0 ≤ e
                · rw [decide_eq_true e0]
                  refine iteT ⟨_, rfl, _, _, rfl, rfl, _, _, rfl, rfl, _, rfl, ?_⟩
                  by_cases e1 : e < (i : Int) + 2
                  · rw [decide_eq_true e1]
                    refine iteF ⟨_, rfl, _, _, rfl, rfl, _, rfl, ?_⟩
                    by_cases e2 : 1 < e
                    · rw [decide_eq_true e2]
                      have hl2 : (e - 2).toNat < (rs.take i).length := by omega
                      obtain ⟨q', hq'⟩ : ∃ q, (rs.take i)[(e - 2).toNat]? = some q := ⟨_, List.getElem?_eq_getElem hl2⟩
                      have hrq : rs[(e - 2).toNat]? = some q' := by
                        rw [List.getElem?_take_of_lt (by omega)] at hq'
                        exact hq'
                      obtain ⟨u, hu', tq, rfl, htq⟩ := paired_get hx hrq
                      refine iteT ⟨_, rfl, _, rfl, _, _, rfl, rfl, l, xs, _, _, rfl, rfl, s5.seq hl, at_tri (by omega) hu', tq, _, 0, .int q'.1, rfl, rfl, SqT.of' (s5 _ _ htq), rfl, _, rfl, _, _, rfl, rfl, _, rfl, ?_⟩
                      by_cases e3 : q'.1 ≤ r.1
                      · rw [decide_eq_true e3]
                        exact iteT (fin (ends_bad em (endOk_false (.inr ⟨e2, q', hq', e3⟩))) _ s5)
                      · rw [decide_eq_false e3]
                        refine iteF ⟨_, rfl, rfl, go (endOk_true e0 (by omega) fun q2 _ hq2 => ?_)⟩
                        rw [hq'] at hq2
                        cases hq2
                        omega
                    · rw [decide_eq_false e2]
                      exact iteF (iteF ⟨_, rfl, rfl, go (endOk_true e0 (by omega) fun q2 h2 _ => absurd h2 e2)⟩)
                  · rw [decide_eq_false e1]
                    exact iteT (iteT (fin (ends_bad em (endOk_false (.inl fun z => e1 (by omega)))) _ s5))
                · rw [decide_eq_false e0]
                  exact iteF ⟨_, rfl, iteT (iteT (fin (ends_bad em (endOk_false (.inl fun z => e0 z.1))) _ s5))⟩
              · rintro σ H6 ⟨o, rfl, rfl, hes⟩
                have g1 : good1 m (rs.take i) r = true := ends_ok hes hm v0 v1 lh
                refine ⟨_, _, _, _, _, rfl, s5, ?_⟩
                rw [hG, g1, Bool.true_and]
        · rw [decide_eq_false v1]
          exact iteT (iteT (fin (by unfold good1; simp [v1]) _ s1))
      · rw [decide_eq_false v0]
        exact iteF ⟨_, rfl, iteT (iteT (fin (by unfold good1; simp [v0]) _ s1))⟩
    · rintro σ H1 ⟨o3, o4, o5, o6, o7, rfl, s1, hG⟩
      have hG : goodR m [] rs = true := by
        rw [hG, List.drop_eq_nil_of_le (by omega)]
        rfl
      have k' := k H1 s1
      unfold rightR at k'
      rw [hG, Bool.true_and] at k'
      refine ⟨_, rfl, _, _, rfl, rfl, _, rfl, ?_⟩
      by_cases r0 : 0 ≤ root
      · rw [decide_eq_true r0] at k' ⊢
        refine iteT ⟨_, rfl, l, _, rfl, .inl (s1.seq hl), _, _, rfl, rfl, _, _, rfl, rfl, ?_⟩
        rw [Bool.true_and, ← hxl] at k'
        exact k'
      · rw [decide_eq_false r0] at k' ⊢
        exact iteF k'
end
end Q43



namespace Q43
open PySem L2 G M43
open C8 (Cal Met Mak pe_c pe_mk pe_mt pe_mt0 pe_gc pss_cut tCut)
section
variable {P : Program} {w : World} {K : PySem.W.Frag} {mg : Str → Option Value} {base : Heap}
/-! ### check_diagram -/
def checkD (m : Int) (ds : List PyData) : PyData → Bool
  | .int z => rowsG m [] ds && (decide (0 ≤ z) && decide (z < (ds.length : Int) + 2))
  | _ => false
def spCheck (K : PySem.W.Frag) : Sp := fun vs H Q _ => ∃ (v : V) (m : Int), vs = [v, .int m] ∧ ((∃ z, v = .int z ∧ ∀ H', Same H H' → Q (.bl false) H') ∨ ∃ (a l : Addr) (xs : List V) (ds : List PyData) (rt : V) (rd : PyData), v = .ref a ∧ SqT K H a [.ref l, rt] ∧ SqL K H l xs ∧ DRows K H xs ds ∧ ds.length ≤ 10000 ∧
  Dp K H rt rd ∧ (rd = .none ∨ ∃ z, rd = .int z) ∧ ∀ H', Same H H' → Q (.bl (checkD m ds rd)) H')
theorem ok_check {f : Addr} {fd : FuncData} (F : Fun K "check_diagram" "check_diagram" s_check_diagram f fd) (T : Txt K mg) (c_is_number : Cal P w K mg base 1 "is_number" (spNum K) []) (c_rows_good : Cal P w K mg base 2 "rows_good" (spRows K) []) : FnOk P w K mg base CX0 3 f fd ["diagram", "many"] (spCheck K) := by
  refine F.ok sc_check_diagram (fun vs H Q E h => ?_) (fun cdv A outer s H vs Q E hr h => ?_)
  · obtain ⟨_, _, rfl, _⟩ := h
    rfl
  · obtain ⟨v, m, rfl, h⟩ := h
    refine ⟨_, (pss_cons (ps_if (PW.pt (pw_or (pt_not (pt_val (pe_callB call_isi (by rfl) T.b_isinstance boot_isinstance' (pa_cons (pv 0) (pa_cons (pe_bltn (v := .ty "tuple") (by rfl) T.b_tuple boot_tuple' rfl) pa_nil))))) (pw_or (pt_cmpR op_ne (pe_callB call_len_seq (by rfl) T.b_len boot_len' (pa_cons (pv 0) pa_nil)) pe_int (nomark _)) (pw_or1 (pt_not (pt_val (pe_callB call_isiT (by rfl) T.b_isinstance boot_isinstance' (pa_cons (pe_ix ix_tup (pv 0) pe_int (fun _ _ => rfl)) (pa_cons (pe_tup (pa_cons (pe_bltn (v := .ty "tuple") (by rfl) T.b_tuple boot_tuple' rfl) (pa_cons (pe_bltn (v := .ty "list") (by rfl) T.b_list boot_list' rfl) pa_nil))) pa_nil))))))))) (pss_one (ps_ret pe_bl)) pss_nil)
      (pss_cons (ps_asg (pv 0) (pg_tup rfl (pgs_cons (pg_name (i := 2) sc_check_diagram.nd rfl (Or.inl rfl)) (pgs_cons (pg_name (i := 3) sc_check_diagram.nd rfl (Or.inl rfl)) pgs_nil))))
      (pss_one (ps_ret (pe_and (pe_c c_rows_good hr (by omega) rfl (pa_cons (pv 2) (pa_cons (pv 1) pa_nil))) (pe_and (pe_c c_is_number hr (by omega) rfl (pa_cons (pv 3) pa_nil)) (pe_one (pe_chain op_le op_lt pe_int (pv 3) (pe_op op_add (pe_callB call_len_seq (by rfl) T.b_len boot_len' (pa_cons (pv 2) pa_nil)) pe_int))))))))), ?_⟩
    rcases h with ⟨z, rfl, k⟩ | ⟨a, l, xs, ds, rt, rd, rfl, ha, hl, hx, hn, hrd, hz, k⟩
    · refine ⟨_, rfl, _, _, _, _, _, rfl, .ty _, dp_ty (.int z), kitD K _ _ (by decide), _, rfl, ?_⟩
      exact iteT (iteT (k _ (Same.refl _)))
    · have hD : Dp K H (.ref a) (.tuple [.list ds, rd]) := .tup ha (.cons (.lst hl hx.1) (.cons hrd .nil))
      refine ⟨_, rfl, _, _, _, _, _, rfl, .ty _, dp_ty hD, kitD K _ _ (by decide), _, rfl, ?_⟩
      refine iteF ⟨_, rfl, a, _, rfl, .inr ha, rfl, _, rfl, ?_⟩
      refine iteF ⟨_, rfl, a, _, 0, .ref l, rfl, rfl, ha, rfl, (show 2 ≤ sizeLine by decide), fun p np => ?_⟩
      have s1 := same_new (o := HO.tup [V.ty "tuple", V.ty "list"]) np
      refine ⟨_, _, _, _, _, _, rfl, upd_same, clsv2 _ _, dp_ty (Dp.lst (s1.seq hl) (dps_same s1 hx.1)), kitD2 K _ _ _ (by decide) (by decide), _, rfl, ?_⟩
      refine iteF ⟨_, rfl, a, _, rfl, Same.tup s1 ha, rfl, _, _, rfl, _, _, rfl, rfl, ?_⟩
      refine ⟨_, rfl, _, rfl, l, m, xs, ds, rfl, s1.seq hl, hx.same s1, hn, fun H2 s2 => ?_⟩
      have s3 := s1.trans s2
      have k' := k H2 s3
      refine ⟨_, rfl, ?_⟩
      cases hg : rowsG m [] ds with
      | false =>
        have e : checkD m ds rd = false := by
          unfold checkD
          rw [hg]
          split <;> rfl
        rw [e] at k'
        exact iteF k'
      | true =>
        refine iteT ⟨_, rfl, rt, rd, rfl, dp_same s3 hrd, _, rfl, ?_⟩
        rcases hz with rfl | ⟨z, rfl⟩
        · exact iteF k'
        · cases dp_int hrd
          have e : checkD m ds (.int z) = (decide (0 ≤ z) && decide (z < (ds.length : Int) + 2)) := by
            show (rowsG m [] ds && _) = _
            rw [hg, Bool.true_and]
          rw [e] at k'
          refine iteT ⟨_, rfl, _, _, rfl, rfl, _, rfl, ?_⟩
          by_cases r0 : 0 ≤ z
          · rw [decide_eq_true r0] at k' ⊢
            refine iteT ⟨_, rfl, l, _, rfl, .inl (s3.seq hl), _, _, rfl, rfl, _, _, rfl, rfl, ?_⟩
            rw [Bool.true_and, ← dps_len hx.1] at k'
            exact k'
          · rw [decide_eq_false r0] at k' ⊢
            exact iteF k'

/-! ### Maker -/
theorem lk_eq {f : Str} {v : V} {fs : List (Str × V)} : ((f, v) :: fs).lookup f = some v := by simp [List.lookup]
theorem lk_ne {f g : Str} {v : V} {fs : List (Str × V)} (h : ¬ g = f) : ((f, v) :: fs).lookup g = fs.lookup g := by
  rw [List.lookup_cons]
  have e : (g == f) = false := beq_eq_false_iff_ne.mpr h
  rw [e]
structure MkT (K : PySem.W.Frag) (C : Addr) : Prop where
  cl : Cls K C
  nM : NoAttr K C "many"
  nR : NoAttr K C "rows"
  nN : NoAttr K C "numbers"
def mkF (m : Int) (r n : Addr) : List (Str × V) := [("many", .int m), ("rows", .ref r), ("numbers", .ref n)]
theorem mkF_many (m : Int) (r n : Addr) : (mkF m r n).lookup ("many" : Str) = some (.int m) := lk_eq
theorem mkF_rows (m : Int) (r n : Addr) : (mkF m r n).lookup ("rows" : Str) = some (.ref r) := by
  unfold mkF
  rw [lk_ne (by decide +kernel)]
  exact lk_eq
theorem mkF_numbers (m : Int) (r n : Addr) : (mkF m r n).lookup ("numbers" : Str) = some (.ref n) := by
  unfold mkF
  rw [lk_ne (by decide +kernel), lk_ne (by decide +kernel)]
  exact lk_eq
theorem mkF_made (m : Int) (r n : Addr) : (mkF m r n).lookup ("made" : Str) = none := by
  unfold mkF
  rw [lk_ne (by decide +kernel), lk_ne (by decide +kernel), lk_ne (by decide +kernel)]
  rfl
theorem mkF_put (m : Int) (r n : Addr) : putF "numbers" (.ref n) (putF "rows" (.ref r) (putF "many" (.int m) [])) = mkF m r n := by
  have h1 : ¬ (("many" : Str) = "rows") := by decide +kernel
  have h2 : ¬ (("many" : Str) = "numbers") := by decide +kernel
  have h3 : ¬ (("rows" : Str) = "numbers") := by decide +kernel
  have e1 : putF ("many" : Str) (V.int m) [] = [(("many" : Str), V.int m)] := rfl
  have e2 : putF ("rows" : Str) (V.ref r) [(("many" : Str), V.int m)] = [(("many" : Str), V.int m), (("rows" : Str), V.ref r)] := by
    show (if ("many" : Str) = "rows" then _ else (("many" : Str), V.int m) :: putF ("rows" : Str) (V.ref r) []) = _
    rw [if_neg h1]
    rfl
  have e3 : putF ("numbers" : Str) (V.ref n) [(("many" : Str), V.int m), (("rows" : Str), V.ref r)] = mkF m r n := by
    show (if ("many" : Str) = "numbers" then _ else (("many" : Str), V.int m) :: (if ("rows" : Str) = "numbers" then _ else (("rows" : Str), V.ref r) :: putF ("numbers" : Str) (V.ref n) [])) = _
    rw [if_neg h2, if_neg h3]
    rfl
  rw [e1, e2, e3]
def spInit (C : Addr) : Sp := fun vs H Q _ => ∃ (x dx : Addr) (m : Int), vs = [.ref x, .int m] ∧ H x = some (.ins C dx []) ∧ ∀ (H' : Hp) (r n : Addr), (∀ b o, b ≠ x → H b = some o → H' b = some o) → H r = none → H n = none → H' x = some (.ins C dx (mkF m r n)) → H' r = some (.lst []) → H' n = some (.dT []) → Q .non H'
theorem ok_init {f C : Addr} {fd : FuncData} (F : Fun K "__init__" "Maker.__init__" s_Maker___init__ f fd) (M : MkT K C) : FnOk P w K mg base CX0 1 f fd ["self", "many"] (spInit C) := by
  refine F.ok sc_Maker___init__ (fun vs H Q E h => ?_) (fun cdv A outer s H vs Q E hr h => ?_)
  · obtain ⟨_, _, _, rfl, _⟩ := h
    rfl
  · obtain ⟨x, dx, m, rfl, hx, k⟩ := h
    refine ⟨_, (pss_cons (ps_fld (pv 0) (pv 1) rfl)
      (pss_cons (ps_fld (pv 0) (pe_lst pa_nil) rfl)
      (pss_one (ps_fld (pv 0) pe_dnewT rfl)))), ?_⟩
    refine ⟨_, rfl, _, rfl, x, C, dx, _, rfl, hx, M.cl, M.nM, (by show 0 < 1000; decide), ?_⟩
    refine ⟨Nat.zero_le _, fun r nr => ?_⟩
    have xr : r ≠ x := (upd_none nr).1
    have r0 : H r = none := (upd_none nr).2
    refine ⟨_, rfl, x, C, dx, _, rfl, by rw [upd_ne xr.symm, upd_same], M.cl, M.nR, (by show 1 < 1000; decide), ?_⟩
    intro n nn
    have xn : n ≠ x := (upd_none nn).1
    have nn2 := (upd_none nn).2
    have rn : n ≠ r := (upd_none nn2).1
    have n0 : H n = none := (upd_none (upd_none nn2).2).2
    refine ⟨_, rfl, x, C, dx, _, rfl, by rw [upd_ne xn.symm, upd_same], M.cl, M.nN, (by show 2 < 1000; decide), ?_⟩
    rw [mkF_put]
    refine k _ r n (fun b o hb e => ?_) r0 n0 upd_same ?_ ?_
    · rw [upd_ne hb, upd_ne (ne_of_none e n0), upd_ne hb, upd_ne (ne_of_none e r0), upd_ne hb]
      exact e
    · rw [upd_ne xr, upd_ne rn.symm, upd_ne xr, upd_same]
    · rw [upd_ne xn, upd_same]
end
end Q43



namespace Q43
open PySem L2 G M43
open C8 (Cal Met Mak pe_c pe_mk pe_mt pe_mt0 pe_gc pss_cut tCut)
section
variable {P : Program} {w : World} {K : PySem.W.Frag} {mg : Str → Option Value} {base : Heap}
/-! ### the dict of the rows' numbers -/
theorem idxOf_skip {q r : Tri} (e : ¬ q = r) (rs : List Tri) : (q :: rs).idxOf r = rs.idxOf r + 1 := by
  have h : (q == r) = false := beq_eq_false_iff_ne.mpr e
  rw [List.idxOf_cons, h]
  rfl
def kvFrom : Nat → List Tri → List (List Key × V)
  | _, [] => []
  | i, r :: rs => (keyT r, V.int ((i : Int) + 2)) :: kvFrom (i + 1) rs
theorem kvFrom_app : ∀ (i : Nat) (rs ts : List Tri), kvFrom i (rs ++ ts) = kvFrom i rs ++ kvFrom (i + rs.length) ts
  | i, [], ts => rfl
  | i, r :: rs, ts => by
    show (keyT r, _) :: kvFrom (i + 1) (rs ++ ts) = _
    rw [kvFrom_app (i + 1) rs ts, show i + 1 + rs.length = i + (r :: rs).length by rw [List.length_cons]; omega]
    rfl
theorem kvFrom_len : ∀ (i : Nat) (rs : List Tri), (kvFrom i rs).length = rs.length
  | i, [] => rfl
  | i, r :: rs => congrArg (· + 1) (kvFrom_len (i + 1) rs)
theorem valV_kvFrom : ∀ (i : Nat) (rs : List Tri) (r : Tri), valV (kvFrom i rs) (keyT r) = if r ∈ rs then some (V.int (((i + rs.idxOf r : Nat) : Int) + 2)) else none
  | i, [], r => rfl
  | i, q :: rs, r => by
    show valV ((keyT q, V.int ((i : Int) + 2)) :: kvFrom (i + 1) rs) (keyT r) = _
    by_cases e : q = r
    · subst e
      rw [valV_pos rfl, if_pos (List.mem_cons_self ..), List.idxOf_cons_self]
      rfl
    · rw [valV_neg (fun z => e (keyT_inj z)), valV_kvFrom (i + 1) rs r]
      by_cases h : r ∈ rs
      · rw [if_pos h, if_pos (List.mem_cons_of_mem _ h), idxOf_skip e, show i + 1 + rs.idxOf r = i + (rs.idxOf r + 1) by omega]
      · rw [if_neg h, if_neg (fun z => (List.mem_cons.mp z).elim (fun z => e z.symm) h)]
def kvN (rs : List Tri) : List (List Key × V) := kvFrom 0 rs
theorem valV_kvN {rs : List Tri} {r : Tri} : valV (kvN rs) (keyT r) = if r ∈ rs then some (V.int ((rs.idxOf r : Int) + 2)) else none := by
  unfold kvN
  rw [valV_kvFrom, Nat.zero_add]
theorem kvN_snoc (rs : List Tri) (r : Tri) : kvN (rs ++ [r]) = kvN rs ++ [(keyT r, V.int ((rs.length : Int) + 2))] := by
  unfold kvN
  rw [kvFrom_app, Nat.zero_add]
  rfl
/-- all but two objects is kept -/
def But2 (r n : Addr) (H H' : Hp) : Prop := ∀ b o, b ≠ r → b ≠ n → H b = some o → H' b = some o
theorem But2.trans {r n : Addr} {H H1 H2 : Hp} (a : But2 r n H H1) (b : But2 r n H1 H2) : But2 r n H H2 := fun c o h1 h2 e => b c o h1 h2 (a c o h1 h2 e)
theorem But2.of {r n : Addr} {H H1 : Hp} (a : Same H H1) : But2 r n H H1 := fun c o _ _ e => a c o e
/-- a maker as it stands -/
structure MakerAt (H : Hp) (C x dx r n : Addr) (m : Int) (rs : List Tri) : Prop where
  ins : H x = some (.ins C dx (mkF m r n))
  rows : ∃ xs, H r = some (.lst xs) ∧ Rows H xs rs
  nums : H n = some (.dT (kvN rs))
theorem MakerAt.same {H H' : Hp} {C x dx r n : Addr} {m : Int} {rs : List Tri} (h : MakerAt H C x dx r n m rs) (s : Same H H') : MakerAt H' C x dx r n m rs :=
  ⟨s _ _ h.ins, let ⟨xs, a, b⟩ := h.rows; ⟨xs, s _ _ a, Rows.same s b⟩, s _ _ h.nums⟩
theorem MakerAt.tups {H H' : Hp} {C x dx r n : Addr} {m : Int} {rs : List Tri} (h : MakerAt H C x dx r n m rs) (s : But2 r n H H') : ∀ b ys, H b = some (.tup ys) → H' b = some (.tup ys) := fun b ys e => by
  obtain ⟨xs, a, _⟩ := h.rows
  exact s b _ (by rintro rfl; rw [a] at e; cases e) (by rintro rfl; rw [h.nums] at e; cases e) e
def spMade (C : Addr) : Nat → Sp
  | 0 => fun _ _ _ _ => False
  | k + 1 => fun vs H Q _ => ∃ (x dx r n t : Addr) (v m : Nat) (ys : List V) (ts : List (List Int)) (rs : List Tri), vs = [.ref x, .int v, .ref t] ∧ MakerAt H C x dx r n m rs ∧ H t = some (.lst ys) ∧ t ≠ r ∧ BRows H ys ts ∧ (∀ b ∈ ts, Bits m b) ∧ v + k = m ∧ ts.length ≤ 10000 ∧ rs.length + 2 ^ k ≤ 10000 ∧
    ∀ H', But2 r n H H' → MakerAt H' C x dx r n m (made k v ts rs).2 → Q (.int (made k v ts rs).1) H'
theorem bitV_at {b : List Int} {m v : Nat} (hb : Bits m b) (hv : v < m) : (bitV b)[v]? = some (.int (b.getD v 0)) := by
  unfold bitV
  exact int_at (by rw [hb.1]; exact hv)
theorem emp_iff {α : Type} {l : List α} : l.isEmpty = true ↔ l = [] := List.isEmpty_iff
theorem ok_made {f C : Addr} {fd : FuncData} (F : Fun K "made" "Maker.made" s_Maker_made f fd) (T : Txt K mg) (M : MkT K C) (me : Meth K C "made" f) (b : Binds K fd ["self", "variable", "tuples"] []) : ∀ n : Nat, FnOk P w K mg base CX0 n f fd ["self", "variable", "tuples"] (spMade C n) := by
  intro lv
  induction lv with
  | zero => exact ⟨fun _ _ _ _ h => h.elim, fun _ _ _ _ _ _ _ _ _ _ _ _ _ h => h.elim⟩
  | succ k ih =>
    have c_m_made : Met P w K mg base k C "made" (spMade C k) [] := ⟨f, fd, _, _, M.cl, me, ih, b, .nil⟩
    refine F.ok sc_Maker_made (fun vs H Q E h => ?_) (fun cdv A outer s H vs Q E hr h => ?_)
    · obtain ⟨_, _, _, _, _, _, _, _, _, _, rfl, _⟩ := h
      rfl
    · obtain ⟨x, dx, r, n, t, v, m, ys, ts, rs, rfl, hM, ht, htr, hy, hb, hvk, htl, hrl, kk⟩ := h
      have hu := hu_of hr
      have hyl := hy.length
      refine ⟨_, (pss_cons (ps_if (pt_not (pt_truth (pv 2) (by intro _; rfl))) (pss_one (ps_ret pe_int)) pss_nil)
      (pss_cons (ps_if (pt_cmpR op_eq (pv 1) (pe_fld (pv 0) rfl) (nomark _)) (pss_one (ps_ret pe_int)) pss_nil)
      (pss_cons (ps_set (i := 3) sc_Maker_made.nd rfl (Or.inl rfl) (pe_mt c_m_made hr (by omega) (pv 0) (pa_cons (pe_op op_add (pv 1) pe_int) (pa_cons (pe_lc (own := [("bits", 6)]) rfl sc_Maker_made.nd (pi_list (pv 2)) (blkOk_by (own := [("bits", 6)]) (N := ["self", "variable", "tuples", "low", "high", "row", "bits"]) (sc := defScope s_Maker_made) (by decide +kernel)) (fun _ _ _ _ _ => (pg_name (i := 6) sc_Maker_made.nd rfl (Or.inl rfl))) (fun _ _ _ _ _ => (pts_one (pt_cmpR op_eq (pe_ix (ix_tupK (K := K) rfl) (pv 6) (pv 1) (fun _ _ => rfl)) pe_int (nomark _)))) (fun _ _ _ _ _ => (pv 6))) pa_nil))))
      (pss_cons (ps_set (i := 4) sc_Maker_made.nd rfl (Or.inl rfl) (pe_mt c_m_made hr (by omega) (pv 0) (pa_cons (pe_op op_add (pv 1) pe_int) (pa_cons (pe_lc (own := [("bits", 6)]) rfl sc_Maker_made.nd (pi_list (pv 2)) (blkOk_by (own := [("bits", 6)]) (N := ["self", "variable", "tuples", "low", "high", "row", "bits"]) (sc := defScope s_Maker_made) (by decide +kernel)) (fun _ _ _ _ _ => (pg_name (i := 6) sc_Maker_made.nd rfl (Or.inl rfl))) (fun _ _ _ _ _ => (pts_one (pt_cmpR op_eq (pe_ix (ix_tupK (K := K) rfl) (pv 6) (pv 1) (fun _ _ => rfl)) pe_int (nomark _)))) (fun _ _ _ _ _ => (pv 6))) pa_nil))))
      (pss_cons (ps_if (pt_cmpR op_eq (pv 3) (pv 4) (nomark _)) (pss_one (ps_ret (pv 3))) pss_nil)
      (pss_cons (ps_set (i := 5) sc_Maker_made.nd rfl (Or.inl rfl) (pe_tup (pa_cons (pv 1) (pa_cons (pv 3) (pa_cons (pv 4) pa_nil)))))
      (pss_cut (ps_if (pt_cmp (pc_dnotin hu (pv 5) (pe_fld (pv 0) rfl))) (pss_cons (ps_dput hu (pe_fld (pv 0) rfl) (pv 5) (pe_op op_add (pe_callB call_len_seq (by rfl) T.b_len boot_len' (pa_cons (pe_fld (pv 0) rfl) pa_nil)) pe_int) rfl)
      (pss_one (ps_expr (pe_bm PySem.F.plainAttrs_list PySem.F.slot_list_append PySem.F.type_list_append mt_append (pe_fld (pv 0) rfl) (pa_cons (pv 5) pa_nil))))) pss_nil)
      (pss_one (ps_ret (pe_dget hu (pe_fld (pv 0) rfl) (pv 5) (fun _ _ => rfl))))))))))), ?_⟩
      refine ⟨_, rfl, _, .inl ⟨_, SqL.of ht, rfl⟩, ?_⟩
      by_cases hts : ts = []
      · have e : ys.isEmpty = true := by rw [hts] at hyl; exact emp_iff.mpr (List.eq_nil_of_length_eq_zero hyl)
        have e2 : made k v ts rs = (0, rs) := by
          cases k with
          | zero => rw [made, if_pos hts]
          | succ k => rw [made, if_pos hts]
        rw [e2] at kk
        rw [e]
        exact iteT (kk H (fun _ _ _ _ h => h) hM)
      · have e : ys.isEmpty = false := by
          cases h : ys.isEmpty with
          | false => rfl
          | true =>
            rw [emp_iff] at h
            rw [h] at hyl
            exact absurd (List.eq_nil_of_length_eq_zero hyl.symm) hts
        rw [e]
        refine iteF ⟨_, rfl, _, rfl, x, C, dx, _, _, rfl, hM.ins, M.cl, M.nM, mkF_many _ _ _, rfl, _, rfl, ?_⟩
        cases k with
        | zero =>
          have e3 : v = m := by omega
          subst e3
          have e2 : made 0 v ts rs = (1, rs) := by rw [made, if_neg hts]
          rw [e2] at kk
          rw [decide_eq_true rfl]
          exact iteT (kk H (fun _ _ _ _ h => h) hM)
        | succ k =>
          have hvm : v < m := by omega
          rw [decide_eq_false (fun z => by have := V.int.inj z; omega)]
          refine iteF ⟨_, rfl, x, dx, _, rfl, hM.ins, mkF_made _ _ _, _, rfl, _, _, rfl, rfl, ?_⟩
          -- low
          refine ⟨_, rfl, t, rfl, ⟨_, SqL.of ht⟩, fun D nD => lc_rel (K := K) (a := t) (xs := ys) (as := ts) (fun H v b => TupL H v (bitV b)) (fun H v b => TupL H v (bitV b)) TupL.same TupL.same (bit v 0) id (SqL.of ht) hy nD (by omega) ?_ ?_⟩
          · intro vb b G acc R bm hvb sG hG hacc k0 k1
            obtain ⟨tb, rfl, htb⟩ := id hvb
            refine ⟨rfl, _, rfl, _, rfl, tb, _, _, _, rfl, rfl, SqT.of' (same_new hG _ _ htb), atI_nat (bitV_at (hb b bm) hvm), rfl, _, rfl, ?_⟩
            by_cases hz : b.getD v 0 = 0
            · rw [hz, decide_eq_true rfl]
              refine iteT ⟨_, rfl, _, upd_same, hacc, ?_⟩
              rw [upd_app]
              exact k1 (decide_eq_true hz) G _ (Same.refl _) hG hvb
            · rw [decide_eq_false (fun z => hz (V.int.inj z))]
              exact iteF (k0 (decide_eq_false hz) G (Same.refl _) hG)
          · intro G zs sG hG hzs
            rw [List.map_id] at hzs
            have s1 : Same H (upd G D (.lst zs)) := sG.trans (same_new hG)
            have hDr : D ≠ r := by
              obtain ⟨xs, e, _⟩ := hM.rows
              rintro rfl
              rw [e] at nD
              cases nD
            have htn : t ≠ n := ne_of ht hM.nums (by intro z; cases z)
            refine ⟨x, dx, r, n, D, v + 1, m, zs, ts.filter (bit v 0), rs, rfl, hM.same s1, upd_same, hDr, BRows.same (same_new hG) hzs, fun b hbm => hb b (List.mem_filter.mp hbm).1, by omega, by have := List.length_filter_le (bit v 0) ts; omega, by rw [Nat.pow_succ] at hrl; omega, fun H2 b2 hM2 => ?_⟩
            have bb2 : But2 r n H H2 := (But2.of s1).trans b2
            have ht2 : H2 t = some (.lst ys) := bb2 _ _ htr htn ht
            have hy2 : BRows H2 ys ts := Paired.mapP hy fun _ _ z => z.but (hM.tups bb2)
            obtain ⟨a1, rs1, e1⟩ : ∃ a1 rs1, made k (v + 1) (ts.filter (bit v 0)) rs = (a1, rs1) := ⟨_, _, rfl⟩
            have len1 := made_len k (v + 1) (ts.filter (bit v 0)) rs
            rw [e1] at hM2 len1
            -- high
            refine ⟨_, rfl, x, dx, _, rfl, hM2.ins, mkF_made _ _ _, _, rfl, _, _, rfl, rfl, ?_⟩
            refine ⟨_, rfl, t, rfl, ⟨_, SqL.of ht2⟩, fun D' nD' => lc_rel (K := K) (a := t) (xs := ys) (as := ts) (fun H v b => TupL H v (bitV b)) (fun H v b => TupL H v (bitV b)) TupL.same TupL.same (bit v 1) id (SqL.of ht2) hy2 nD' (by omega) ?_ ?_⟩
            · intro vb b G acc R bm hvb sG hG hacc k0 k1
              obtain ⟨tb, rfl, htb⟩ := id hvb
              refine ⟨rfl, _, rfl, _, rfl, tb, _, _, _, rfl, rfl, SqT.of' (same_new hG _ _ htb), atI_nat (bitV_at (hb b bm) hvm), rfl, _, rfl, ?_⟩
              by_cases hz : b.getD v 0 = 1
              · rw [hz, decide_eq_true rfl]
                refine iteT ⟨_, rfl, _, upd_same, hacc, ?_⟩
                rw [upd_app]
                exact k1 (decide_eq_true hz) G _ (Same.refl _) hG hvb
              · rw [decide_eq_false (fun z => hz (V.int.inj z))]
                exact iteF (k0 (decide_eq_false hz) G (Same.refl _) hG)
            · intro G' zs' sG' hG' hzs'
              rw [List.map_id] at hzs'
              have s2 : Same H2 (upd G' D' (.lst zs')) := sG'.trans (same_new hG')
              have hDr' : D' ≠ r := by
                obtain ⟨xs, e, _⟩ := hM2.rows
                rintro rfl
                rw [e] at nD'
                cases nD'
              refine ⟨x, dx, r, n, D', v + 1, m, zs', ts.filter (bit v 1), rs1, rfl, hM2.same s2, upd_same, hDr', BRows.same (same_new hG') hzs', fun b hbm => hb b (List.mem_filter.mp hbm).1, by omega, by have := List.length_filter_le (bit v 1) ts; omega, by rw [Nat.pow_succ] at hrl; simp only at len1; omega, fun H3 b3 hM3 => ?_⟩
              have bb3 : But2 r n H H3 := bb2.trans ((But2.of s2).trans b3)
              obtain ⟨a2, rs2, e2⟩ : ∃ a2 rs2, made k (v + 1) (ts.filter (bit v 1)) rs1 = (a2, rs2) := ⟨_, _, rfl⟩
              have len2 := made_len k (v + 1) (ts.filter (bit v 1)) rs1
              rw [e2] at hM3 len2
              rw [made_succ hts e1 e2] at kk
              rw [e2]
              rw [e1]
              simp only at hM3 hM2 len1 len2
              have len3 : rs2.length < 10000 := by
                have := Nat.pow_succ 2 k
                omega
              refine ⟨_, rfl, _, rfl, rfl, _, rfl, ?_⟩
              by_cases ea : a1 = a2
              · rw [if_pos ea] at kk
                rw [ea, decide_eq_true rfl]
                rw [ea] at kk
                exact iteT ⟨_, rfl, kk H3 bb3 hM3⟩
              · rw [if_neg ea] at kk
                rw [decide_eq_false (fun z => ea (V.int.inj z))]
                refine iteF ⟨_, rfl, _, rfl, _, rfl, (show 3 ≤ sizeLine by decide), fun q nq => ?_⟩
                have s4 := same_new (o := HO.tup [V.int v, V.int a1, V.int a2]) nq
                have hM4 := hM3.same s4
                have bb4 := bb3.trans (But2.of s4)
                generalize hH4 : upd H3 q (.tup [V.int v, V.int a1, V.int a2]) = H4 at s4 hM4 bb4
                have hq4 : H4 q = some (.tup (triV ((v : Int), a1, a2))) := by rw [← hH4, upd_same]; rfl
                refine ⟨fun σ' H' => σ' = [some (.ref x), some (.int v), some (.ref t), some (.int a1), some (.int a2), some (.ref q), none] ∧ But2 r n H H' ∧ H' q = some (.tup (triV ((v : Int), a1, a2))) ∧
                  ∃ rs', MakerAt H' C x dx r n m rs' ∧ ((v : Int), a1, a2) ∈ rs' ∧ (if ((v : Int), a1, a2) ∈ rs2 then (((rs2.idxOf ((v : Int), a1, a2) : Nat) : Int) + 2, rs2) else (((rs2.length : Nat) : Int) + 2, rs2 ++ [((v : Int), a1, a2)])) = (((rs'.idxOf ((v : Int), a1, a2) : Nat) : Int) + 2, rs'), ?_, ?_⟩
                · refine ⟨_, rfl, _, rfl, x, C, dx, _, _, rfl, hM4.ins, M.cl, M.nN, mkF_numbers _ _ _, n, _, rfl, DGet.t (k := keyT ((v : Int), a1, a2)) hM4.nums hq4, _, rfl, ?_⟩
                  by_cases hm : ((v : Int), a1, a2) ∈ rs2
                  · rw [show valV (kvN rs2) (keyT ((v : Int), a1, a2)) = some (V.int ((rs2.idxOf ((v : Int), a1, a2) : Int) + 2)) from by rw [valV_kvN, if_pos hm]]
                    exact iteF ⟨rfl, bb4, hq4, rs2, hM4, hm, by rw [if_pos hm]⟩
                  · rw [show valV (kvN rs2) (keyT ((v : Int), a1, a2)) = none from by rw [valV_kvN, if_neg hm]]
                    obtain ⟨xs4, hr4, hrow4⟩ := hM4.rows
                    have hrn : n ≠ r := ne_of hM4.nums hr4 (by intro z; cases z)
                    have hxr : x ≠ r := ne_of hM4.ins hr4 (by intro z; cases z)
                    have hxn : x ≠ n := ne_of hM4.ins hM4.nums (by intro z; cases z)
                    have hqn : q ≠ n := ne_of hq4 hM4.nums (by intro z; cases z)
                    have hqr : q ≠ r := ne_of hq4 hr4 (by intro z; cases z)
                    refine iteT ?_
                    -- self.numbers[row] = len(self.rows) + 2
                    refine ⟨_, rfl, x, C, dx, _, _, rfl, hM4.ins, M.cl, M.nR, mkF_rows _ _ _, r, _, rfl, .inl (SqL.of hr4), _, _, rfl, rfl, ?_⟩
                    refine ⟨_, rfl, x, C, dx, _, _, rfl, hM4.ins, M.cl, M.nN, mkF_numbers _ _ _, _, rfl, n, _, rfl, DPut.t (k := keyT ((v : Int), a1, a2)) hM4.nums hq4 (small1000' (by unfold kvN; rw [kvFrom_len]; omega)), ?_⟩
                    have hv0 : valV (kvN rs2) (keyT ((v : Int), a1, a2)) = none := by rw [valV_kvN, if_neg hm]
                    rw [putK_new _ hv0, hrow4.length, ← kvN_snoc]
                    -- self.rows.append(row)
                    have hr5 : upd H4 n (.dT (kvN (rs2 ++ [((v : Int), a1, a2)]))) r = some (.lst xs4) := by rw [upd_ne hrn.symm]; exact hr4
                    refine ⟨_, rfl, x, C, dx, _, _, rfl, by rw [upd_ne hxn]; exact hM4.ins, M.cl, M.nR, mkF_rows _ _ _, .inl ⟨rfl, _, SqL.of hr5⟩, _, rfl, r, _, _, rfl, rfl, hr5, small1000' (by rw [hrow4.length]; omega), ?_⟩
                    have keep : ∀ b o, b ≠ r → b ≠ n → H4 b = some o → upd (upd H4 n (.dT (kvN (rs2 ++ [((v : Int), a1, a2)])))) r (.lst (xs4 ++ [.ref q])) b = some o := fun b o h1 h2 e => by
                      rw [upd_ne h1, upd_ne h2]
                      exact e
                    have tups : ∀ b ws, H4 b = some (.tup ws) → upd (upd H4 n (.dT (kvN (rs2 ++ [((v : Int), a1, a2)])))) r (.lst (xs4 ++ [.ref q])) b = some (.tup ws) := hM4.tups keep
                    refine ⟨rfl, bb4.trans keep, tups _ _ hq4, rs2 ++ [((v : Int), a1, a2)], ⟨keep _ _ hxr hxn hM4.ins, ⟨_, upd_same, ?_⟩, by rw [upd_ne hrn, upd_same]⟩, by simp, ?_⟩
                    · exact Paired.snoc (Paired.mapP hrow4 fun _ _ z => z.but tups) ⟨q, rfl, tups _ _ hq4⟩
                    · rw [if_neg hm]
                      have : (rs2 ++ [((v : Int), a1, a2)]).idxOf ((v : Int), a1, a2) = rs2.length := by
                        rw [List.idxOf_append, if_neg hm, List.idxOf_cons_self]
                        omega
                      rw [this]
                · rintro σ' H' ⟨rfl, bb5, hq5, rs', hM5, hm5, e5⟩
                  rw [e5] at kk
                  refine ⟨_, rfl, x, C, dx, _, _, rfl, hM5.ins, M.cl, M.nN, mkF_numbers _ _ _, _, rfl, n, _, rfl, ?_, kk H' bb5 hM5⟩
                  have := DGet.t (k := keyT ((v : Int), a1, a2)) hM5.nums hq5
                  rw [valV_kvN, if_pos hm5] at this
                  exact this
end
end Q43



namespace Q43
open PySem L2 G M43
open C8 (Cal Met Mak pe_c pe_mk pe_mt pe_mt0 pe_gc pss_cut tCut)
section
variable {P : Program} {w : World} {K : PySem.W.Frag} {mg : Str → Option Value} {base : Heap}
/-! ### _law_made -/
def spLMade : Nat → Sp
  | 0 => fun _ _ _ _ => False
  | k + 1 => fun vs H Q _ => ∃ (r t : Addr) (v m : Nat) (xs ys : List V) (ts : List (List Int)) (rs : List Tri), vs = [.ref r, .int v, .int m, .ref t] ∧ H r = some (.lst xs) ∧ Rows H xs rs ∧ H t = some (.lst ys) ∧ t ≠ r ∧ BRows H ys ts ∧ (∀ b ∈ ts, Bits m b) ∧ v + k = m ∧ ts.length ≤ 10000 ∧ rs.length + 2 ^ k ≤ 10000 ∧
    ∀ (H' : Hp) (xs' : List V), But r H H' → H' r = some (.lst xs') → Rows H' xs' (made k v ts rs).2 → Q (.int (made k v ts rs).1) H'
theorem rows_dp {H : Hp} {xs : List V} {rs : List Tri} (h : Rows H xs rs) : DpAll K H xs (rs.map triD) := (DRows.of h).1
theorem idx_tri {rs : List Tri} {r : Tri} (h : r ∈ rs) : (rs.map triD)[rs.idxOf r]? = some (triD r) ∧ ∀ (i : Nat) (z : PyData), i < rs.idxOf r → (rs.map triD)[i]? = some z → PyData.eqv z (triD r) = false := by
  have hl := List.idxOf_lt_length_iff.mpr h
  refine ⟨by rw [List.getElem?_map, List.getElem?_eq_getElem hl, List.getElem_idxOf hl]; rfl, fun i z hi hz => ?_⟩
  rw [List.getElem?_map] at hz
  obtain ⟨q, hq, rfl⟩ := Option.map_eq_some_iff.mp hz
  rw [triD_eqv]
  refine decide_eq_false fun e => ?_
  subst e
  have il : i < rs.length := by omega
  rw [List.getElem?_eq_getElem il] at hq
  have e2 := Option.some.inj hq
  have := List.not_of_lt_findIdx (p := (· == q)) (xs := rs) (i := i) (by simpa [List.idxOf] using hi)
  simp [e2] at this
theorem ok_lmade {f : Addr} {fd : FuncData} (F : Fun K "_law_made" "_law_made" s__law_made f fd) (T : Txt K mg) (hm : mg "_law_made" = some (.ref f)) (b : Binds K fd ["rows", "variable", "many", "tuples"] []) : ∀ n : Nat, FnOk P w K mg base CX0 n f fd ["rows", "variable", "many", "tuples"] (spLMade n) := by
  intro lv
  induction lv with
  | zero => exact ⟨fun _ _ _ _ h => h.elim, fun _ _ _ _ _ _ _ _ _ _ _ _ _ h => h.elim⟩
  | succ k ih =>
    have c__law_made : Cal P w K mg base k "_law_made" (spLMade k) [] := ⟨f, fd, _, _, ih, hm, F.kp, b, .nil⟩
    refine F.ok sc__law_made (fun vs H Q E h => ?_) (fun cdv A outer s H vs Q E hr h => ?_)
    · obtain ⟨_, _, _, _, _, _, _, _, rfl, _⟩ := h
      rfl
    · obtain ⟨r, t, v, m, xs, ys, ts, rs, rfl, hR, hx, ht, htr, hy, hb, hvk, htl, hrl, kk⟩ := h
      have hu65 := hu65_of hr
      have hyl := hy.length
      refine ⟨_, (pss_cons (ps_if (PW.pt (pw_or (pt_cmpR op_eq (pe_callB call_len_seq (by rfl) T.b_len boot_len' (pa_cons (pv 3) pa_nil)) pe_int (nomark _)) (pw_or1 (pt_cmpR op_eq (pv 1) (pv 2) (nomark _))))) (pss_one (ps_ret (pe_callTy call_int1 (by rfl) T.b_int boot_int' (pa_cons (pe_cmpR op_gt (pe_callB call_len_seq (by rfl) T.b_len boot_len' (pa_cons (pv 3) pa_nil)) pe_int (nomark _)) pa_nil)))) pss_nil)
      (pss_cons (ps_set (i := 4) sc__law_made.nd rfl (Or.inl rfl) (pe_c c__law_made hr (by omega) rfl (pa_cons (pv 0) (pa_cons (pe_op op_add (pv 1) pe_int) (pa_cons (pv 2) (pa_cons (pe_lc (own := [("bits", 6)]) rfl sc__law_made.nd (pi_list (pv 3)) (blkOk_by (own := [("bits", 6)]) (N := ["rows", "variable", "many", "tuples", "low", "high", "bits"]) (sc := defScope s__law_made) (by decide +kernel)) (fun _ _ _ _ _ => (pg_name (i := 6) sc__law_made.nd rfl (Or.inl rfl))) (fun _ _ _ _ _ => (pts_one (pt_cmpR op_eq (pe_ix (ix_tupK (K := K) rfl) (pv 6) (pv 1) (fun _ _ => rfl)) pe_int (nomark _)))) (fun _ _ _ _ _ => (pv 6))) pa_nil))))))
      (pss_cons (ps_set (i := 5) sc__law_made.nd rfl (Or.inl rfl) (pe_c c__law_made hr (by omega) rfl (pa_cons (pv 0) (pa_cons (pe_op op_add (pv 1) pe_int) (pa_cons (pv 2) (pa_cons (pe_lc (own := [("bits", 6)]) rfl sc__law_made.nd (pi_list (pv 3)) (blkOk_by (own := [("bits", 6)]) (N := ["rows", "variable", "many", "tuples", "low", "high", "bits"]) (sc := defScope s__law_made) (by decide +kernel)) (fun _ _ _ _ _ => (pg_name (i := 6) sc__law_made.nd rfl (Or.inl rfl))) (fun _ _ _ _ _ => (pts_one (pt_cmpR op_eq (pe_ix (ix_tupK (K := K) rfl) (pv 6) (pv 1) (fun _ _ => rfl)) pe_int (nomark _)))) (fun _ _ _ _ _ => (pv 6))) pa_nil))))))
      (pss_cons (ps_if (pt_cmpR op_eq (pv 4) (pv 5) (nomark _)) (pss_one (ps_ret (pv 4))) pss_nil)
      (pss_cut (ps_if (pt_cmpR (op_notInD hu65) (pe_tup (pa_cons (pv 1) (pa_cons (pv 4) (pa_cons (pv 5) pa_nil)))) (pv 0) rfl) (pss_one (ps_expr (pe_bm PySem.F.plainAttrs_list PySem.F.slot_list_append PySem.F.type_list_append mt_append (pv 0) (pa_cons (pe_tup (pa_cons (pv 1) (pa_cons (pv 4) (pa_cons (pv 5) pa_nil)))) pa_nil)))) pss_nil)
      (pss_one (ps_ret (pe_op op_add (pe_bm PySem.F.plainAttrs_list PySem.F.slot_list_index PySem.F.type_list_index (mt_indexD hu65) (pv 0) (pa_cons (pe_tup (pa_cons (pv 1) (pa_cons (pv 4) (pa_cons (pv 5) pa_nil)))) pa_nil)) pe_int)))))))), ?_⟩
      refine ⟨_, rfl, t, _, rfl, .inl (SqL.of ht), rfl, _, rfl, ?_⟩
      by_cases hts : ts = []
      · have e : ys = [] := by rw [hts] at hyl; exact List.eq_nil_of_length_eq_zero hyl
        have e2 : made k v ts rs = (0, rs) := by
          cases k with
          | zero => rw [made, if_pos hts]
          | succ k => rw [made, if_pos hts]
        rw [e2] at kk
        subst e
        exact iteT (iteT ⟨_, rfl, t, _, rfl, .inl (SqL.of ht), _, _, rfl, rfl, .inr ⟨_, rfl, kk H xs (fun _ _ _ h => h) hR hx⟩⟩)
      · have yl0 : 0 < ys.length := by
          rw [hyl]
          exact List.length_pos_iff.mpr hts
        rw [decide_eq_false (fun z => by have := V.int.inj z; omega)]
        refine iteF ⟨_, rfl, _, rfl, rfl, _, rfl, ?_⟩
        cases k with
        | zero =>
          have e3 : v = m := by omega
          subst e3
          have e2 : made 0 v ts rs = (1, rs) := by rw [made, if_neg hts]
          rw [e2] at kk
          rw [decide_eq_true rfl]
          refine iteT ⟨_, rfl, t, _, rfl, .inl (SqL.of ht), _, _, rfl, rfl, .inr ⟨_, rfl, ?_⟩⟩
          rw [decide_eq_true (show (0 : Int) < ((ys.length : Nat) : Int) by omega)]
          exact kk H xs (fun _ _ _ h => h) hR hx
        | succ k =>
          have hvm : v < m := by omega
          rw [decide_eq_false (fun z => by have := V.int.inj z; omega)]
          refine iteF ⟨_, rfl, _, rfl, _, _, rfl, rfl, _, rfl, ?_⟩
          refine ⟨_, rfl, t, rfl, ⟨_, SqL.of ht⟩, fun D nD => lc_rel (K := K) (a := t) (xs := ys) (as := ts) (fun H v b => TupL H v (bitV b)) (fun H v b => TupL H v (bitV b)) TupL.same TupL.same (bit v 0) id (SqL.of ht) hy nD (by omega) ?_ ?_⟩
          · intro vb b G acc R bm hvb sG hG hacc k0 k1
            obtain ⟨tb, rfl, htb⟩ := id hvb
            refine ⟨rfl, _, rfl, _, rfl, tb, _, _, _, rfl, rfl, SqT.of' (same_new hG _ _ htb), atI_nat (bitV_at (hb b bm) hvm), rfl, _, rfl, ?_⟩
            by_cases hz : b.getD v 0 = 0
            · rw [hz, decide_eq_true rfl]
              refine iteT ⟨_, rfl, _, upd_same, hacc, ?_⟩
              rw [upd_app]
              exact k1 (decide_eq_true hz) G _ (Same.refl _) hG hvb
            · rw [decide_eq_false (fun z => hz (V.int.inj z))]
              exact iteF (k0 (decide_eq_false hz) G (Same.refl _) hG)
          · intro G zs sG hG hzs
            rw [List.map_id] at hzs
            have s1 : Same H (upd G D (.lst zs)) := sG.trans (same_new hG)
            have hDr : D ≠ r := (ne_of_none hR nD).symm
            refine ⟨r, D, v + 1, m, xs, zs, ts.filter (bit v 0), rs, rfl, s1 _ _ hR, Rows.same s1 hx, upd_same, hDr, BRows.same (same_new hG) hzs, fun b hbm => hb b (List.mem_filter.mp hbm).1, by omega, by have := List.length_filter_le (bit v 0) ts; omega, by rw [Nat.pow_succ] at hrl; omega, fun H2 xs2 b2 hR2 hx2 => ?_⟩
            have bb2 : But r H H2 := (But.of s1).trans b2
            have ht2 : H2 t = some (.lst ys) := bb2 _ _ htr ht
            have hy2 : BRows H2 ys ts := Paired.mapP hy fun _ _ z => z.but (bb2.tups (by intro ys e; rw [hR] at e; cases e))
            obtain ⟨a1, rs1, e1⟩ : ∃ a1 rs1, made k (v + 1) (ts.filter (bit v 0)) rs = (a1, rs1) := ⟨_, _, rfl⟩
            have len1 := made_len k (v + 1) (ts.filter (bit v 0)) rs
            rw [e1] at hx2 len1
            refine ⟨_, rfl, _, rfl, _, _, rfl, rfl, _, rfl, ?_⟩
            refine ⟨_, rfl, t, rfl, ⟨_, SqL.of ht2⟩, fun D' nD' => lc_rel (K := K) (a := t) (xs := ys) (as := ts) (fun H v b => TupL H v (bitV b)) (fun H v b => TupL H v (bitV b)) TupL.same TupL.same (bit v 1) id (SqL.of ht2) hy2 nD' (by omega) ?_ ?_⟩
            · intro vb b G acc R bm hvb sG hG hacc k0 k1
              obtain ⟨tb, rfl, htb⟩ := id hvb
              refine ⟨rfl, _, rfl, _, rfl, tb, _, _, _, rfl, rfl, SqT.of' (same_new hG _ _ htb), atI_nat (bitV_at (hb b bm) hvm), rfl, _, rfl, ?_⟩
              by_cases hz : b.getD v 0 = 1
              · rw [hz, decide_eq_true rfl]
                refine iteT ⟨_, rfl, _, upd_same, hacc, ?_⟩
                rw [upd_app]
                exact k1 (decide_eq_true hz) G _ (Same.refl _) hG hvb
              · rw [decide_eq_false (fun z => hz (V.int.inj z))]
                exact iteF (k0 (decide_eq_false hz) G (Same.refl _) hG)
            · intro G' zs' sG' hG' hzs'
              rw [List.map_id] at hzs'
              have s2 : Same H2 (upd G' D' (.lst zs')) := sG'.trans (same_new hG')
              have hDr' : D' ≠ r := (ne_of_none hR2 nD').symm
              refine ⟨r, D', v + 1, m, xs2, zs', ts.filter (bit v 1), rs1, rfl, s2 _ _ hR2, Rows.same s2 hx2, upd_same, hDr', BRows.same (same_new hG') hzs', fun b hbm => hb b (List.mem_filter.mp hbm).1, by omega, by have := List.length_filter_le (bit v 1) ts; omega, by rw [Nat.pow_succ] at hrl; simp only at len1; omega, fun H3 xs3 b3 hR3 hx3 => ?_⟩
              have bb3 : But r H H3 := bb2.trans ((But.of s2).trans b3)
              obtain ⟨a2, rs2, e2⟩ : ∃ a2 rs2, made k (v + 1) (ts.filter (bit v 1)) rs1 = (a2, rs2) := ⟨_, _, rfl⟩
              have len2 := made_len k (v + 1) (ts.filter (bit v 1)) rs1
              rw [e2] at hx3 len2
              rw [made_succ hts e1 e2] at kk
              rw [e2]
              rw [e1]
              simp only at hx3 hx2 len1 len2
              have len3 : rs2.length < 10000 := by
                have := Nat.pow_succ 2 k
                omega
              have hx3l := hx3.length
              refine ⟨_, rfl, _, rfl, rfl, _, rfl, ?_⟩
              by_cases ea : a1 = a2
              · rw [if_pos ea] at kk
                rw [ea, decide_eq_true rfl]
                rw [ea] at kk
                exact iteT ⟨_, rfl, kk H3 xs3 bb3 hR3 hx3⟩
              · rw [if_neg ea] at kk
                rw [decide_eq_false (fun z => ea (V.int.inj z))]
                refine iteF ⟨fun σ' H' => σ' = [some (.ref r), some (.int v), some (.int m), some (.ref t), some (.int a1), some (.int a2), none] ∧ But r H H' ∧
                  ∃ xs' rs', H' r = some (.lst xs') ∧ Rows H' xs' rs' ∧ rs'.length ≤ 10000 ∧ ((v : Int), a1, a2) ∈ rs' ∧ (if ((v : Int), a1, a2) ∈ rs2 then (((rs2.idxOf ((v : Int), a1, a2) : Nat) : Int) + 2, rs2) else (((rs2.length : Nat) : Int) + 2, rs2 ++ [((v : Int), a1, a2)])) = (((rs'.idxOf ((v : Int), a1, a2) : Nat) : Int) + 2, rs'), ?_, ?_⟩
                · refine ⟨_, rfl, _, rfl, _, rfl, (show 3 ≤ sizeLine by decide), fun q nq => ?_⟩
                  have s4 := same_new (o := HO.tup [V.int v, V.int a1, V.int a2]) nq
                  refine ⟨_, rfl, triD ((v : Int), a1, a2), rs2.map triD, tri_dp ⟨q, rfl, upd_same⟩, .lst (SqL.of (s4 _ _ hR3)) (rows_dp (Rows.same s4 hx3)), shaped_flat (triD_flat _) (by decide), tris_shaped _, _, rfl, ?_⟩
                  rw [any_tri]
                  by_cases hm : ((v : Int), a1, a2) ∈ rs2
                  · rw [show decide (((v : Int), a1, a2) ∈ rs2) = true from decide_eq_true hm]
                    exact iteF ⟨rfl, bb3.trans (But.of s4), xs3, rs2, s4 _ _ hR3, Rows.same s4 hx3, by omega, hm, by rw [if_pos hm]⟩
                  · rw [show decide (((v : Int), a1, a2) ∈ rs2) = false from decide_eq_false hm]
                    refine iteT ⟨_, rfl, .inl ⟨rfl, _, SqL.of (s4 _ _ hR3)⟩, _, rfl, _, rfl, _, rfl, (show 3 ≤ sizeLine by decide), fun q2 nq2 => ?_⟩
                    have s5 := s4.trans (same_new (o := HO.tup [V.int v, V.int a1, V.int a2]) nq2)
                    have hq2r : q2 ≠ r := (ne_of_none (s4 _ _ hR3) nq2).symm
                    refine ⟨r, _, _, rfl, rfl, s5 _ _ hR3, small1000' (by omega), ?_⟩
                    have bf := bb3.trans ((But.of s5).trans (but_upd (p := r) (o := HO.lst (xs3 ++ [V.ref q2]))))
                    have tf : ∀ b ws, H3 b = some (.tup ws) → upd (upd (upd H3 q (.tup [V.int v, V.int a1, V.int a2])) q2 (.tup [V.int v, V.int a1, V.int a2])) r (.lst (xs3 ++ [V.ref q2])) b = some (.tup ws) := fun b ws e => by
                      rw [upd_ne (by rintro rfl; rw [hR3] at e; cases e)]
                      exact s5 _ _ e
                    refine ⟨rfl, bf, xs3 ++ [V.ref q2], rs2 ++ [((v : Int), a1, a2)], upd_same, Paired.snoc (Paired.mapP hx3 fun _ _ z => z.but tf) ⟨q2, rfl, by rw [upd_ne hq2r, upd_same]; rfl⟩, by rw [List.length_append, List.length_singleton]; omega, by simp, ?_⟩
                    rw [if_neg hm]
                    have : (rs2 ++ [((v : Int), a1, a2)]).idxOf ((v : Int), a1, a2) = rs2.length := by
                      rw [List.idxOf_append, if_neg hm, List.idxOf_cons_self]
                      omega
                    rw [this]
                · rintro σ' H' ⟨rfl, bb5, xs', rs', hR5, hx5, hl5, hm5, e5⟩
                  rw [e5] at kk
                  refine ⟨_, rfl, .inl ⟨rfl, _, SqL.of hR5⟩, _, rfl, _, rfl, _, rfl, (show 3 ≤ sizeLine by decide), fun q nq => ?_⟩
                  have s6 := same_new (o := HO.tup [V.int v, V.int a1, V.int a2]) nq
                  obtain ⟨i1, i2⟩ := idx_tri hm5
                  refine ⟨r, _, triD ((v : Int), a1, a2), rs'.map triD, rs'.idxOf ((v : Int), a1, a2), _, rfl, rfl, .lst (SqL.of (s6 _ _ hR5)) (rows_dp (Rows.same s6 hx5)), tri_dp ⟨q, rfl, upd_same⟩, tris_shaped _, shaped_flat (triD_flat _) (by decide), i1, by rw [triD_eqv]; exact decide_eq_true rfl, i2, ?_⟩
                  exact ⟨_, _, rfl, rfl, kk _ xs' (bb5.trans (But.of s6)) (s6 _ _ hR5) (Rows.same s6 hx5)⟩

/-- any depth up to a bound -/
theorem fn_ex {P : Program} {w : World} {K : PySem.W.Frag} {mg : Str → Option Value} {base : Heap} {f : Addr} {fd : FuncData} {ps : List Str} {sp : Nat → Sp} {N : Nat} (h : ∀ n, FnOk P w K mg base CX0 n f fd ps (sp n)) : FnOk P w K mg base CX0 N f fd ps (fun vs H Q E => ∃ n, n ≤ N ∧ sp n vs H Q E) :=
  ⟨fun vs H Q E ⟨n, _, q⟩ => (h n).len vs H Q E q, fun A outer s H args us vs Q E hr e0 hb hv ⟨n, hn, q⟩ => (h n).run A outer s H args us vs Q E (hr.mono hn) e0 hb hv q⟩
/-! ### diagram_of -/
def spDiag (K : PySem.W.Frag) : Sp := fun vs H Q _ => ∃ (t : Addr) (m : Nat) (ys : List V) (ts : List (List Int)), vs = [.ref t, .int m] ∧ H t = some (.lst ys) ∧ BRows H ys ts ∧ (∀ b ∈ ts, Bits m b) ∧ m ≤ 6 ∧ ts.length ≤ 1000 ∧
  ∀ (H' : Hp) (a l : Addr) (xs : List V), Same H H' → H a = none → H l = none → H' a = some (.tup [.ref l, .int (made m 0 ts []).1]) → H' l = some (.lst xs) → Rows H' xs (made m 0 ts []).2 → Q (.ref a) H'
theorem ok_diag {f C : Addr} {fd : FuncData} (F : Fun K "diagram_of" "diagram_of" s_diagram_of f fd) (T : Txt K mg) (M : MkT K C) (c_Maker : Mak P w K mg base 1 "Maker" C (spInit C) []) (hmet : ∀ n, Met P w K mg base n C "made" (spMade C n) []) : FnOk P w K mg base CX0 9 f fd ["tuples", "many"] (spDiag K) := by
  refine F.ok sc_diagram_of (fun vs H Q E h => ?_) (fun cdv A outer s H vs Q E hr h => ?_)
  · obtain ⟨_, _, _, _, rfl, _⟩ := h
    rfl
  · obtain ⟨t, m, ys, ts, rfl, ht, hy, hb, hm, htl, kk⟩ := h
    have c_m_made := hmet (m + 1)
    refine ⟨_, (pss_cons (ps_set (i := 2) sc_diagram_of.nd rfl (Or.inl rfl) (pe_mk c_Maker hr (by omega) rfl (pa_cons (pv 1) pa_nil)))
      (pss_cons (ps_set (i := 3) sc_diagram_of.nd rfl (Or.inl rfl) (pe_mt c_m_made hr (by omega) (pv 2) (pa_cons pe_int (pa_cons (pe_lc (own := [("bits", 4)]) rfl sc_diagram_of.nd (pi_list (pv 0)) (blkOk_by (own := [("bits", 4)]) (N := ["tuples", "many", "maker", "root", "bits"]) (sc := defScope s_diagram_of) (by decide +kernel)) (fun _ _ _ _ _ => (pg_name (i := 4) sc_diagram_of.nd rfl (Or.inl rfl))) (fun _ _ _ _ _ => pts_nil) (fun _ _ _ _ _ => (pe_callTy (call_tupleTK (K := K) rfl) (by rfl) T.b_tuple boot_tuple' (pa_cons (pv 4) pa_nil)))) pa_nil))))
      (pss_one (ps_ret (pe_tup (pa_cons (pe_fld (pv 2) rfl) (pa_cons (pv 3) pa_nil))))))), ?_⟩
    refine ⟨_, rfl, fun x dx x0 dx0 hne => ⟨x, dx, m, rfl, upd_same, fun H1 r n b1 r0 n0 hx hr' hn => ⟨rfl, ?_⟩⟩⟩
    have xr : r ≠ x := (upd_none r0).1
    have r0' : H r = none := (upd_none (upd_none r0).2).2
    have s1 : Same H H1 := fun b o e => b1 b o (ne_of_none e x0) (by rw [upd_ne (ne_of_none e x0), upd_ne (ne_of_none e dx0)]; exact e)
    have hM1 : MakerAt H1 C x dx r n m [] := ⟨hx, ⟨[], hr', .nil⟩, hn⟩
    -- root = maker.made(0, [tuple(bits) for bits in tuples])
    refine ⟨_, rfl, x, dx, _, rfl, hx, mkF_made _ _ _, _, rfl, t, rfl, ⟨_, SqL.of (s1 _ _ ht)⟩, fun D nD => lc_rel (K := K) (a := t) (xs := ys) (as := ts) (fun H v b => TupL H v (bitV b)) (fun H v b => TupL H v (bitV b)) TupL.same TupL.same (fun _ => true) id (SqL.of (s1 _ _ ht)) (BRows.same s1 hy) nD (by omega) ?_ ?_⟩
    · intro vb b G acc R bm hvb sG hG hacc k0 k1
      obtain ⟨tb, rfl, htb⟩ := id hvb
      refine ⟨rfl, _, rfl, tb, _, rfl, SqT.of' (same_new hG _ _ htb), _, upd_same, hacc, ?_⟩
      rw [upd_app]
      exact k1 rfl G _ (Same.refl _) hG hvb
    · intro G zs sG hG hzs
      rw [List.map_id, List.filter_eq_self.mpr fun _ _ => rfl] at hzs
      have s2 : Same H1 (upd G D (.lst zs)) := sG.trans (same_new hG)
      have hDr : D ≠ r := (ne_of_none hr' nD).symm
      have p6 : 2 ^ m ≤ 64 := Nat.pow_le_pow_right (n := 2) (by decide) hm
      refine ⟨x, dx, r, n, D, 0, m, zs, ts, [], rfl, hM1.same s2, upd_same, hDr, BRows.same (same_new hG) hzs, hb, by omega, by omega, by simp only [List.length_nil]; omega, fun H2 b2 hM2 => ?_⟩
      obtain ⟨xs2, hr2, hrow2⟩ := hM2.rows
      have n0' : H n = none := (upd_none (upd_none n0).2).2
      have s3 : Same H H2 := fun b o e => b2 b o (ne_of_none e r0') (ne_of_none e n0') (s2 _ _ (s1 _ _ e))
      refine ⟨_, rfl, x, C, dx, _, _, rfl, hM2.ins, M.cl, M.nR, mkF_rows _ _ _, _, rfl, (show 2 ≤ sizeLine by decide), fun a na => ?_⟩
      have s4 := same_new (o := HO.tup [V.ref r, V.int (made m 0 ts []).1]) na
      exact kk _ a r xs2 (s3.trans s4) (s3.free na) r0' upd_same (s4 _ _ hr2) (Rows.same s4 hrow2)
end
end Q43



namespace Q43
open PySem L2 G M43
open C8 (Cal Met Mak pe_c pe_mk pe_mt pe_mt0 pe_gc pss_cut tCut)
section
variable {P : Program} {w : World} {K : PySem.W.Frag} {mg : Str → Option Value} {base : Heap}
/-! ### the law -/
def bitD (b : List Int) : PyData := .tuple (b.map PyData.int)
theorem brows_dp {H : Hp} : ∀ {xs : List V} {bs : List (List Int)}, BRows H xs bs → DpAll K H xs (bs.map bitD)
  | _, _, .nil => .nil
  | _, _, .cons h t => by
    obtain ⟨a, rfl, ha⟩ := h
    exact .cons (.tup (SqT.of' ha) (dps_ints _)) (brows_dp t)
theorem bitD_flat (b : List Int) : flat 1 (bitD b) = true := by simp [bitD, flat, flats_ints]
theorem bits_shaped (bs : List (List Int)) : SeqAt.shaped (.list (bs.map bitD)) = true := shaped_flat (n := 2) (by simp only [flat]; exact flats_map bitD_flat bs) (by decide)
/-- what the law has made ahead of its loop -/
structure Setup (H : Hp) (a ev he ta l : Addr) (m : Nat) (held : List (List Int)) : Prop where
  deck : Deck H a
  sub : held.Sublist (allB m)
  small : m ≤ 6
  eve : ∃ xs, H ev = some (.lst xs) ∧ BRows H xs (allB m)
  hel : ∃ xs, H he = some (.lst xs) ∧ BRows H xs held
  told : H ta = some (.tup [.ref l, .int (made m 0 held []).1])
  rows : ∃ xs, H l = some (.lst xs) ∧ Rows H xs (made m 0 held []).2
  n1 : ev ≠ a
  n2 : he ≠ a
  n4 : l ≠ a
theorem Deck.tups {H H' : Hp} {a : Addr} (hd : Deck H a) (b : But a H H') : ∀ c ys, H c = some (.tup ys) → H' c = some (.tup ys) := b.tups fun ys e => by
  obtain ⟨ds, _, q⟩ := hd
  rw [q] at e
  cases e
theorem BRows.tups {H H' : Hp} {xs : List V} {bs : List (List Int)} (h : BRows H xs bs) (s : ∀ c ys, H c = some (.tup ys) → H' c = some (.tup ys)) : BRows H' xs bs := Paired.mapP h fun _ _ z => z.but s
theorem Rows.tups {H H' : Hp} {xs : List V} {bs : List Tri} (h : Rows H xs bs) (s : ∀ c ys, H c = some (.tup ys) → H' c = some (.tup ys)) : Rows H' xs bs := Paired.mapP h fun _ _ z => z.but s
theorem Setup.but {H H' : Hp} {a ev he ta l : Addr} {m : Nat} {held : List (List Int)} (h : Setup H a ev he ta l m held) (b : But a H H') (d : Deck H' a) : Setup H' a ev he ta l m held := by
  have t := Deck.tups h.deck b
  obtain ⟨x1, e1, r1⟩ := h.eve
  obtain ⟨x2, e2, r2⟩ := h.hel
  obtain ⟨x3, e3, r3⟩ := h.rows
  exact ⟨d, h.sub, h.small, ⟨x1, b _ _ h.n1 e1, r1.tups t⟩, ⟨x2, b _ _ h.n2 e2, r2.tups t⟩, t _ _ h.told, ⟨x3, b _ _ h.n4 e3, Rows.tups r3 t⟩, h.n1, h.n2, h.n4⟩
theorem Setup.same {H H' : Hp} {a ev he ta l : Addr} {m : Nat} {held : List (List Int)} (h : Setup H a ev he ta l m held) (s : Same H H') : Setup H' a ev he ta l m held := h.but (But.of s) (h.deck.same s)
theorem Setup.put {H H' : Hp} {a ev he ta l b : Addr} {m : Nat} {held : List (List Int)} {zs : List V} (h : Setup H a ev he ta l m held) (k : ∀ c o, c ≠ b → H c = some o → H' c = some o) (hb : H b = some (.lst zs)) (n1 : b ≠ ev) (n2 : b ≠ he) (n3 : b ≠ l) (n4 : b ≠ a) : Setup H' a ev he ta l m held := by
  have t : ∀ c ys, H c = some (.tup ys) → H' c = some (.tup ys) := fun c ys e => k c _ (by rintro rfl; rw [hb] at e; cases e) e
  obtain ⟨x1, e1, r1⟩ := h.eve
  obtain ⟨x2, e2, r2⟩ := h.hel
  obtain ⟨x3, e3, r3⟩ := h.rows
  obtain ⟨ds, hl, hd⟩ := h.deck
  exact ⟨⟨ds, hl, k _ _ n4.symm hd⟩, h.sub, h.small, ⟨x1, k _ _ n1.symm e1, r1.tups t⟩, ⟨x2, k _ _ n2.symm e2, r2.tups t⟩, t _ _ h.told, ⟨x3, k _ _ n3.symm e3, Rows.tups r3 t⟩, h.n1, h.n2, h.n4⟩
theorem Setup.bits {H : Hp} {a ev he ta l : Addr} {m : Nat} {held : List (List Int)} (h : Setup H a ev he ta l m held) : ∀ b ∈ held, Bits m b := fun b hb => allP_bits (by rw [← allB_eq]; exact h.sub.subset hb)
/-- no diagram: what check_diagram refuses -/
def Bad (K : PySem.W.Frag) (m : Int) (H : Hp) (v : V) : Prop := (∃ z, v = .int z) ∨ ∃ (a l : Addr) (xs : List V) (ds : List PyData) (rt : V) (rd : PyData), v = .ref a ∧ SqT K H a [.ref l, rt] ∧ SqL K H l xs ∧ DRows K H xs ds ∧ ds.length ≤ 10000 ∧ Dp K H rt rd ∧ (rd = .none ∨ ∃ z, rd = .int z) ∧ checkD m ds rd = false
theorem Bad.same {m : Int} {H H' : Hp} {v : V} (s : Same H H') (h : Bad K m H v) : Bad K m H' v := by
  rcases h with h | ⟨a, l, xs, ds, rt, rd, e, h1, h2, h3, h4, h5, h6, h7⟩
  · exact .inl h
  · exact .inr ⟨a, l, xs, ds, rt, rd, e, Same.tup s h1, s.seq h2, h3.same s, h4, dp_same s h5, h6, h7⟩
theorem bad_step {m : Int} {G : Hp} {D : Addr} {acc : List V} {v : V} {Q : VK} {E : XK} (hb : Bad K m (upd G D (.lst acc)) v) (hD : G D = none) (k : ∀ G', Same G G' → G' D = none → Q (.bl false) (upd G' D (.lst acc))) : spCheck K [v, .int m] (upd G D (.lst acc)) Q E := by
  have fin : ∀ H', Same (upd G D (.lst acc)) H' → Q (.bl false) H' := fun H' s => by
    rw [split_at (s D _ upd_same)]
    exact k _ (same_del hD s) (del1_at _ _)
  refine ⟨v, m, rfl, ?_⟩
  rcases hb with ⟨z, rfl⟩ | ⟨a, l, xs, ds, rt, rd, e, h1, h2, h3, h4, h5, h6, h7⟩
  · exact .inl ⟨z, rfl, fin⟩
  · refine .inr ⟨a, l, xs, ds, rt, rd, e, h1, h2, h3, h4, h5, h6, ?_⟩
    rw [h7]
    exact fin
theorem falses : ∀ {ys : List V} {us : List Unit}, Paired (fun v _ => v = V.bl false) ys us → ys = us.map fun _ => V.bl false
  | _, _, .nil => rfl
  | _, _, .cons h t => by
    rw [h, falses t]
    rfl
def spLaw (K : PySem.W.Frag) : Sp := fun vs H Q _ => ∃ (a : Addr) (ns : List Int), vs = [.ref a] ∧ SqL K H a (ns.map V.int) ∧ ns.length ≤ 63 ∧ ∀ H', Q (.bl true) H'
structure Cals (P : Program) (w : World) (K : PySem.W.Frag) (mg : Str → Option Value) (base : Heap) : Prop where
  deck : Cal P w K mg base 1 "_law_deck" (spDeck K) []
  take : Cal P w K mg base 1 "_law_take" spTake []
  plain : ∀ n, Cal P w K mg base n "_law_plain" (spPlain K n) []
  tuples : Cal P w K mg base 1 "_law_tuples" spTuples []
  foll : Cal P w K mg base 1 "_law_followed" (spFoll K) []
  right : Cal P w K mg base 1 "_law_diagram_right" (spRight K) []
  lmade : Cal P w K mg base 7 "_law_made" (fun vs H Q E => ∃ n, n ≤ 7 ∧ spLMade n vs H Q E) []
  diag : Cal P w K mg base 9 "diagram_of" (spDiag K) []
  check : Cal P w K mg base 3 "check_diagram" (spCheck K) []
  holds : Cal P w K mg base 1 "holds" (spHolds K) []
  count : Cal P w K mg base 1 "count_held" (spCount K) []
theorem ok_law {f : Addr} {fd : FuncData} (F : Fun K "law" "law" s_law f fd) (T : Txt K mg) (c : Cals P w K mg base) : FnOk P w K mg base CX0 10 f fd ["script"] (spLaw K) := by
  refine F.ok sc_law (fun vs H Q E h => ?_) (fun cdv A outer s H vs Q E hr h => ?_)
  · obtain ⟨_, _, rfl, _⟩ := h
    rfl
  · obtain ⟨sc, ns, rfl, hS, hns, kk⟩ := h
    have hu := hu_of hr
    have hu65 := hu65_of hr
    have c__law_deck := c.deck
    have c__law_take := c.take
    have c__law_plain := c.plain 4
    have c__law_tuples := c.tuples
    have c__law_followed := c.foll
    have c__law_diagram_right := c.right
    have c_diagram_of := c.diag
    have c_check_diagram := c.check
    have c_holds := c.holds
    have c_count_held := c.count
    have c__law_made := c.lmade
    refine ⟨_, (pss_cons (ps_set (i := 1) sc_law.nd rfl (Or.inr rfl) (pe_c c__law_deck hr (by omega) rfl (pa_cons (pv 0) (pa_cons pe_int (pa_cons pe_int pa_nil)))))
      (pss_cons (ps_set (i := 2) sc_law.nd rfl (Or.inr rfl) (pe_c c__law_take hr (by omega) rfl (pa_cons (pv 1) (pa_cons pe_int pa_nil))))
      (pss_cons (ps_set (i := 3) sc_law.nd rfl (Or.inl rfl) (pe_c c__law_tuples hr (by omega) rfl (pa_cons (pv 2) pa_nil)))
      (pss_cons (ps_set (i := 4) sc_law.nd rfl (Or.inr rfl) (pe_op op_add pe_int (pe_c c__law_take hr (by omega) rfl (pa_cons (pv 1) (pa_cons pe_int pa_nil)))))
      (pss_cons (ps_setLc (i := 5) (own := [("bits", 18)]) rfl sc_law.nd rfl rfl (sw_true rfl rfl rfl (by decide +kernel)) (pi_list (pv 3)) (blkOk_by (own := [("bits", 18)]) (N := ["script", "deck", "many", "every", "share", "held", "drawn", "told", "rows", "root", "due", "end", "turn", "bent", "place", "way", "other", "good", "bits", "row", "thing"]) (sc := defScope s_law) (by decide +kernel)) (fun _ _ _ _ _ => (pg_name (i := 18) sc_law.nd rfl (Or.inl rfl))) (fun _ _ _ _ _ => (pts_one (pt_cmpR op_gt (pe_c c__law_take hr (by omega) rfl (pa_cons (pv 1) (pa_cons (pe_op op_add (pv 4) pe_int) pa_nil))) pe_int (nomark _)))) (fun _ _ _ _ _ => (pv 18)))
      (pss_cut (ps_set (i := 6) sc_law.nd rfl (Or.inl rfl) (pe_ifExp (pt_cmpR op_eq (pe_c c__law_take hr (by omega) rfl (pa_cons (pv 1) (pa_cons pe_int pa_nil))) pe_int (nomark _)) (pe_revL (pv 5)) (pv 5)))
      (pss_cons (ps_set (i := 7) sc_law.nd rfl (Or.inr rfl) (pe_c c_diagram_of hr (by omega) rfl (pa_cons (pv 6) (pa_cons (pv 2) pa_nil))))
      (pss_cons (ps_asg (pv 7) (pg_tup rfl (pgs_cons (pg_name (i := 8) sc_law.nd rfl (Or.inl rfl)) (pgs_cons (pg_name (i := 9) sc_law.nd rfl (Or.inl rfl)) pgs_nil))))
      (pss_cons (ps_set (i := 10) sc_law.nd rfl (Or.inl rfl) (pe_lst pa_nil))
      (pss_cons (ps_set (i := 11) sc_law.nd rfl (Or.inl rfl) (pe_c c__law_made hr (by omega) rfl (pa_cons (pv 10) (pa_cons pe_int (pa_cons (pv 2) (pa_cons (pv 5) pa_nil))))))
      (pss_cons (ps_if (PW.pt (pw_or (pt_cmpR (op_neD hr.units) (pe_c c__law_plain hr (by omega) rfl (pa_cons (pe_tup (pa_cons (pe_callTy call_list_of (by rfl) T.b_list boot_list' (pa_cons (pv 8) pa_nil)) (pa_cons (pv 9) pa_nil))) pa_nil)) (pe_c c__law_plain hr (by omega) rfl (pa_cons (pe_tup (pa_cons (pv 10) (pa_cons (pv 11) pa_nil))) pa_nil)) (nomark _)) (pw_or1 (pt_cmpR op_notX (pe_c c_check_diagram hr (by omega) rfl (pa_cons (pv 7) (pa_cons (pv 2) pa_nil))) pe_bl (nomark _))))) (pss_one (ps_ret pe_bl)) pss_nil)
      (pss_cons (ps_if (PW.pt (pw_or (pt_cmpR (op_neD hr.units) (pe_lc (own := [("bits", 18)]) rfl sc_law.nd (pi_list (pv 3)) (blkOk_by (own := [("bits", 18)]) (N := ["script", "deck", "many", "every", "share", "held", "drawn", "told", "rows", "root", "due", "end", "turn", "bent", "place", "way", "other", "good", "bits", "row", "thing"]) (sc := defScope s_law) (by decide +kernel)) (fun _ _ _ _ _ => (pg_name (i := 18) sc_law.nd rfl (Or.inl rfl))) (fun _ _ _ _ _ => (pts_one (pt_val (pe_c c_holds hr (by omega) rfl (pa_cons (pv 7) (pa_cons (pv 18) pa_nil)))))) (fun _ _ _ _ _ => (pv 18))) (pv 5) (nomark _)) (pw_or1 (pt_cmpR op_ne (pe_c c_count_held hr (by omega) rfl (pa_cons (pv 7) (pa_cons (pv 2) pa_nil))) (pe_callB call_len_seq (by rfl) T.b_len boot_len' (pa_cons (pv 5) pa_nil)) (nomark _))))) (pss_one (ps_ret pe_bl)) pss_nil)
      (pss_cons (ps_if (PW.pt (pw_or (pt_not (pt_val (pe_c c__law_diagram_right hr (by omega) rfl (pa_cons (pv 10) (pa_cons (pv 11) (pa_cons (pv 2) pa_nil)))))) (pw_or (pt_cmpR (op_neD hr.units) (pe_c c_diagram_of hr (by omega) rfl (pa_cons (pe_lst pa_nil) (pa_cons (pv 2) pa_nil))) (pe_tup (pa_cons (pe_lst pa_nil) (pa_cons pe_int pa_nil))) (nomark _)) (pw_or1 (pt_cmpR (op_neD hr.units) (pe_c c_diagram_of hr (by omega) rfl (pa_cons (pe_lst (pa_cons (pe_tup pa_nil) pa_nil)) (pa_cons pe_int pa_nil))) (pe_tup (pa_cons (pe_lst pa_nil) (pa_cons pe_int pa_nil))) (nomark _)))))) (pss_one (ps_ret pe_bl)) pss_nil)
      (pss_cons (ps_for PassesOwn.never rfl (pi_range1 (by rfl) T.b_range (pa_cons pe_int pa_nil)) (pg_name (i := 12) sc_law.nd rfl (Or.inl rfl)) (pss_cons (ps_set (i := 13) sc_law.nd rfl (Or.inr rfl) (pe_lc (own := [("row", 19)]) rfl sc_law.nd (pi_list (pv 8)) (blkOk_by (own := [("row", 19)]) (N := ["script", "deck", "many", "every", "share", "held", "drawn", "told", "rows", "root", "due", "end", "turn", "bent", "place", "way", "other", "good", "bits", "row", "thing"]) (sc := defScope s_law) (by decide +kernel)) (fun _ _ _ _ _ => (pg_name (i := 19) sc_law.nd rfl (Or.inl rfl))) (fun _ _ _ _ _ => pts_nil) (fun _ _ _ _ _ => (pe_callTy (call_tupleTK (K := K) rfl) (by rfl) T.b_tuple boot_tuple' (pa_cons (pv 19) pa_nil)))))
      (pss_cons (ps_set (i := 14) sc_law.nd rfl (Or.inl rfl) (pe_c c__law_take hr (by omega) rfl (pa_cons (pv 1) (pa_cons (pe_callB (call_max2 rfl) (by rfl) T.b_max boot_max' (pa_cons pe_int (pa_cons (pe_callB call_len_seq (by rfl) T.b_len boot_len' (pa_cons (pv 13) pa_nil)) pa_nil))) pa_nil))))
      (pss_cons (ps_set (i := 15) sc_law.nd rfl (Or.inl rfl) (pe_c c__law_take hr (by omega) rfl (pa_cons (pv 1) (pa_cons pe_int pa_nil))))
      (pss_cons (ps_set (i := 16) sc_law.nd rfl (Or.inr rfl) (pv 9))
      (pss_cut (ps_if (PW.pt (pw_or (pt_cmpR op_eq (pv 15) pe_int (nomark _)) (pw_or1 (pt_cmpR op_eq (pe_callB call_len_seq (by rfl) T.b_len boot_len' (pa_cons (pv 13) pa_nil)) pe_int (nomark _))))) (pss_one (ps_set (i := 16) sc_law.nd rfl (Or.inr rfl) (pe_op op_sub (pe_c c__law_take hr (by omega) rfl (pa_cons (pv 1) (pa_cons (pe_op op_add (pe_callB call_len_seq (by rfl) T.b_len boot_len' (pa_cons (pv 13) pa_nil)) pe_int) pa_nil))) pe_int))) (pss_one (ps_if (pt_cmpR op_eq (pv 15) pe_int (nomark _)) (pss_one (ps_set (i := 13) sc_law.nd rfl (Or.inr rfl) (pe_op op_cat (pe_op op_cat (pe_slice sl_list (pv 13) po_none (po_some (pv 14))) (pe_lst (pa_cons (pe_ix ix_list (pv 13) (pv 14) (fun _ _ => rfl)) pa_nil))) (pe_slice sl_list (pv 13) (po_some (pv 14)) po_none)))) (pss_one (ps_if (pt_cmpR op_eq (pv 15) pe_int (nomark _)) (pss_one (ps_asg (pe_tup (pa_cons (pe_ix ix_tup (pe_ix ix_list (pv 13) (pv 14) (fun _ _ => rfl)) pe_int (fun _ _ => rfl)) (pa_cons (pe_ix ix_tup (pe_ix ix_list (pv 13) (pv 14) (fun _ _ => rfl)) pe_int (fun _ _ => rfl)) (pa_cons (pe_ix ix_tup (pe_ix ix_list (pv 13) (pv 14) (fun _ _ => rfl)) pe_int (fun _ _ => rfl)) pa_nil)))) (pg_sub (pv 13) (pv 14) set_list))) (pss_one (ps_if (pt_cmpR op_eq (pv 15) pe_int (nomark _)) (pss_one (ps_asg (pe_op op_catA (pe_tup (pa_cons (pe_op op_sub (pe_c c__law_take hr (by omega) rfl (pa_cons (pv 1) (pa_cons (pe_op op_add (pv 2) pe_int) pa_nil))) pe_int) pa_nil)) (pe_slice sl_tupA (pe_ix ix_list (pv 13) (pv 14) (fun _ _ => rfl)) (po_some pe_int) po_none)) (pg_sub (pv 13) (pv 14) set_list))) (pss_one (ps_if (pt_cmpR op_eq (pv 15) pe_int (nomark _)) (pss_one (ps_asg (pe_op op_catA (pe_slice sl_tupA (pe_ix ix_list (pv 13) (pv 14) (fun _ _ => rfl)) po_none (po_some pe_int)) (pe_tup (pa_cons (pe_c c__law_take hr (by omega) rfl (pa_cons (pv 1) (pa_cons (pe_op op_add (pe_callB call_len_seq (by rfl) T.b_len boot_len' (pa_cons (pv 13) pa_nil)) pe_int) pa_nil))) (pa_cons (pe_ix ix_tup (pe_ix ix_list (pv 13) (pv 14) (fun _ _ => rfl)) pe_int (fun _ _ => rfl)) pa_nil)))) (pg_sub (pv 13) (pv 14) set_list))) (pss_one (ps_set (i := 13) sc_law.nd rfl (Or.inr rfl) (pe_op op_cat (pe_slice sl_list (pv 13) po_none (po_some (pv 14))) (pe_slice sl_list (pv 13) (po_some (pe_op op_add (pv 14) pe_int)) po_none)))))))))))))
      (pss_cons (ps_set (i := 17) sc_law.nd rfl (Or.inl rfl) (pe_c c__law_diagram_right hr (by omega) rfl (pa_cons (pv 13) (pa_cons (pv 16) (pa_cons (pv 2) pa_nil)))))
      (pss_cons (ps_if (pt_cmpR op_ne (pe_c c_check_diagram hr (by omega) rfl (pa_cons (pe_tup (pa_cons (pv 13) (pa_cons (pv 16) pa_nil))) (pa_cons (pv 2) pa_nil))) (pv 17) (nomark _)) (pss_one (ps_ret pe_bl)) pss_nil)
      (pss_one (ps_if (pt_val (pv 17)) (pss_cons (ps_setLc (i := 10) (own := [("bits", 18)]) rfl sc_law.nd rfl rfl (sw_true rfl rfl rfl (by decide +kernel)) (pi_list (pv 3)) (blkOk_by (own := [("bits", 18)]) (N := ["script", "deck", "many", "every", "share", "held", "drawn", "told", "rows", "root", "due", "end", "turn", "bent", "place", "way", "other", "good", "bits", "row", "thing"]) (sc := defScope s_law) (by decide +kernel)) (fun _ _ _ _ _ => (pg_name (i := 18) sc_law.nd rfl (Or.inl rfl))) (fun _ _ _ _ _ => (pts_one (pt_val (pe_c c__law_followed hr (by omega) rfl (pa_cons (pv 13) (pa_cons (pv 16) (pa_cons (pv 18) pa_nil))))))) (fun _ _ _ _ _ => (pv 18)))
      (pss_one (ps_if (PW.pt (pw_or (pt_cmpR (op_neD hr.units) (pe_lc (own := [("bits", 18)]) rfl sc_law.nd (pi_list (pv 3)) (blkOk_by (own := [("bits", 18)]) (N := ["script", "deck", "many", "every", "share", "held", "drawn", "told", "rows", "root", "due", "end", "turn", "bent", "place", "way", "other", "good", "bits", "row", "thing"]) (sc := defScope s_law) (by decide +kernel)) (fun _ _ _ _ _ => (pg_name (i := 18) sc_law.nd rfl (Or.inl rfl))) (fun _ _ _ _ _ => (pts_one (pt_val (pe_c c_holds hr (by omega) rfl (pa_cons (pe_tup (pa_cons (pv 13) (pa_cons (pv 16) pa_nil))) (pa_cons (pv 18) pa_nil)))))) (fun _ _ _ _ _ => (pv 18))) (pv 10) (nomark _)) (pw_or1 (pt_cmpR op_ne (pe_c c_count_held hr (by omega) rfl (pa_cons (pe_tup (pa_cons (pv 13) (pa_cons (pv 16) pa_nil))) (pa_cons (pv 2) pa_nil))) (pe_callB call_len_seq (by rfl) T.b_len boot_len' (pa_cons (pv 10) pa_nil)) (nomark _))))) (pss_one (ps_ret pe_bl)) pss_nil))) pss_nil))))))))))
      (pss_cons (ps_if (pt_cmpR (op_neD hr.units) (pe_lc (own := [("thing", 20)]) rfl sc_law.nd (pi_list (pe_lst (pa_cons (pe_tup (pa_cons (pe_lst (pa_cons pe_int pa_nil)) (pa_cons pe_int pa_nil))) (pa_cons (pe_tup (pa_cons (pe_lst pa_nil) (pa_cons pe_non pa_nil))) (pa_cons (pe_tup (pa_cons (pe_lst (pa_cons (pe_tup (pa_cons pe_int (pa_cons pe_int (pa_cons pe_non pa_nil)))) pa_nil)) (pa_cons pe_int pa_nil))) (pa_cons pe_int pa_nil)))))) (blkOk_by (own := [("thing", 20)]) (N := ["script", "deck", "many", "every", "share", "held", "drawn", "told", "rows", "root", "due", "end", "turn", "bent", "place", "way", "other", "good", "bits", "row", "thing"]) (sc := defScope s_law) (by decide +kernel)) (fun _ _ _ _ _ => (pg_name (i := 20) sc_law.nd rfl (Or.inl rfl))) (fun _ _ _ _ _ => pts_nil) (fun _ _ _ _ _ => (pe_c c_check_diagram hr (by omega) rfl (pa_cons (pv 20) (pa_cons (pv 2) pa_nil))))) (pe_op op_rep (pe_lst (pa_cons pe_bl pa_nil)) pe_int) (nomark _)) (pss_one (ps_ret pe_bl)) pss_nil)
      (pss_one (ps_ret (pe_and (pe_cmpR op_isX (pe_c c_check_diagram hr (by omega) rfl (pa_cons (pe_tup (pa_cons (pe_lst pa_nil) (pa_cons pe_int pa_nil))) (pa_cons (pv 2) pa_nil))) pe_bl (nomark _)) (pe_one (pe_cmpR op_isX (pe_c c_check_diagram hr (by omega) rfl (pa_cons (pe_tup (pa_cons (pe_lst pa_nil) (pa_cons pe_int pa_nil))) (pa_cons (pv 2) pa_nil))) pe_bl (nomark _))))))))))))))))))))), ?_⟩
    refine ⟨_, rfl, sc, ns, 60, 14, rfl, hS, by omega, by decide, by decide, by decide, fun a H1 a0 s1 hdk => ?_⟩
    -- many, every, share
    refine ⟨_, rfl, a, 7, rfl, by decide, hdk, fun mi H2 m0 m7 b2 d2 => ?_⟩
    obtain ⟨m, rfl⟩ := Int.eq_ofNat_of_zero_le m0
    have hm6 : m ≤ 6 := by omega
    have p64 : 2 ^ m ≤ 64 := Nat.pow_le_pow_right (n := 2) (by decide) hm6
    refine ⟨_, rfl, m, rfl, by omega, fun ev H3 exs ev0 s3 hev hex => ?_⟩
    have d3 := d2.same s3
    have evl : exs.length = 2 ^ m := by rw [hex.length, allB_length]
    have eva : ev ≠ a := by
      obtain ⟨_, _, q⟩ := d2
      exact (ne_of_none q ev0).symm
    refine ⟨_, rfl, a, 5, rfl, by decide, d3, fun sh H4 sh0 sh5 b4 d4 => ⟨_, _, rfl, rfl, ?_⟩⟩
    have hev4 := b4 _ _ eva hev
    have hex4 := hex.tups (Deck.tups d3 b4)
    -- held
    refine ⟨_, rfl, ev, rfl, ⟨_, SqL.of hev4⟩, fun he nhe => lc_list (K := K) (a := ev) (xs := exs) (fun i H' => Deck H' a ∧ (∀ b o, b ≠ a → H4 b = some o → H' b = some o) ∧ ∃ hs bs, H' he = some (.lst hs) ∧ BRows H' hs bs ∧ bs.Sublist ((allB m).take i))
      ⟨d4.same (same_new nhe), fun b o _ e => same_new nhe b o e, [], [], upd_same, .nil, List.Sublist.slnil⟩ (fun i H' _ h => SqL.of (h.2.1 _ _ eva hev4)) ?_ ?_⟩
    · rintro i x H' hi ⟨dk, kp, hs, bs, hhe, hbs, hsub⟩
      obtain ⟨b, hb, t, rfl, ht⟩ := paired_getv hex4 hi
      have hea : he ≠ a := by
        obtain ⟨_, _, q⟩ := d4
        exact (ne_of_none q nhe).symm
      have il : i < 2 ^ m := by
        have := (List.getElem?_eq_some_iff.mp hi).1
        omega
      have bl : bs.length ≤ i := by
        have := hsub.length_le
        rw [List.length_take] at this
        omega
      refine ⟨rfl, _, rfl, _, rfl, _, _, rfl, rfl, a, _, rfl, (by show (0 : Int) < 1 + sh + 1; omega), dk, fun r H5 r0 r1 b5 d5 => ⟨_, _, rfl, rfl, _, rfl, ?_⟩⟩
      have kp5 : ∀ b o, b ≠ a → H4 b = some o → H5 b = some o := fun b o n e => b5 _ _ n (kp b o n e)
      have t5 := Deck.tups dk b5
      refine ite2 (fun hc => ?_) (fun hc => ?_)
      · refine ⟨_, rfl, hs, b5 _ _ hea hhe, small1000' (by rw [hbs.length]; omega), ?_⟩
        have tA : ∀ c ys, H5 c = some (.tup ys) → upd H5 he (.lst (hs ++ [.ref t])) c = some (.tup ys) := fun c ys e => by
          rw [upd_ne (by rintro rfl; rw [b5 _ _ hea hhe] at e; cases e)]
          exact e
        refine ⟨?_, fun b o n e => by rw [upd_ne (ne_of_none e nhe)]; exact kp5 b o n e, hs ++ [.ref t], bs ++ [b], upd_same, Paired.snoc ((hbs.tups t5).tups tA) ⟨t, rfl, tA _ _ (kp5 _ _ (by rintro rfl; obtain ⟨_, _, q⟩ := d4; rw [q] at ht; cases ht) ht)⟩, ?_⟩
        · obtain ⟨ds, h1, h2⟩ := d5
          exact ⟨ds, h1, by rw [upd_ne hea.symm]; exact h2⟩
        · rw [take_snoc hb]
          exact List.Sublist.append hsub (List.Sublist.refl _)
      · refine ⟨d5, kp5, hs, bs, b5 _ _ hea hhe, hbs.tups t5, ?_⟩
        rw [take_snoc hb]
        exact hsub.trans (List.sublist_append_left _ _)
    · rintro H5 ⟨d5, kp, hs, held, hhe, hheld, hsub⟩
      have hea : he ≠ a := by
        obtain ⟨_, _, q⟩ := d4
        exact (ne_of_none q nhe).symm
      rw [List.take_of_length_le (by rw [allB_length, evl]; exact Nat.le_refl _)] at hsub
      have hev5 := kp _ _ eva hev4
      have hex5 := hex4.tups fun c ys e => kp c _ (by rintro rfl; obtain ⟨_, _, q⟩ := d4; rw [q] at e; cases e) e
      have hlen : held.length ≤ 64 := by
        have := hsub.length_le
        rw [allB_length] at this
        omega
      have hhl := hheld.length
      have hbits : ∀ b ∈ held, Bits m b := fun b hb => allP_bits (by rw [← allB_eq]; exact hsub.subset hb)
      -- drawn
      refine ⟨fun σ' H' => ∃ (dr : Addr) (xs : List V) (ts : List (List Int)), σ' = [some (.ref sc), some (.ref a), some (.int m), some (.ref ev), some (.int (1 + sh)), some (.ref he), some (.ref dr), none, none, none, none, none, none, none, none, none, none, none, none, none, none] ∧
        But a H5 H' ∧ Deck H' a ∧ H' dr = some (.lst xs) ∧ BRows H' xs ts ∧ (ts = held ∨ ts = held.reverse), ?_, ?_⟩
      · refine ⟨_, rfl, a, 2, rfl, by decide, d5, fun r H6 r0 r1 b6 d6 => ⟨rfl, _, rfl, ?_⟩⟩
        have hh6 := b6 _ _ hea hhe
        have hb6 := hheld.tups (Deck.tups d5 b6)
        refine ite2 (fun hc => ?_) (fun hc => ?_)
        · refine ⟨_, rfl, he, hs, rfl, SqL.of hh6, fun dr ndr => ⟨dr, hs.reverse, held.reverse, rfl, b6.trans (But.of (same_new ndr)), d6.same (same_new ndr), upd_same, BRows.same (same_new ndr) (paired_rev hb6), .inr rfl⟩⟩
        · exact ⟨_, rfl, he, hs, held, rfl, b6, d6, hh6, hb6, .inl rfl⟩
      · rintro σ6 H6 ⟨dr, dxs, ts, rfl, b6, d6, hdr, hdts, hts⟩
        have hmade : made m 0 ts [] = made m 0 held [] := by
          rcases hts with rfl | rfl
          · rfl
          · exact made_rev _ _ _ _
        have htl : ts.length ≤ 64 := by
          rcases hts with rfl | rfl
          · exact hlen
          · rw [List.length_reverse]; exact hlen
        have htb : ∀ b ∈ ts, Bits m b := fun b hb => by
          rcases hts with rfl | rfl
          · exact hbits b hb
          · exact hbits b (List.mem_reverse.mp hb)
        have hhe6 := b6 _ _ hea hhe
        have hheld6 := hheld.tups (Deck.tups d5 b6)
        -- told
        refine ⟨_, rfl, _, rfl, dr, m, dxs, ts, rfl, hdr, hdts, htb, hm6, by omega, fun H7 ta l rxs s7 ta0 l0 hta hl hrx => ?_⟩
        rw [hmade] at hta hrx
        have S7 : Setup H7 a ev he ta l m held := ⟨d6.same s7, hsub, hm6, ⟨exs, s7 _ _ (b6 _ _ eva hev5), BRows.same s7 (hex5.tups (Deck.tups d5 b6))⟩, ⟨hs, s7 _ _ hhe6, BRows.same s7 hheld6⟩, hta, ⟨rxs, hl, hrx⟩, eva, hea, by
          obtain ⟨_, _, q⟩ := d6
          exact (ne_of_none q l0).symm⟩
        obtain ⟨end_, rs, hmk⟩ : ∃ e rs, made m 0 held [] = (e, rs) := ⟨_, _, rfl⟩
        obtain ⟨ok, hfil⟩ := made_all hsub
        have hml := made_len m 0 held []
        rw [hmk] at hta hrx ok hfil hml
        simp only at hta hrx hfil hml
        have good : Good m rs := ok.good
        have e0 : 0 ≤ end_ := ok.lo
        have e1 : end_ < rs.length + 2 := ok.hi
        have rl : rs.length ≤ 64 := by simp only [List.length_nil] at hml; omega
        have hrxl := hrx.length
        have gR : goodR m [] rs = true := (goodR_iff (Good.nil _)).mpr (by simpa using good)
        have rR : rightR m rs end_ = true := by
          unfold rightR
          rw [gR, Bool.true_and, decide_eq_true e0, decide_eq_true e1]
          rfl
        -- rows, root = told; due = []; end = _law_made(due, 0, many, held)
        refine ⟨_, rfl, ta, _, rfl, SqT.of' hta, rfl, _, _, rfl, _, _, rfl, rfl, ?_⟩
        refine ⟨Nat.zero_le _, fun u u0 => ?_⟩
        have su := same_new (o := HO.lst []) u0
        refine ⟨_, rfl, _, rfl, _, rfl, m + 1, by omega, u, he, 0, m, [], hs, held, [], rfl, upd_same, .nil, su _ _ (s7 _ _ hhe6), (ne_of_none (s7 _ _ hhe6) u0), BRows.same su (BRows.same s7 hheld6), hbits, by omega, by omega, by simp only [List.length_nil]; omega, fun H9 uxs b9 hu9 hux => ?_⟩
        rw [hmk] at hux ⊢
        simp only at hux ⊢
        have s9 : Same H7 H9 := fun b o e => b9 b o (ne_of_none e u0) (su b o e)
        have S9 := S7.same s9
        have hl9 := s9 _ _ hl
        have hrx9 := Rows.same s9 hrx
        have hta9 := s9 _ _ hta
        -- the first test
        have tallD : tall (.tuple [.list (rs.map triD), .int end_]) 3 := by
          refine ⟨by simp, ⟨by rw [List.length_map]; omega, ?_⟩, trivial, trivial⟩
          have : ∀ l : List Tri, talls (l.map triD) 1 := fun l => by
            induction l with
            | nil => trivial
            | cons r l ih => exact ⟨⟨by simp, trivial, trivial, trivial, trivial⟩, ih⟩
          exact this rs
        have shp : SeqAt.shaped (plain (.tuple [.list (rs.map triD), .int end_])) = true := by
          refine shaped_flat (n := 5) ?_ (by decide)
          have : ∀ l : List Tri, flats 3 (plains (l.map triD)) = true := fun l => by
            induction l with
            | nil => rfl
            | cons r l ih =>
              show (flat 3 (plain (triD r)) && flats 3 (plains (l.map triD))) = true
              rw [ih]
              simp [triD, plain, plains, flat, flats]
          simp only [plain, plains, flat, flats, Bool.and_true, Bool.true_and]
          exact this rs
        refine ⟨_, rfl, l, _, rfl, .inl (SqL.of hl9), fun q1 nq1 => ⟨_, rfl, (show 2 ≤ sizeLine by decide), fun q2 nq2 => ?_⟩⟩
        have sq := (same_new (o := HO.lst rxs) nq1).trans (same_new (o := HO.tup [V.ref q1, V.int end_]) nq2)
        refine ⟨.ref q2, .tuple [.list (rs.map triD), .int end_], rfl, .tup (SqT.of' upd_same) (.cons (.lst (SqL.of (same_new nq2 _ _ upd_same)) (rows_dp (Rows.same sq hrx9))) (.cons (.int _) .nil)), tallD, fun v1 H10 s10 p1 => ?_⟩
        have t10 := sq.trans s10
        refine ⟨_, rfl, _, rfl, (show 2 ≤ sizeLine by decide), fun q3 nq3 => ?_⟩
        have sq3 := same_new (o := HO.tup [V.ref u, V.int end_]) nq3
        refine ⟨.ref q3, .tuple [.list (rs.map triD), .int end_], rfl, .tup (SqT.of' upd_same) (.cons (.lst (SqL.of (sq3 _ _ (t10 _ _ hu9))) (rows_dp (Rows.same (t10.trans sq3) hux))) (.cons (.int _) .nil)), tallD, fun v2 H11 s11 p2 => ?_⟩
        have t11 : Same H9 H11 := (t10.trans sq3).trans s11
        refine ⟨_, _, dp_same (sq3.trans s11) p1, p2, shp, shp, _, rfl, ?_⟩
        rw [SeqAt.eqv_refl _ (SeqAt.canLay_of_shaped shp)]
        have DG : ∀ {H' : Hp}, Same H9 H' → Diag K H' (.ref ta) rs end_ := fun s => ⟨ta, l, rxs, rfl, SqT.of' (s _ _ hta9), SqL.of (s _ _ hl9), Rows.same s hrx9⟩
        refine iteF ⟨_, rfl, _, rfl, .ref ta, m, rfl, .inr ⟨ta, l, rxs, rs.map triD, .int end_, .int end_, rfl, SqT.of' (t11 _ _ hta9), SqL.of (t11 _ _ hl9), DRows.of (Rows.same t11 hrx9), by rw [List.length_map]; omega, .int _, .inr ⟨_, rfl⟩, fun H12 s12 => ?_⟩⟩
        have ck : checkD m (rs.map triD) (.int end_) = true := by
          show (rowsG m [] (rs.map triD) && _) = true
          rw [rowsG_tri, gR, List.length_map, decide_eq_true e0, decide_eq_true e1]
          rfl
        rw [ck]
        refine ⟨true, rfl, .inr (.inl ⟨_, rfl⟩), _, rfl, iteF ?_⟩
        have t12 := t11.trans s12
        -- the second test
        have S12 := S9.same t12
        obtain ⟨exs', hev12, hex12⟩ := S12.eve
        obtain ⟨hs', hhe12, hheld12⟩ := S12.hel
        refine ⟨_, rfl, ev, rfl, ⟨_, SqL.of hev12⟩, fun D nD => lc_rel (K := K) (a := ev) (xs := exs') (as := allB m) (fun H v b => TupL H v (bitV b)) (fun H v b => TupL H v (bitV b)) TupL.same TupL.same (fun b => (vals b rs).getD end_.toNat false) id (SqL.of hev12) hex12 nD (by rw [allB_length]; omega) ?_ ?_⟩
        · intro vb b G acc R bm hvb sG hG hacc k0 k1
          have bb : Bits m b := allP_bits (by rw [← allB_eq]; exact bm)
          obtain ⟨tb, rfl, htb⟩ := id hvb
          refine ⟨rfl, _, rfl, _, rfl, .ref ta, .ref tb, rs, end_, b, m, rfl, DG ((t12.trans sG).trans (same_new hG)), ⟨tb, rfl, same_new hG _ _ htb⟩, good, by rw [bb.1]; exact Int.le_refl _, bb.2, e0, e1, _, rfl, ?_⟩
          cases hv : (vals b rs).getD end_.toNat false with
          | true =>
            refine iteT ⟨_, rfl, _, upd_same, hacc, ?_⟩
            rw [upd_app]
            exact k1 hv G _ (Same.refl _) hG hvb
          | false => exact iteF (k0 hv G (Same.refl _) hG)
        · intro G zs sG hG hzs
          rw [List.map_id, hfil] at hzs
          have s13 := sG.trans (same_new (o := HO.lst zs) hG)
          refine ⟨_, rfl, .list (held.map bitD), .list (held.map bitD), .lst (SqL.of upd_same) (brows_dp (BRows.same (same_new hG) hzs)), .lst (SqL.of (s13 _ _ hhe12)) (brows_dp (BRows.same s13 hheld12)), bits_shaped _, bits_shaped _, _, rfl, ?_⟩
          rw [SeqAt.eqv_refl _ (SeqAt.canLay_of_shaped (bits_shaped _))]
          have t13 := t12.trans s13
          refine iteF ⟨_, rfl, _, rfl, .ref ta, rs, end_, m, rfl, DG t13, good, by omega, by omega, e0, e1, fun H14 s14 => ?_⟩
          have t14 := t13.trans s14
          rw [hfil]
          refine ⟨_, rfl, he, hs', rfl, .inl (SqL.of ((s13.trans s14) _ _ hhe12)), rfl, _, rfl, ?_⟩
          rw [hheld12.length, decide_eq_true rfl]
          refine iteF ?_
          -- the third test
          refine ⟨_, rfl, _, rfl, _, rfl, u, end_, m, uxs, rs, rfl, SqL.of (t14 _ _ hu9), Rows.same t14 hux, by omega, fun H15 s15 => ?_⟩
          rw [rR]
          have t15 := t14.trans s15
          refine ⟨_, rfl, iteF ?_⟩
          -- diagram_of([], many) != ([], 0)
          have m0 : made m 0 [] [] = (0, []) := by
            cases m with
            | zero => rfl
            | succ m => rfl
          refine ⟨Nat.zero_le _, fun z1 nz1 => ⟨_, rfl, z1, m, [], [], rfl, upd_same, .nil, (fun b hb => by cases hb), hm6, by simp, fun H16 a1 l1 xs1 s16 a10 l10 ha1 hl1 hr1 => ?_⟩⟩
          rw [m0] at ha1 hr1
          have x1 : xs1 = [] := List.eq_nil_of_length_eq_zero hr1.length
          subst x1
          refine ⟨Nat.zero_le _, fun z2 nz2 => ⟨(show 2 ≤ sizeLine by decide), fun z3 nz3 => ?_⟩⟩
          have sz := (same_new (o := HO.lst []) nz2).trans (same_new (o := HO.tup [V.ref z2, V.int 0]) nz3)
          have shE : ∀ z : Int, SeqAt.shaped (.tuple [.list [], .int z]) = true := fun z => shaped_flat (n := 2) (by simp [flat, flats]) (by decide)
          refine ⟨.tuple [.list [], .int 0], .tuple [.list [], .int 0], .tup (SqT.of' (sz _ _ ha1)) (.cons (.lst (SqL.of (sz _ _ hl1)) .nil) (.cons (.int _) .nil)), .tup (SqT.of' upd_same) (.cons (.lst (SqL.of (same_new nz3 _ _ upd_same)) .nil) (.cons (.int _) .nil)), shE 0, shE 0, _, rfl, ?_⟩
          rw [SeqAt.eqv_refl _ (SeqAt.canLay_of_shaped (shE 0))]
          refine iteF ?_
          have t16 := ((t15.trans (same_new nz1)).trans s16).trans sz
          -- diagram_of([()], 0) != ([], 1)
          refine ⟨Nat.zero_le _, fun y0 ny0 => ⟨(show 1 ≤ sizeLine by decide), fun y1 ny1 => ?_⟩⟩
          have sy := (same_new (o := HO.tup []) ny0).trans (same_new (o := HO.lst [V.ref y0]) ny1)
          refine ⟨y1, 0, [.ref y0], [[]], rfl, upd_same, .cons ⟨y0, rfl, same_new ny1 _ _ upd_same⟩ .nil, (fun b hb => by rw [List.mem_singleton.mp hb]; exact ⟨rfl, fun x hx => by cases hx⟩), by decide, by decide, fun H17 a2 l2 xs2 s17 a20 l20 ha2 hl2 hr2 => ?_⟩
          have m1 : made 0 0 [[]] [] = (1, []) := rfl
          rw [m1] at ha2 hr2
          have x2 : xs2 = [] := List.eq_nil_of_length_eq_zero hr2.length
          subst x2
          refine ⟨Nat.zero_le _, fun z4 nz4 => ⟨(show 2 ≤ sizeLine by decide), fun z5 nz5 => ?_⟩⟩
          have sz2 := (same_new (o := HO.lst []) nz4).trans (same_new (o := HO.tup [V.ref z4, V.int 1]) nz5)
          refine ⟨.tuple [.list [], .int 1], .tuple [.list [], .int 1], .tup (SqT.of' (sz2 _ _ ha2)) (.cons (.lst (SqL.of (sz2 _ _ hl2)) .nil) (.cons (.int _) .nil)), .tup (SqT.of' upd_same) (.cons (.lst (SqL.of (same_new nz5 _ _ upd_same)) .nil) (.cons (.int _) .nil)), shE 1, shE 1, _, rfl, ?_⟩
          rw [SeqAt.eqv_refl _ (SeqAt.canLay_of_shaped (shE 1))]
          refine iteF ?_
          have t17 := ((t16.trans sy).trans s17).trans sz2
          have S17 := S9.same t17
          -- for turn in range(4)
          refine ⟨_, rfl, by decide, by decide, for_range (lo := 0) (n := 4) (fun i σ H' => ∃ (o10 o12 o13 o14 o15 o16 o17 : Option V),
            σ = [some (.ref sc), some (.ref a), some (.int m), some (.ref ev), some (.int (1 + sh)), some (.ref he), some (.ref dr), some (.ref ta), some (.ref l), some (.int end_), o10, some (.int end_), o12, o13, o14, o15, o16, o17, none, none, none] ∧ Setup H' a ev he ta l m held)
            ⟨_, _, _, _, _, _, _, rfl, S17⟩ ?_ ?_⟩
          · rintro i σ H20 hi ⟨o10, o12, o13, o14, o15, o16, o17, rfl, S20⟩
            obtain ⟨rx, hl20, hr20⟩ := S20.rows
            rw [hmk] at hr20
            have hta20 := S20.told
            rw [hmk] at hta20
            -- bent
            refine ⟨_, rfl, l, rfl, ⟨_, SqL.of hl20⟩, fun b nb => lc_rel (K := K) (a := l) (xs := rx) (as := rs) (fun H v r => TupL H v (triV r)) (fun H v r => TupL H v (triV r)) TupL.same TupL.same (fun _ => true) id (SqL.of hl20) hr20 nb (by omega) ?_ ?_⟩
            · intro vb r G acc R rm hvb sG hG hacc k0 k1
              obtain ⟨tb, rfl, htb⟩ := id hvb
              refine ⟨rfl, _, rfl, tb, _, rfl, SqT.of' (same_new hG _ _ htb), _, upd_same, hacc, ?_⟩
              rw [upd_app]
              exact k1 rfl G _ (Same.refl _) hG hvb
            · intro G zs sG hG hzs
              rw [List.map_id, List.filter_eq_self.mpr fun _ _ => rfl] at hzs
              have sB := sG.trans (same_new (o := HO.lst zs) hG)
              have S21 := S20.same sB
              have hzs21 : Rows (upd G b (.lst zs)) zs rs := Rows.same (same_new hG) hzs
              have hb21 : (upd G b (.lst zs)) b = some (.lst zs) := upd_same
              have hba : b ≠ a := by
                obtain ⟨_, _, q⟩ := S20.deck
                exact (ne_of_none q nb).symm
              have hbl : b ≠ l := (ne_of_none hl20 nb).symm
              have hbe : b ≠ ev := by
                obtain ⟨_, q, _⟩ := S20.eve
                exact (ne_of_none q nb).symm
              have hbh : b ≠ he := by
                obtain ⟨_, q, _⟩ := S20.hel
                exact (ne_of_none q nb).symm
              generalize hH21 : upd G b (.lst zs) = H21 at S21 hzs21 hb21
              have zl : zs.length = rs.length := hzs.length
              -- place, way
              refine ⟨_, rfl, _, rfl, b, _, rfl, .inl (SqL.of hb21), _, _, rfl, a, _, rfl, (by show (0 : Int) < if ((zs.length : Nat) : Int) > 1 then ((zs.length : Nat) : Int) else 1; split <;> omega), S21.deck, fun pli H22 pl0 pl1 b22 d22 => ?_⟩
              obtain ⟨pl, rfl⟩ := Int.eq_ofNat_of_zero_le pl0
              have hpl : zs.length ≠ 0 → pl < zs.length := fun h => by
                have : (pl : Int) < if ((zs.length : Nat) : Int) > 1 then ((zs.length : Nat) : Int) else 1 := pl1
                split at this <;> omega
              have S22 := S21.but b22 d22
              have tp22 := Deck.tups S21.deck b22
              refine ⟨_, rfl, a, 6, rfl, by decide, d22, fun wy H23 wy0 wy1 b23 d23 => ?_⟩
              have S23 := S22.but b23 d23
              have tp23 := Deck.tups S22.deck b23
              have hb23 : H23 b = some (.lst zs) := b23 _ _ hba (b22 _ _ hba hb21)
              have hz23 : Rows H23 zs rs := (hzs21.tups tp22).tups tp23
              refine ⟨_, rfl, fun σ' H' => ∃ (b' : Addr) (zs' : List V) (bt : List Tri) (ot : Int), σ' = [some (.ref sc), some (.ref a), some (.int m), some (.ref ev), some (.int (1 + sh)), some (.ref he), some (.ref dr), some (.ref ta), some (.ref l), some (.int end_), o10, some (.int end_), some (.int (0 + (i : Int))), some (.ref b'), some (.int (pl : Int)), some (.int wy), some (.int ot), o17, none, none, none] ∧
                Setup H' a ev he ta l m held ∧ H' b' = some (.lst zs') ∧ Rows H' zs' bt ∧ bt.length ≤ 70, ?_, ?_⟩
              · refine ⟨_, rfl, rfl, _, rfl, ?_⟩
                by_cases w0 : wy = 0
                · rw [w0, decide_eq_true rfl]
                  refine iteT (iteT ?_)
                  refine ⟨_, rfl, _, rfl, b, _, rfl, .inl (SqL.of hb23), _, _, rfl, rfl, a, _, rfl, (by show (0 : Int) < ((zs.length : Nat) : Int) + 4; omega), d23, fun z H24 z0 z1 b24 d24 => ⟨_, _, rfl, rfl, ?_⟩⟩
                  exact ⟨b, zs, rs, _, rfl, S23.but b24 d24, b24 _ _ hba hb23, hz23.tups (Deck.tups S23.deck b24), by omega⟩
                · rw [decide_eq_false (fun z => w0 (V.int.inj z))]
                  refine iteF ⟨_, rfl, b, _, rfl, .inl (SqL.of hb23), rfl, _, rfl, ?_⟩
                  by_cases l0 : zs.length = 0
                  · rw [decide_eq_true (by rw [l0]; rfl)]
                    refine iteT ?_
                    refine ⟨_, rfl, _, rfl, b, _, rfl, .inl (SqL.of hb23), _, _, rfl, rfl, a, _, rfl, (by show (0 : Int) < ((zs.length : Nat) : Int) + 4; omega), d23, fun z H24 z0 z1 b24 d24 => ⟨_, _, rfl, rfl, ?_⟩⟩
                    exact ⟨b, zs, rs, _, rfl, S23.but b24 d24, b24 _ _ hba hb23, hz23.tups (Deck.tups S23.deck b24), by omega⟩
                  · rw [decide_eq_false (fun z => by have := V.int.inj z; omega)]
                    refine iteF ⟨_, rfl, rfl, _, rfl, ?_⟩
                    have hp := hpl l0
                    have hpr : pl < rs.length := by omega
                    obtain ⟨r, hr'⟩ : ∃ r, rs[pl]? = some r := ⟨_, List.getElem?_eq_getElem hpr⟩
                    obtain ⟨x, hx, tx, rfl, htx⟩ := paired_get hz23 hr'
                    by_cases w1 : wy = 1
                    · rw [w1, decide_eq_true rfl]
                      refine iteT ⟨_, rfl, _, rfl, _, rfl, b, zs, rfl, SqL.of hb23, fun p1 n1 => ?_⟩
                      rw [cut_to (by omega)]
                      have s1 := same_new (o := HO.lst (zs.take pl)) n1
                      refine ⟨_, rfl, _, rfl, b, zs, _, _, rfl, rfl, SqL.of (s1 _ _ hb23), atI_nat hx, (show 1 ≤ sizeLine by decide), fun p2 n2 => ?_⟩
                      have s2 := same_new (o := HO.lst [V.ref tx]) n2
                      refine ⟨p1, p2, _, _, rfl, rfl, s2 _ _ upd_same, upd_same, size_of (by rw [List.length_take, List.length_singleton]; omega), fun p3 n3 => ?_⟩
                      have s3 := same_new (o := HO.lst (zs.take pl ++ [V.ref tx])) n3
                      have s123 := (s1.trans s2).trans s3
                      refine ⟨_, rfl, _, rfl, _, rfl, b, zs, rfl, SqL.of (s123 _ _ hb23), fun p4 n4 => ?_⟩
                      rw [cut_from (by omega)]
                      have s4 := same_new (o := HO.lst (zs.drop pl)) n4
                      refine ⟨p3, p4, _, _, rfl, rfl, s4 _ _ upd_same, upd_same, size_of (by rw [List.length_append, List.length_take, List.length_singleton, List.length_drop]; omega), fun p5 n5 => ?_⟩
                      have s5 := (s123.trans s4).trans (same_new (o := HO.lst (zs.take pl ++ [V.ref tx] ++ zs.drop pl)) n5)
                      refine ⟨p5, _, rs.take pl ++ [r] ++ rs.drop pl, end_, rfl, S23.same s5, upd_same, ?_, by rw [List.length_append, List.length_append, List.length_take, List.length_singleton, List.length_drop]; omega⟩
                      have q := Rows.same s5 hz23
                      exact paired_app (paired_app (paired_take pl q) (.cons ⟨tx, rfl, s5 _ _ htx⟩ .nil)) (paired_drop pl q)
                    · rw [decide_eq_false (fun z => w1 (V.int.inj z))]
                      refine iteF ⟨_, rfl, rfl, _, rfl, ?_⟩
                      by_cases w2 : wy = 2
                      · rw [w2, decide_eq_true rfl]
                        refine iteT ⟨_, rfl, _, rfl, b, zs, _, _, rfl, rfl, SqL.of hb23, atI_nat hx, tx, _, 0, .int r.1, rfl, rfl, SqT.of' htx, rfl, ?_⟩
                        refine ⟨_, rfl, _, rfl, b, zs, _, _, rfl, rfl, SqL.of hb23, atI_nat hx, tx, _, 2, .int r.2.2, rfl, rfl, SqT.of' htx, rfl, ?_⟩
                        refine ⟨_, rfl, _, rfl, b, zs, _, _, rfl, rfl, SqL.of hb23, atI_nat hx, tx, _, 1, .int r.2.1, rfl, rfl, SqT.of' htx, rfl, ?_⟩
                        refine ⟨(show 3 ≤ sizeLine by decide), fun p1 n1 => ?_⟩
                        have s1 := same_new (o := HO.tup [V.int r.1, V.int r.2.2, V.int r.2.1]) n1
                        refine ⟨_, rfl, _, rfl, b, zs, _, pl, rfl, rfl, s1 _ _ hb23, ixN_at hp, ?_⟩
                        have S24 := (S23.same s1).put (H' := upd (upd H23 p1 (.tup [V.int r.1, V.int r.2.2, V.int r.2.1])) b (.lst (zs.set pl (V.ref p1)))) (fun c o n e => by rw [upd_ne n]; exact e) (s1 _ _ hb23) hbe hbh hbl hba
                        have tq : ∀ c ys, upd H23 p1 (.tup [V.int r.1, V.int r.2.2, V.int r.2.1]) c = some (.tup ys) → upd (upd H23 p1 (.tup [V.int r.1, V.int r.2.2, V.int r.2.1])) b (.lst (zs.set pl (V.ref p1))) c = some (.tup ys) := fun c ys e => by
                          rw [upd_ne (by rintro rfl; rw [s1 _ _ hb23] at e; cases e)]
                          exact e
                        refine ⟨b, _, rs.set pl (r.1, r.2.2, r.2.1), end_, rfl, S24, upd_same, ?_, by rw [List.length_set]; omega⟩
                        exact paired_set ⟨p1, rfl, tq _ _ upd_same⟩ pl (Rows.tups (Rows.same s1 hz23) tq)
                      · rw [decide_eq_false (fun z => w2 (V.int.inj z))]
                        refine iteF ⟨_, rfl, rfl, _, rfl, ?_⟩
                        by_cases w3 : wy = 3
                        · rw [w3, decide_eq_true rfl]
                          refine iteT ⟨_, rfl, _, rfl, _, _, rfl, rfl, a, _, rfl, (by show (0 : Int) < (m : Int) + 2; omega), d23, fun z H24 z0 z1 b24 d24 => ⟨_, _, rfl, rfl, (show 1 ≤ sizeLine by decide), fun p1 n1 => ?_⟩⟩
                          have tp24 := Deck.tups S23.deck b24
                          have S24 := S23.but b24 d24
                          have hb24 := b24 _ _ hba hb23
                          have s1 := same_new (o := HO.tup [V.int (z - 1)]) n1
                          refine ⟨_, rfl, _, rfl, b, zs, _, _, rfl, rfl, SqL.of (s1 _ _ hb24), atI_nat hx, _, rfl, tx, _, rfl, SqT.of' (s1 _ _ (tp24 _ _ htx)), (fun z => absurd z.1 (show ¬ (HT.sIx 3 0 (some 1) = 0) by decide)), fun _ p2 n2 => ?_⟩
                          have s2 := same_new (o := HO.tup (cutV (triV r) (some 1) none)) n2
                          refine catA_new ⟨p1, rfl, s2 _ _ upd_same⟩ ⟨p2, rfl, upd_same⟩ (show 3 ≤ sizeLine by decide) fun u H25 s3 hu3 => ?_
                          obtain ⟨p3, rfl, hp3⟩ := hu3
                          have s123 := (s1.trans s2).trans s3
                          have hp3 : H25 p3 = some (.tup (triV (z - 1, r.2.1, r.2.2))) := hp3
                          refine ⟨_, rfl, _, rfl, b, zs, _, pl, rfl, rfl, s123 _ _ hb24, ixN_at hp, ?_⟩
                          have S26 := (S24.same s123).put (H' := upd H25 b (.lst (zs.set pl (V.ref p3)))) (fun c o n e => by rw [upd_ne n]; exact e) (s123 _ _ hb24) hbe hbh hbl hba
                          have tq : ∀ c ys, H25 c = some (.tup ys) → upd H25 b (.lst (zs.set pl (V.ref p3))) c = some (.tup ys) := fun c ys e => by
                            rw [upd_ne (by rintro rfl; rw [s123 _ _ hb24] at e; cases e)]
                            exact e
                          refine ⟨b, _, rs.set pl (z - 1, r.2.1, r.2.2), end_, rfl, S26, upd_same, ?_, by rw [List.length_set]; omega⟩
                          exact paired_set ⟨p3, rfl, tq _ _ hp3⟩ pl (Rows.tups (Rows.same s123 (hz23.tups tp24)) tq)
                        · rw [decide_eq_false (fun z => w3 (V.int.inj z))]
                          refine iteF ⟨_, rfl, rfl, _, rfl, ?_⟩
                          by_cases w4 : wy = 4
                          · rw [w4, decide_eq_true rfl]
                            refine iteT ⟨_, rfl, _, rfl, b, zs, _, _, rfl, rfl, SqL.of hb23, atI_nat hx, _, rfl, tx, _, rfl, SqT.of' htx, (fun z => absurd z.2 (show ¬ (HT.sIx 3 3 (some 1) = 3) by decide)), fun _ p1 n1 => ?_⟩
                            have s1 := same_new (o := HO.tup (cutV (triV r) none (some 1))) n1
                            have S24 := S23.same s1
                            refine ⟨_, rfl, _, rfl, b, _, rfl, .inl (SqL.of (s1 _ _ hb23)), _, _, rfl, rfl, a, _, rfl, (by show (0 : Int) < ((zs.length : Nat) : Int) + 3; omega), S24.deck, fun z H25 z0 z1 b25 d25 => ?_⟩
                            have tp25 := Deck.tups S24.deck b25
                            have S25 := S24.but b25 d25
                            have hb25 := b25 _ _ hba (s1 _ _ hb23)
                            refine ⟨_, rfl, _, rfl, b, zs, _, _, rfl, rfl, SqL.of hb25, atI_nat hx, tx, _, 2, .int r.2.2, rfl, rfl, SqT.of' (tp25 _ _ (s1 _ _ htx)), rfl, (show 2 ≤ sizeLine by decide), fun p2 n2 => ?_⟩
                            have s2 := same_new (o := HO.tup [V.int z, V.int r.2.2]) n2
                            refine catA_new ⟨p1, rfl, s2 _ _ (tp25 _ _ upd_same)⟩ ⟨p2, rfl, upd_same⟩ (show 3 ≤ sizeLine by decide) fun u H26 s3 hu3 => ?_
                            obtain ⟨p3, rfl, hp3⟩ := hu3
                            have s23 := s2.trans s3
                            have hp3 : H26 p3 = some (.tup (triV (r.1, z, r.2.2))) := hp3
                            refine ⟨_, rfl, _, rfl, b, zs, _, pl, rfl, rfl, s23 _ _ hb25, ixN_at hp, ?_⟩
                            have S27 := (S25.same s23).put (H' := upd H26 b (.lst (zs.set pl (V.ref p3)))) (fun c o n e => by rw [upd_ne n]; exact e) (s23 _ _ hb25) hbe hbh hbl hba
                            have tq : ∀ c ys, H26 c = some (.tup ys) → upd H26 b (.lst (zs.set pl (V.ref p3))) c = some (.tup ys) := fun c ys e => by
                              rw [upd_ne (by rintro rfl; rw [s23 _ _ hb25] at e; cases e)]
                              exact e
                            refine ⟨b, _, rs.set pl (r.1, z, r.2.2), end_, rfl, S27, upd_same, ?_, by rw [List.length_set]; omega⟩
                            exact paired_set ⟨p3, rfl, tq _ _ hp3⟩ pl (Rows.tups (Rows.same s23 ((Rows.same s1 hz23).tups tp25)) tq)
                          · rw [decide_eq_false (fun z => w4 (V.int.inj z))]
                            refine iteF ⟨_, rfl, _, rfl, _, rfl, b, zs, rfl, SqL.of hb23, fun p1 n1 => ?_⟩
                            rw [cut_to (by omega)]
                            have s1 := same_new (o := HO.lst (zs.take pl)) n1
                            refine ⟨_, rfl, _, rfl, _, _, rfl, rfl, _, rfl, b, zs, rfl, SqL.of (s1 _ _ hb23), fun p2 n2 => ?_⟩
                            rw [show ((pl : Int) + 1) = ((pl + 1 : Nat) : Int) from rfl, cut_from (by omega)]
                            have s2 := same_new (o := HO.lst (zs.drop (pl + 1))) n2
                            refine ⟨p1, p2, _, _, rfl, rfl, s2 _ _ upd_same, upd_same, size_of (by rw [List.length_take, List.length_drop]; omega), fun p3 n3 => ?_⟩
                            have s3 := (s1.trans s2).trans (same_new (o := HO.lst (zs.take pl ++ zs.drop (pl + 1))) n3)
                            refine ⟨p3, _, rs.take pl ++ rs.drop (pl + 1), end_, rfl, S23.same s3, upd_same, ?_, by rw [List.length_append, List.length_take, List.length_drop]; omega⟩
                            have q := Rows.same s3 hz23
                            exact paired_app (paired_take pl q) (paired_drop (pl + 1) q)
              · rintro σ24 H24 ⟨b', zs', bt, ot, rfl, S24, hb', hz', hbtl⟩
                have hzl := hz'.length
                -- good
                refine ⟨_, rfl, _, rfl, _, rfl, b', ot, m, zs', bt, rfl, SqL.of hb', hz', by omega, fun H25 s25 => ?_⟩
                -- check_diagram
                refine ⟨_, rfl, _, rfl, (show 2 ≤ sizeLine by decide), fun q nq => ?_⟩
                have sq := same_new (o := HO.tup [V.ref b', V.int ot]) nq
                have s26 := s25.trans sq
                refine ⟨_, rfl, .ref q, m, rfl, .inr ⟨q, b', zs', bt.map triD, .int ot, .int ot, rfl, SqT.of' upd_same, SqL.of (s26 _ _ hb'), DRows.of (Rows.same s26 hz'), by rw [List.length_map]; omega, .int _, .inr ⟨_, rfl⟩, fun H27 s27 => ⟨_, rfl, rfl, _, rfl, ?_⟩⟩⟩
                have ce : checkD m (bt.map triD) (.int ot) = rightR m bt ot := by
                  show (rowsG m [] (bt.map triD) && _) = _
                  rw [rowsG_tri, List.length_map]
                  rfl
                rw [ce, decide_eq_true rfl]
                refine iteF ⟨_, rfl, _, rfl, ?_⟩
                have t27 := s26.trans s27
                have S27 := S24.same t27
                cases hg : rightR m bt ot with
                | false => exact iteF ⟨_, _, _, _, _, _, _, rfl, S27⟩
                | true =>
                  refine iteT ?_
                  unfold rightR at hg
                  simp only [Bool.and_eq_true, decide_eq_true_eq] at hg
                  obtain ⟨g1, g2, g3⟩ := hg
                  have gd : Good m bt := by simpa using (goodR_iff (Good.nil _)).mp g1
                  obtain ⟨ex, hev27, hex27⟩ := S27.eve
                  have hb27 := t27 _ _ hb'
                  have hz27 := Rows.same t27 hz'
                  -- due
                  refine ⟨_, rfl, ev, rfl, ⟨_, SqL.of hev27⟩, fun D nD => lc_rel (K := K) (a := ev) (xs := ex) (as := allB m) (fun H v b => TupL H v (bitV b)) (fun H v b => TupL H v (bitV b)) TupL.same TupL.same (fun b => (vals b bt).getD ot.toNat false) id (SqL.of hev27) hex27 nD (by rw [allB_length]; omega) ?_ ?_⟩
                  · intro vb b G acc R bm hvb sG hG hacc k0 k1
                    have bb : Bits m b := allP_bits (by rw [← allB_eq]; exact bm)
                    obtain ⟨tb, rfl, htb⟩ := id hvb
                    have sg := sG.trans (same_new (o := HO.lst acc) hG)
                    refine ⟨rfl, _, rfl, _, rfl, _, rfl, b', .ref tb, zs', bt, ot, b, m, rfl, SqL.of (sg _ _ hb27), Rows.same sg hz27, ⟨tb, rfl, same_new hG _ _ htb⟩, gd, by rw [bb.1]; exact Int.le_refl _, bb.2, g2, g3, _, rfl, ?_⟩
                    cases hv : (vals b bt).getD ot.toNat false with
                    | true =>
                      refine iteT ⟨_, rfl, _, upd_same, hacc, ?_⟩
                      rw [upd_app]
                      exact k1 hv G _ (Same.refl _) hG hvb
                    | false => exact iteF (k0 hv G (Same.refl _) hG)
                  · intro G ws sG hG hws
                    rw [List.map_id] at hws
                    have s28 := sG.trans (same_new (o := HO.lst ws) hG)
                    have S28 := S27.same s28
                    obtain ⟨ex2, hev28, hex28⟩ := S28.eve
                    have hb28 := s28 _ _ hb27
                    have hz28 := Rows.same s28 hz27
                    have hD28 : upd G D (.lst ws) D = some (.lst ws) := upd_same
                    have hw28 : BRows (upd G D (.lst ws)) ws ((allB m).filter fun b => (vals b bt).getD ot.toNat false) := BRows.same (same_new hG) hws
                    generalize upd G D (.lst ws) = H28 at S28 hev28 hex28 hb28 hz28 hD28 hw28
                    refine ⟨_, rfl, ev, rfl, ⟨_, SqL.of hev28⟩, fun D2 nD2 => lc_rel (K := K) (a := ev) (xs := ex2) (as := allB m) (fun H v b => TupL H v (bitV b)) (fun H v b => TupL H v (bitV b)) TupL.same TupL.same (fun b => (vals b bt).getD ot.toNat false) id (SqL.of hev28) hex28 nD2 (by rw [allB_length]; omega) ?_ ?_⟩
                    · intro vb b G acc R bm hvb sG hG hacc k0 k1
                      have bb : Bits m b := allP_bits (by rw [← allB_eq]; exact bm)
                      obtain ⟨tb, rfl, htb⟩ := id hvb
                      have sg := sG.trans (same_new (o := HO.lst acc) hG)
                      refine ⟨rfl, _, rfl, _, rfl, (show 2 ≤ sizeLine by decide), fun p np => ?_⟩
                      have pD : D2 ≠ p := (upd_none np).1.symm
                      have pG : G p = none := (upd_none np).2
                      have sp := same_new (o := HO.tup [V.ref b', V.int ot]) np
                      refine ⟨_, rfl, .ref p, .ref tb, bt, ot, b, m, rfl, ⟨p, b', zs', rfl, SqT.of' upd_same, SqL.of (sp _ _ (sg _ _ hb28)), Rows.same (sg.trans sp) hz28⟩, ⟨tb, rfl, sp _ _ (same_new hG _ _ htb)⟩, gd, by rw [bb.1]; exact Int.le_refl _, bb.2, g2, g3, _, rfl, ?_⟩
                      rw [upd_comm pD]
                      have sGp := same_new (o := HO.tup [V.ref b', V.int ot]) pG
                      have hGp : upd G p (.tup [V.ref b', V.int ot]) D2 = none := by rw [upd_ne pD]; exact hG
                      cases hv : (vals b bt).getD ot.toNat false with
                      | true =>
                        refine iteT ⟨_, rfl, _, upd_same, hacc, ?_⟩
                        rw [upd_app]
                        exact k1 hv _ _ sGp hGp (hvb.same sGp)
                      | false => exact iteF (k0 hv _ sGp hGp)
                    · intro G ws2 sG hG hws2
                      rw [List.map_id] at hws2
                      have s29 := sG.trans (same_new (o := HO.lst ws2) hG)
                      refine ⟨_, rfl, .list (((allB m).filter fun b => (vals b bt).getD ot.toNat false).map bitD), .list (((allB m).filter fun b => (vals b bt).getD ot.toNat false).map bitD), .lst (SqL.of upd_same) (brows_dp (BRows.same (same_new hG) hws2)), .lst (SqL.of (s29 _ _ hD28)) (brows_dp (BRows.same s29 hw28)), bits_shaped _, bits_shaped _, _, rfl, ?_⟩
                      rw [SeqAt.eqv_refl _ (SeqAt.canLay_of_shaped (bits_shaped _))]
                      refine iteF ⟨_, rfl, _, rfl, (show 2 ≤ sizeLine by decide), fun p np => ?_⟩
                      have sp := same_new (o := HO.tup [V.ref b', V.int ot]) np
                      have s30 := s29.trans sp
                      refine ⟨_, rfl, .ref p, bt, ot, m, rfl, ⟨p, b', zs', rfl, SqT.of' upd_same, SqL.of (s30 _ _ hb28), Rows.same s30 hz28⟩, gd, by omega, by omega, g2, g3, fun H31 s31 => ?_⟩
                      have s32 := s30.trans s31
                      refine ⟨_, rfl, D, ws, rfl, .inl (SqL.of (s32 _ _ hD28)), rfl, _, rfl, ?_⟩
                      rw [hw28.length, decide_eq_true rfl]
                      exact iteF ⟨_, _, _, _, _, _, _, rfl, S28.same s32⟩
          · rintro σ30 H30 ⟨o10, o12, o13, o14, o15, o16, o17, rfl, S30⟩
            -- things that are no diagrams
            refine ⟨(show 1 ≤ sizeLine by decide), fun p1 n1 => ⟨(show 2 ≤ sizeLine by decide), fun p2 n2 => ⟨Nat.zero_le _, fun p3 n3 => ⟨(show 2 ≤ sizeLine by decide), fun p4 n4 => ?_⟩⟩⟩⟩
            refine ⟨(show 3 ≤ sizeLine by decide), fun p5 n5 => ⟨(show 1 ≤ sizeLine by decide), fun p6 n6 => ⟨(show 2 ≤ sizeLine by decide), fun p7 n7 => ⟨(show 4 ≤ sizeLine by decide), fun p8 n8 => ?_⟩⟩⟩⟩
            have q1 := same_new (o := HO.lst [V.int 5]) n1
            have q2 := same_new (o := HO.tup [V.ref p1, V.int 0]) n2
            have q3 := same_new (o := HO.lst []) n3
            have q4 := same_new (o := HO.tup [V.ref p3, V.non]) n4
            have q5 := same_new (o := HO.tup [V.int 0, V.int 0, V.non]) n5
            have q6 := same_new (o := HO.lst [V.ref p5]) n6
            have q7 := same_new (o := HO.tup [V.ref p6, V.int 2]) n7
            have q8 := same_new (o := HO.lst [V.ref p2, V.ref p4, V.ref p7, V.int 5]) n8
            have r7 := q7.trans q8
            have r6 := q6.trans r7
            have r5 := q5.trans r6
            have r4 := q4.trans r5
            have r3 := q3.trans r4
            have r2 := q2.trans r3
            have r1 := q1.trans r2
            have B1 : Bad K m _ (.ref p2) := .inr ⟨p2, p1, [V.int 5], [.int 5], V.int 0, .int 0, rfl, SqT.of' (r3 _ _ upd_same), SqL.of (r2 _ _ upd_same), ⟨.cons (.int _) .nil, fun i v r hx hd => by
              cases i with
              | zero => simp [triD] at hd
              | succ i => simp at hd⟩, by decide, .int _, .inr ⟨_, rfl⟩, rfl⟩
            have B2 : Bad K m _ (.ref p4) := .inr ⟨p4, p3, [], [], V.non, .none, rfl, SqT.of' (r5 _ _ upd_same), SqL.of (r4 _ _ upd_same), ⟨.nil, fun i v r hx hd => by simp at hd⟩, by decide, .non, .inl rfl, rfl⟩
            have B3 : Bad K m _ (.ref p7) := .inr ⟨p7, p6, [V.ref p5], [.tuple [.int 0, .int 0, .none]], V.int 2, .int 2, rfl, SqT.of' (q8 _ _ upd_same), SqL.of (r7 _ _ upd_same), ⟨.cons (.tup (SqT.of' (r6 _ _ upd_same)) (.cons (.int _) (.cons (.int _) (.cons .non .nil)))) .nil, fun i v r hx hd => by
              cases i with
              | zero => simp [triD] at hd
              | succ i => simp at hd⟩, by decide, .int _, .inr ⟨_, rfl⟩, rfl⟩
            have B4 : Bad K m (upd (upd (upd (upd (upd (upd (upd (upd H30 p1 (.lst [V.int 5])) p2 (.tup [V.ref p1, V.int 0])) p3 (.lst [])) p4 (.tup [V.ref p3, V.non])) p5 (.tup [V.int 0, V.int 0, V.non])) p6 (.lst [V.ref p5])) p7 (.tup [V.ref p6, V.int 2])) p8 (.lst [V.ref p2, V.ref p4, V.ref p7, V.int 5])) (.int 5) := .inl ⟨_, rfl⟩
            refine ⟨p8, rfl, ⟨_, SqL.of upd_same⟩, fun D nD => lc_rel (K := K) (a := p8) (xs := [V.ref p2, V.ref p4, V.ref p7, V.int 5]) (as := [(), (), (), ()]) (fun H v _ => Bad K m H v) (fun H v _ => v = V.bl false) (fun s h => h.same s) (fun _ h => h) (fun _ => true) id (SqL.of upd_same) (.cons B1 (.cons B2 (.cons B3 (.cons B4 .nil)))) nD (by decide) ?_ ?_⟩
            · intro vb b G acc R bm hvb sG hG hacc k0 k1
              refine ⟨rfl, _, rfl, _, rfl, ?_⟩
              refine bad_step (acc := acc) (Q := fun y H4 => ∃ acc, H4 D = some (.lst acc) ∧ acc.length < sizeLine ∧ R (upd H4 D (.lst (acc ++ [y])))) (E := C8.E0) (hvb.same (same_new hG)) hG fun G' s' h' => ⟨_, upd_same, hacc, ?_⟩
              rw [upd_app]
              exact k1 rfl G' _ s' h' rfl
            · intro G ws sG hG hws
              have ew := falses hws
              simp only [List.map_id, List.filter_cons, List.filter_nil, if_true, List.map_cons, List.map_nil] at ew
              subst ew
              refine ⟨(show 1 ≤ sizeLine by decide), fun y1 ny1 => ⟨y1, 4, _, rfl, rfl, upd_same, by decide, by decide, by decide, fun y2 ny2 => ?_⟩⟩
              have sy := (same_new (o := HO.lst [V.bl false]) ny1).trans (same_new (o := HO.lst (List.replicate (4 : Int).toNat [V.bl false]).flatten) ny2)
              have shF : SeqAt.shaped (.list [.bool false, .bool false, .bool false, .bool false]) = true := shaped_flat (n := 1) (by simp [flat, flats]) (by decide)
              have dF : ∀ H' : Hp, DpAll K H' [V.bl false, V.bl false, V.bl false, V.bl false] [.bool false, .bool false, .bool false, .bool false] := fun H' => .cons (.bl _) (.cons (.bl _) (.cons (.bl _) (.cons (.bl _) .nil)))
              refine ⟨.list [.bool false, .bool false, .bool false, .bool false], .list [.bool false, .bool false, .bool false, .bool false], .lst (SqL.of (sy _ _ upd_same)) (dF _), .lst (SqL.of upd_same) (dF _), shF, shF, _, rfl, ?_⟩
              rw [SeqAt.eqv_refl _ (SeqAt.canLay_of_shaped shF)]
              refine iteF ?_
              -- the end
              refine ⟨Nat.zero_le _, fun x1 nx1 => ⟨(show 2 ≤ sizeLine by decide), fun x2 nx2 => ⟨_, rfl, .ref x2, m, rfl, .inr ⟨x2, x1, [], [], V.int 2, .int 2, rfl, SqT.of' upd_same, SqL.of (same_new nx2 _ _ upd_same), ⟨.nil, fun i v r hx hd => by simp at hd⟩, by decide, .int _, .inr ⟨_, rfl⟩, fun H40 s40 => ?_⟩⟩⟩⟩
              have c2 : checkD (m : Int) [] (.int 2) = false := rfl
              rw [c2]
              refine ⟨false, rfl, .inr (.inl ⟨_, rfl⟩), _, rfl, iteT ?_⟩
              refine ⟨Nat.zero_le _, fun x3 nx3 => ⟨(show 2 ≤ sizeLine by decide), fun x4 nx4 => ⟨_, rfl, .ref x4, m, rfl, .inr ⟨x4, x3, [], [], V.int 1, .int 1, rfl, SqT.of' upd_same, SqL.of (same_new nx4 _ _ upd_same), ⟨.nil, fun i v r hx hd => by simp at hd⟩, by decide, .int _, .inr ⟨_, rfl⟩, fun H41 s41 => ?_⟩⟩⟩⟩
              have c1 : checkD (m : Int) [] (.int 1) = true := rfl
              rw [c1]
              exact ⟨true, rfl, .inr (.inl ⟨_, rfl⟩), kk _⟩
end
end Q43



namespace Q43
open PySem L2 G M43
open C8 (Cal Met Mak pe_c pe_mk pe_mt pe_mt0 pe_gc pss_cut tCut)
/-! ### what the top has written, the head -/
theorem all_mk {l : PySem.W.OpenLaw} {w : World} {K : PySem.W.Frag} {h : Heap} {mg : Str → Option Value} {fa f__law_deck f__law_take f__law_plain f_is_number f_rows_good f_check_diagram f_Maker___init__ f_Maker_made f_diagram_of f_holds f_count_held f__law_tuples f__law_followed f__law_diagram_right f__law_made f_law C_Maker : Addr} (X : K.In h) (G : h.Ns mainGlobals mg) (hfa : mg "law" = some (.ref fa))
    {od__law_deck an__law_deck : Option Addr} {sl__law_deck : Array (Option Value)} {oc__law_deck kV__law_deck dc__law_deck pm__law_deck cd__law_deck ct__law_deck : Value}
    {od__law_take an__law_take : Option Addr} {sl__law_take : Array (Option Value)} {oc__law_take kV__law_take dc__law_take pm__law_take cd__law_take ct__law_take : Value}
    {od__law_plain an__law_plain : Option Addr} {sl__law_plain : Array (Option Value)} {oc__law_plain kV__law_plain dc__law_plain pm__law_plain cd__law_plain ct__law_plain : Value}
    {od_is_number an_is_number : Option Addr} {sl_is_number : Array (Option Value)} {oc_is_number kV_is_number dc_is_number pm_is_number cd_is_number ct_is_number : Value}
    {od_rows_good an_rows_good : Option Addr} {sl_rows_good : Array (Option Value)} {oc_rows_good kV_rows_good dc_rows_good pm_rows_good cd_rows_good ct_rows_good : Value}
    {od_check_diagram an_check_diagram : Option Addr} {sl_check_diagram : Array (Option Value)} {oc_check_diagram kV_check_diagram dc_check_diagram pm_check_diagram cd_check_diagram ct_check_diagram : Value}
    {od_Maker___init__ an_Maker___init__ : Option Addr} {sl_Maker___init__ : Array (Option Value)} {oc_Maker___init__ kV_Maker___init__ dc_Maker___init__ pm_Maker___init__ cd_Maker___init__ ct_Maker___init__ : Value}
    {od_Maker_made an_Maker_made : Option Addr} {sl_Maker_made : Array (Option Value)} {oc_Maker_made kV_Maker_made dc_Maker_made pm_Maker_made cd_Maker_made ct_Maker_made : Value}
    {od_diagram_of an_diagram_of : Option Addr} {sl_diagram_of : Array (Option Value)} {oc_diagram_of kV_diagram_of dc_diagram_of pm_diagram_of cd_diagram_of ct_diagram_of : Value}
    {od_holds an_holds : Option Addr} {sl_holds : Array (Option Value)} {oc_holds kV_holds dc_holds pm_holds cd_holds ct_holds : Value}
    {od_count_held an_count_held : Option Addr} {sl_count_held : Array (Option Value)} {oc_count_held kV_count_held dc_count_held pm_count_held cd_count_held ct_count_held : Value}
    {od__law_tuples an__law_tuples : Option Addr} {sl__law_tuples : Array (Option Value)} {oc__law_tuples kV__law_tuples dc__law_tuples pm__law_tuples cd__law_tuples ct__law_tuples : Value}
    {od__law_followed an__law_followed : Option Addr} {sl__law_followed : Array (Option Value)} {oc__law_followed kV__law_followed dc__law_followed pm__law_followed cd__law_followed ct__law_followed : Value}
    {od__law_diagram_right an__law_diagram_right : Option Addr} {sl__law_diagram_right : Array (Option Value)} {oc__law_diagram_right kV__law_diagram_right dc__law_diagram_right pm__law_diagram_right cd__law_diagram_right ct__law_diagram_right : Value}
    {od__law_made an__law_made : Option Addr} {sl__law_made : Array (Option Value)} {oc__law_made kV__law_made dc__law_made pm__law_made cd__law_made ct__law_made : Value}
    {od_law an_law : Option Addr} {sl_law : Array (Option Value)} {oc_law kV_law dc_law pm_law cd_law ct_law : Value}
    (a__law_deck : PySem.W.nsIn K mainGlobals "_law_deck" = some (some (.ref f__law_deck)))
    (l__law_deck : K.lookup f__law_deck = some ⟨oc__law_deck, od__law_deck, .func (PySem.W.fnOf "_law_deck" "_law_deck" (defArgs s__law_deck) (defBody s__law_deck) (defScope s__law_deck) .none kV__law_deck dc__law_deck pm__law_deck an__law_deck cd__law_deck ct__law_deck), sl__law_deck⟩) (c__law_deck : PySem.W.codeIn K cd__law_deck "_law_deck" = true) (k__law_deck : PySem.W.keepIn K (.ref f__law_deck) = true)
    (a__law_take : PySem.W.nsIn K mainGlobals "_law_take" = some (some (.ref f__law_take)))
    (l__law_take : K.lookup f__law_take = some ⟨oc__law_take, od__law_take, .func (PySem.W.fnOf "_law_take" "_law_take" (defArgs s__law_take) (defBody s__law_take) (defScope s__law_take) .none kV__law_take dc__law_take pm__law_take an__law_take cd__law_take ct__law_take), sl__law_take⟩) (c__law_take : PySem.W.codeIn K cd__law_take "_law_take" = true) (k__law_take : PySem.W.keepIn K (.ref f__law_take) = true)
    (a__law_plain : PySem.W.nsIn K mainGlobals "_law_plain" = some (some (.ref f__law_plain)))
    (l__law_plain : K.lookup f__law_plain = some ⟨oc__law_plain, od__law_plain, .func (PySem.W.fnOf "_law_plain" "_law_plain" (defArgs s__law_plain) (defBody s__law_plain) (defScope s__law_plain) .none kV__law_plain dc__law_plain pm__law_plain an__law_plain cd__law_plain ct__law_plain), sl__law_plain⟩) (c__law_plain : PySem.W.codeIn K cd__law_plain "_law_plain" = true) (k__law_plain : PySem.W.keepIn K (.ref f__law_plain) = true)
    (a_is_number : PySem.W.nsIn K mainGlobals "is_number" = some (some (.ref f_is_number)))
    (l_is_number : K.lookup f_is_number = some ⟨oc_is_number, od_is_number, .func (PySem.W.fnOf "is_number" "is_number" (defArgs s_is_number) (defBody s_is_number) (defScope s_is_number) .none kV_is_number dc_is_number pm_is_number an_is_number cd_is_number ct_is_number), sl_is_number⟩) (c_is_number : PySem.W.codeIn K cd_is_number "is_number" = true) (k_is_number : PySem.W.keepIn K (.ref f_is_number) = true)
    (a_rows_good : PySem.W.nsIn K mainGlobals "rows_good" = some (some (.ref f_rows_good)))
    (l_rows_good : K.lookup f_rows_good = some ⟨oc_rows_good, od_rows_good, .func (PySem.W.fnOf "rows_good" "rows_good" (defArgs s_rows_good) (defBody s_rows_good) (defScope s_rows_good) .none kV_rows_good dc_rows_good pm_rows_good an_rows_good cd_rows_good ct_rows_good), sl_rows_good⟩) (c_rows_good : PySem.W.codeIn K cd_rows_good "rows_good" = true) (k_rows_good : PySem.W.keepIn K (.ref f_rows_good) = true)
    (a_check_diagram : PySem.W.nsIn K mainGlobals "check_diagram" = some (some (.ref f_check_diagram)))
    (l_check_diagram : K.lookup f_check_diagram = some ⟨oc_check_diagram, od_check_diagram, .func (PySem.W.fnOf "check_diagram" "check_diagram" (defArgs s_check_diagram) (defBody s_check_diagram) (defScope s_check_diagram) .none kV_check_diagram dc_check_diagram pm_check_diagram an_check_diagram cd_check_diagram ct_check_diagram), sl_check_diagram⟩) (c_check_diagram : PySem.W.codeIn K cd_check_diagram "check_diagram" = true) (k_check_diagram : PySem.W.keepIn K (.ref f_check_diagram) = true)
    (a_Maker___init__ : PySem.W.findIn K (.ref C_Maker) "__init__" = some (some (.ref f_Maker___init__))) (i_Maker___init__ : PySem.W.isFn K (.ref f_Maker___init__) = true)
    (l_Maker___init__ : K.lookup f_Maker___init__ = some ⟨oc_Maker___init__, od_Maker___init__, .func (PySem.W.fnOf "__init__" "Maker.__init__" (defArgs s_Maker___init__) (defBody s_Maker___init__) (defScope s_Maker___init__) .none kV_Maker___init__ dc_Maker___init__ pm_Maker___init__ an_Maker___init__ cd_Maker___init__ ct_Maker___init__), sl_Maker___init__⟩) (c_Maker___init__ : PySem.W.codeIn K cd_Maker___init__ "Maker.__init__" = true) (k_Maker___init__ : PySem.W.keepIn K (.ref f_Maker___init__) = true)
    (a_Maker_made : PySem.W.findIn K (.ref C_Maker) "made" = some (some (.ref f_Maker_made))) (i_Maker_made : PySem.W.isFn K (.ref f_Maker_made) = true)
    (l_Maker_made : K.lookup f_Maker_made = some ⟨oc_Maker_made, od_Maker_made, .func (PySem.W.fnOf "made" "Maker.made" (defArgs s_Maker_made) (defBody s_Maker_made) (defScope s_Maker_made) .none kV_Maker_made dc_Maker_made pm_Maker_made an_Maker_made cd_Maker_made ct_Maker_made), sl_Maker_made⟩) (c_Maker_made : PySem.W.codeIn K cd_Maker_made "Maker.made" = true) (k_Maker_made : PySem.W.keepIn K (.ref f_Maker_made) = true)
    (a_diagram_of : PySem.W.nsIn K mainGlobals "diagram_of" = some (some (.ref f_diagram_of)))
    (l_diagram_of : K.lookup f_diagram_of = some ⟨oc_diagram_of, od_diagram_of, .func (PySem.W.fnOf "diagram_of" "diagram_of" (defArgs s_diagram_of) (defBody s_diagram_of) (defScope s_diagram_of) .none kV_diagram_of dc_diagram_of pm_diagram_of an_diagram_of cd_diagram_of ct_diagram_of), sl_diagram_of⟩) (c_diagram_of : PySem.W.codeIn K cd_diagram_of "diagram_of" = true) (k_diagram_of : PySem.W.keepIn K (.ref f_diagram_of) = true)
    (a_holds : PySem.W.nsIn K mainGlobals "holds" = some (some (.ref f_holds)))
    (l_holds : K.lookup f_holds = some ⟨oc_holds, od_holds, .func (PySem.W.fnOf "holds" "holds" (defArgs s_holds) (defBody s_holds) (defScope s_holds) .none kV_holds dc_holds pm_holds an_holds cd_holds ct_holds), sl_holds⟩) (c_holds : PySem.W.codeIn K cd_holds "holds" = true) (k_holds : PySem.W.keepIn K (.ref f_holds) = true)
    (a_count_held : PySem.W.nsIn K mainGlobals "count_held" = some (some (.ref f_count_held)))
    (l_count_held : K.lookup f_count_held = some ⟨oc_count_held, od_count_held, .func (PySem.W.fnOf "count_held" "count_held" (defArgs s_count_held) (defBody s_count_held) (defScope s_count_held) .none kV_count_held dc_count_held pm_count_held an_count_held cd_count_held ct_count_held), sl_count_held⟩) (c_count_held : PySem.W.codeIn K cd_count_held "count_held" = true) (k_count_held : PySem.W.keepIn K (.ref f_count_held) = true)
    (a__law_tuples : PySem.W.nsIn K mainGlobals "_law_tuples" = some (some (.ref f__law_tuples)))
    (l__law_tuples : K.lookup f__law_tuples = some ⟨oc__law_tuples, od__law_tuples, .func (PySem.W.fnOf "_law_tuples" "_law_tuples" (defArgs s__law_tuples) (defBody s__law_tuples) (defScope s__law_tuples) .none kV__law_tuples dc__law_tuples pm__law_tuples an__law_tuples cd__law_tuples ct__law_tuples), sl__law_tuples⟩) (c__law_tuples : PySem.W.codeIn K cd__law_tuples "_law_tuples" = true) (k__law_tuples : PySem.W.keepIn K (.ref f__law_tuples) = true)
    (a__law_followed : PySem.W.nsIn K mainGlobals "_law_followed" = some (some (.ref f__law_followed)))
    (l__law_followed : K.lookup f__law_followed = some ⟨oc__law_followed, od__law_followed, .func (PySem.W.fnOf "_law_followed" "_law_followed" (defArgs s__law_followed) (defBody s__law_followed) (defScope s__law_followed) .none kV__law_followed dc__law_followed pm__law_followed an__law_followed cd__law_followed ct__law_followed), sl__law_followed⟩) (c__law_followed : PySem.W.codeIn K cd__law_followed "_law_followed" = true) (k__law_followed : PySem.W.keepIn K (.ref f__law_followed) = true)
    (a__law_diagram_right : PySem.W.nsIn K mainGlobals "_law_diagram_right" = some (some (.ref f__law_diagram_right)))
    (l__law_diagram_right : K.lookup f__law_diagram_right = some ⟨oc__law_diagram_right, od__law_diagram_right, .func (PySem.W.fnOf "_law_diagram_right" "_law_diagram_right" (defArgs s__law_diagram_right) (defBody s__law_diagram_right) (defScope s__law_diagram_right) .none kV__law_diagram_right dc__law_diagram_right pm__law_diagram_right an__law_diagram_right cd__law_diagram_right ct__law_diagram_right), sl__law_diagram_right⟩) (c__law_diagram_right : PySem.W.codeIn K cd__law_diagram_right "_law_diagram_right" = true) (k__law_diagram_right : PySem.W.keepIn K (.ref f__law_diagram_right) = true)
    (a__law_made : PySem.W.nsIn K mainGlobals "_law_made" = some (some (.ref f__law_made)))
    (l__law_made : K.lookup f__law_made = some ⟨oc__law_made, od__law_made, .func (PySem.W.fnOf "_law_made" "_law_made" (defArgs s__law_made) (defBody s__law_made) (defScope s__law_made) .none kV__law_made dc__law_made pm__law_made an__law_made cd__law_made ct__law_made), sl__law_made⟩) (c__law_made : PySem.W.codeIn K cd__law_made "_law_made" = true) (k__law_made : PySem.W.keepIn K (.ref f__law_made) = true)
    (a_law : PySem.W.nsIn K mainGlobals "law" = some (some (.ref f_law)))
    (l_law : K.lookup f_law = some ⟨oc_law, od_law, .func (PySem.W.fnOf "law" "law" (defArgs s_law) (defBody s_law) (defScope s_law) .none kV_law dc_law pm_law an_law cd_law ct_law), sl_law⟩) (c_law : PySem.W.codeIn K cd_law "law" = true) (k_law : PySem.W.keepIn K (.ref f_law) = true)
    (z_abs : PySem.W.nsIn K mainGlobals "abs" = some none)
    (z_all : PySem.W.nsIn K mainGlobals "all" = some none)
    (z_bool : PySem.W.nsIn K mainGlobals "bool" = some none)
    (z_enumerate : PySem.W.nsIn K mainGlobals "enumerate" = some none)
    (z_int : PySem.W.nsIn K mainGlobals "int" = some none)
    (z_isinstance : PySem.W.nsIn K mainGlobals "isinstance" = some none)
    (z_len : PySem.W.nsIn K mainGlobals "len" = some none)
    (z_list : PySem.W.nsIn K mainGlobals "list" = some none)
    (z_max : PySem.W.nsIn K mainGlobals "max" = some none)
    (z_range : PySem.W.nsIn K mainGlobals "range" = some none)
    (z_str : PySem.W.nsIn K mainGlobals "str" = some none)
    (z_tuple : PySem.W.nsIn K mainGlobals "tuple" = some none)
    (a_Maker : PySem.W.nsIn K mainGlobals "Maker" = some (some (.ref C_Maker))) (pg_Maker : PySem.W.plainGet K C_Maker Str.empty = true) (hd_Maker : PySem.W.hasDictIn K C_Maker = true) (po_Maker : PySem.W.plainOver K C_Maker = true) (sa_Maker : PySem.W.findIn K (.ref C_Maker) "__setattr__" = some (some (.builtin "object.__setattr__"))) (mk_Maker : PySem.W.makesIn K C_Maker = true) (kc_Maker : PySem.W.keepIn K (.ref C_Maker) = true)
    (n_Maker_many : PySem.W.findIn K (.ref C_Maker) "many" = some none)
    (n_Maker_rows : PySem.W.findIn K (.ref C_Maker) "rows" = some none)
    (n_Maker_numbers : PySem.W.findIn K (.ref C_Maker) "numbers" = some none) :
    ∃ fd : FuncData, (∀ (s : Shared) (v : Value), BindsTo s fd ⟨[v], []⟩ [("script", v)]) ∧ ∀ base : Heap, K.In base → base.Ns mainGlobals mg → FnOk l.prog w K mg base CX0 10 fa fd ["script"] (spLaw K) := by
  have e := hfa.symm.trans (PySem.W.mg_of X G a_law)
  cases e
  have T : Txt K mg := ⟨PySem.W.mg_none_of X G z_abs, PySem.W.mg_none_of X G z_all, PySem.W.mg_none_of X G z_bool, PySem.W.mg_none_of X G z_enumerate, PySem.W.mg_none_of X G z_int, PySem.W.mg_none_of X G z_isinstance, PySem.W.mg_none_of X G z_len, PySem.W.mg_none_of X G z_list, PySem.W.mg_none_of X G z_max, PySem.W.mg_none_of X G z_range, PySem.W.mg_none_of X G z_str, PySem.W.mg_none_of X G z_tuple⟩
  have F__law_deck := fun_mk (st := s__law_deck) l__law_deck c__law_deck k__law_deck
  have B__law_deck := F__law_deck.binds (ps := ["script", "cells", "each"]) fun _ _ _ _ _ _ us hl => match us, hl with | [_, _, _], _ => rfl
  have m__law_deck := PySem.W.mg_of X G a__law_deck
  have F__law_take := fun_mk (st := s__law_take) l__law_take c__law_take k__law_take
  have B__law_take := F__law_take.binds (ps := ["deck", "many"]) fun _ _ _ _ _ _ us hl => match us, hl with | [_, _], _ => rfl
  have m__law_take := PySem.W.mg_of X G a__law_take
  have F__law_plain := fun_mk (st := s__law_plain) l__law_plain c__law_plain k__law_plain
  have B__law_plain := F__law_plain.binds (ps := ["value"]) fun _ _ _ _ _ _ us hl => match us, hl with | [_], _ => rfl
  have m__law_plain := PySem.W.mg_of X G a__law_plain
  have F_is_number := fun_mk (st := s_is_number) l_is_number c_is_number k_is_number
  have B_is_number := F_is_number.binds (ps := ["value"]) fun _ _ _ _ _ _ us hl => match us, hl with | [_], _ => rfl
  have m_is_number := PySem.W.mg_of X G a_is_number
  have F_rows_good := fun_mk (st := s_rows_good) l_rows_good c_rows_good k_rows_good
  have B_rows_good := F_rows_good.binds (ps := ["rows", "many"]) fun _ _ _ _ _ _ us hl => match us, hl with | [_, _], _ => rfl
  have m_rows_good := PySem.W.mg_of X G a_rows_good
  have F_check_diagram := fun_mk (st := s_check_diagram) l_check_diagram c_check_diagram k_check_diagram
  have B_check_diagram := F_check_diagram.binds (ps := ["diagram", "many"]) fun _ _ _ _ _ _ us hl => match us, hl with | [_, _], _ => rfl
  have m_check_diagram := PySem.W.mg_of X G a_check_diagram
  have F_Maker___init__ := fun_mk (st := s_Maker___init__) l_Maker___init__ c_Maker___init__ k_Maker___init__
  have B_Maker___init__ := F_Maker___init__.binds (ps := ["self", "many"]) fun _ _ _ _ _ _ us hl => match us, hl with | [_, _], _ => rfl
  have F_Maker_made := fun_mk (st := s_Maker_made) l_Maker_made c_Maker_made k_Maker_made
  have B_Maker_made := F_Maker_made.binds (ps := ["self", "variable", "tuples"]) fun _ _ _ _ _ _ us hl => match us, hl with | [_, _, _], _ => rfl
  have F_diagram_of := fun_mk (st := s_diagram_of) l_diagram_of c_diagram_of k_diagram_of
  have B_diagram_of := F_diagram_of.binds (ps := ["tuples", "many"]) fun _ _ _ _ _ _ us hl => match us, hl with | [_, _], _ => rfl
  have m_diagram_of := PySem.W.mg_of X G a_diagram_of
  have F_holds := fun_mk (st := s_holds) l_holds c_holds k_holds
  have B_holds := F_holds.binds (ps := ["diagram", "bits"]) fun _ _ _ _ _ _ us hl => match us, hl with | [_, _], _ => rfl
  have m_holds := PySem.W.mg_of X G a_holds
  have F_count_held := fun_mk (st := s_count_held) l_count_held c_count_held k_count_held
  have B_count_held := F_count_held.binds (ps := ["diagram", "many"]) fun _ _ _ _ _ _ us hl => match us, hl with | [_, _], _ => rfl
  have m_count_held := PySem.W.mg_of X G a_count_held
  have F__law_tuples := fun_mk (st := s__law_tuples) l__law_tuples c__law_tuples k__law_tuples
  have B__law_tuples := F__law_tuples.binds (ps := ["many"]) fun _ _ _ _ _ _ us hl => match us, hl with | [_], _ => rfl
  have m__law_tuples := PySem.W.mg_of X G a__law_tuples
  have F__law_followed := fun_mk (st := s__law_followed) l__law_followed c__law_followed k__law_followed
  have B__law_followed := F__law_followed.binds (ps := ["rows", "root", "bits"]) fun _ _ _ _ _ _ us hl => match us, hl with | [_, _, _], _ => rfl
  have m__law_followed := PySem.W.mg_of X G a__law_followed
  have F__law_diagram_right := fun_mk (st := s__law_diagram_right) l__law_diagram_right c__law_diagram_right k__law_diagram_right
  have B__law_diagram_right := F__law_diagram_right.binds (ps := ["rows", "root", "many"]) fun _ _ _ _ _ _ us hl => match us, hl with | [_, _, _], _ => rfl
  have m__law_diagram_right := PySem.W.mg_of X G a__law_diagram_right
  have F__law_made := fun_mk (st := s__law_made) l__law_made c__law_made k__law_made
  have B__law_made := F__law_made.binds (ps := ["rows", "variable", "many", "tuples"]) fun _ _ _ _ _ _ us hl => match us, hl with | [_, _, _, _], _ => rfl
  have m__law_made := PySem.W.mg_of X G a__law_made
  have F_law := fun_mk (st := s_law) l_law c_law k_law
  have B_law := F_law.binds (ps := ["script"]) fun _ _ _ _ _ _ us hl => match us, hl with | [_], _ => rfl
  have m_law := PySem.W.mg_of X G a_law
  have m_Maker := PySem.W.mg_of X G a_Maker
  have M : MkT K C_Maker := ⟨⟨pg_Maker, hd_Maker, po_Maker, sa_Maker⟩, n_Maker_many, n_Maker_rows, n_Maker_numbers⟩
  have me : Meth K C_Maker "made" f_Maker_made := ⟨a_Maker_made, i_Maker_made, k_Maker_made⟩
  refine ⟨PySem.W.fnOf "law" "law" (defArgs s_law) (defBody s_law) (defScope s_law) .none kV_law dc_law pm_law an_law cd_law ct_law, fun s v => .of_eq rfl, fun base _ _ => ?_⟩
  have k_num : FnOk l.prog w K mg base CX0 1 _ _ _ (spNum K) := ok_num F_is_number T
  have c_num : Cal l.prog w K mg base 1 "is_number" (spNum K) [] := ⟨_, _, _, _, k_num, m_is_number, F_is_number.kp, B_is_number, .nil⟩
  have c_numF : Cal l.prog w K mg base 1 "is_number" (fr (spNum K)) [] := ⟨_, _, _, _, fn_fr k_num, m_is_number, F_is_number.kp, B_is_number, .nil⟩
  have c_rows : Cal l.prog w K mg base 2 "rows_good" (spRows K) [] := ⟨_, _, _, _, ok_rows F_rows_good T c_numF, m_rows_good, F_rows_good.kp, B_rows_good, .nil⟩
  have mak : Mak l.prog w K mg base 1 "Maker" C_Maker (spInit C_Maker) [] := ⟨_, _, _, _, ⟨mk_Maker, a_Maker___init__, i_Maker___init__, kc_Maker⟩, ok_init F_Maker___init__ M, m_Maker, B_Maker___init__, .nil⟩
  have met : ∀ n, Met l.prog w K mg base n C_Maker "made" (spMade C_Maker n) [] := fun n => ⟨_, _, _, _, M.cl, me, ok_made F_Maker_made T M me B_Maker_made n, B_Maker_made, .nil⟩
  exact ok_law F_law T {
    deck := ⟨_, _, _, _, ok_deck F__law_deck T, m__law_deck, F__law_deck.kp, B__law_deck, .nil⟩
    take := ⟨_, _, _, _, ok_take F__law_take T, m__law_take, F__law_take.kp, B__law_take, .nil⟩
    plain := fun n => ⟨_, _, _, _, ok_plain F__law_plain T m__law_plain B__law_plain n, m__law_plain, F__law_plain.kp, B__law_plain, .nil⟩
    tuples := ⟨_, _, _, _, ok_tuples F__law_tuples T, m__law_tuples, F__law_tuples.kp, B__law_tuples, .nil⟩
    foll := ⟨_, _, _, _, ok_foll F__law_followed T, m__law_followed, F__law_followed.kp, B__law_followed, .nil⟩
    right := ⟨_, _, _, _, ok_right F__law_diagram_right T, m__law_diagram_right, F__law_diagram_right.kp, B__law_diagram_right, .nil⟩
    lmade := ⟨_, _, _, _, fn_ex (ok_lmade F__law_made T m__law_made B__law_made), m__law_made, F__law_made.kp, B__law_made, .nil⟩
    diag := ⟨_, _, _, _, ok_diag F_diagram_of T M mak met, m_diagram_of, F_diagram_of.kp, B_diagram_of, .nil⟩
    check := ⟨_, _, _, _, ok_check F_check_diagram T c_num c_rows, m_check_diagram, F_check_diagram.kp, B_check_diagram, .nil⟩
    holds := ⟨_, _, _, _, ok_holds F_holds T, m_holds, F_holds.kp, B_holds, .nil⟩
    count := ⟨_, _, _, _, ok_count F_count_held T, m_count_held, F_count_held.kp, B_count_held, .nil⟩ }
theorem walk {l : PySem.W.OpenLaw} {q : Program} {loose : List Str} {XP : (Str → Option Value) → Heap → Prop} {YP : World → Heap → Prop} {d : DefRec} {K : Params → PySem.W.Frag} (hn : l.most = some 63) (hdf : d.params.defaults = [])
    (hY : ∀ (w : World) (h : Heap), YP w h → (K w.params).In h)
    (F : ∀ (w : World) (mg : Str → Option Value) (fa : Addr) (h : Heap), (K w.params).In h → h.Ns mainGlobals mg → mg d.name = some (.ref fa) →
      ∃ fd : FuncData, (∀ (s : Shared) (u : Value), BindsTo s fd ⟨[u], []⟩ [("script", u)]) ∧ ∀ base : Heap, (K w.params).In base → base.Ns mainGlobals mg → FnOk l.prog w (K w.params) mg base CX0 10 fa fd ["script"] (spLaw (K w.params))) :
    PySem.W.WalkO q loose XP YP l.row.toRowW d [] (fun f vs => PySem.call f vs) :=
  L2.walk_of (n := 63) (k := 10) (x := "script") (CX := fun _ => CX0) (sp := fun w => spLaw (K w.params)) hn (by decide) hdf ⟨rfl, by decide, by decide⟩ hY F (fun _ _ a ns hl _ hS => ⟨a, ns, rfl, hS, hl, fun _ => rfl⟩) fun _ _ _ _ _ z => z
end Q43

open PySem PySem.W PyProof.Rows in
set_option maxRecDepth 100000 in
set_option maxHeartbeats 0 in
theorem PySem.Challenge.cw_gatework_k43_whole_diagrams_holds : PySem.Challenge.rw_gatework_k43_whole_diagrams.Holds := by
  w_on; o_law; k_head; (case hw => w_witness2)
  k_fill
  refine Q43.walk (l := PySem.Challenge.rw_gatework_k43_whole_diagrams) rfl rfl (fun w h Y => PySem.W.kIn_of Y) ?F
  case F =>
    intro w mg fa h KX G hmg
    refine' Q43.all_mk KX G hmg ?a__law_deck ?l__law_deck ?c__law_deck ?k__law_deck ?a__law_take ?l__law_take ?c__law_take ?k__law_take ?a__law_plain ?l__law_plain ?c__law_plain ?k__law_plain ?a_is_number ?l_is_number ?c_is_number ?k_is_number ?a_rows_good ?l_rows_good ?c_rows_good ?k_rows_good ?a_check_diagram ?l_check_diagram ?c_check_diagram ?k_check_diagram ?a_Maker___init__ ?i_Maker___init__ ?l_Maker___init__ ?c_Maker___init__ ?k_Maker___init__ ?a_Maker_made ?i_Maker_made ?l_Maker_made ?c_Maker_made ?k_Maker_made ?a_diagram_of ?l_diagram_of ?c_diagram_of ?k_diagram_of ?a_holds ?l_holds ?c_holds ?k_holds ?a_count_held ?l_count_held ?c_count_held ?k_count_held ?a__law_tuples ?l__law_tuples ?c__law_tuples ?k__law_tuples ?a__law_followed ?l__law_followed ?c__law_followed ?k__law_followed ?a__law_diagram_right ?l__law_diagram_right ?c__law_diagram_right ?k__law_diagram_right ?a__law_made ?l__law_made ?c__law_made ?k__law_made ?a_law ?l_law ?c_law ?k_law ?z_abs ?z_all ?z_bool ?z_enumerate ?z_int ?z_isinstance ?z_len ?z_list ?z_max ?z_range ?z_str ?z_tuple ?a_Maker ?pg_Maker ?hd_Maker ?po_Maker ?sa_Maker ?mk_Maker ?kc_Maker ?n_Maker_many ?n_Maker_rows ?n_Maker_numbers
    (case a_Maker => k_is)
    (case a__law_deck => k_is)
    (case l__law_deck => k_is)
    (case c__law_deck => k_is)
    (case k__law_deck => k_is)
    (case a__law_take => k_is)
    (case l__law_take => k_is)
    (case c__law_take => k_is)
    (case k__law_take => k_is)
    (case a__law_plain => k_is)
    (case l__law_plain => k_is)
    (case c__law_plain => k_is)
    (case k__law_plain => k_is)
    (case a_is_number => k_is)
    (case l_is_number => k_is)
    (case c_is_number => k_is)
    (case k_is_number => k_is)
    (case a_rows_good => k_is)
    (case l_rows_good => k_is)
    (case c_rows_good => k_is)
    (case k_rows_good => k_is)
    (case a_check_diagram => k_is)
    (case l_check_diagram => k_is)
    (case c_check_diagram => k_is)
    (case k_check_diagram => k_is)
    (case a_Maker___init__ => k_is)
    (case i_Maker___init__ => k_is)
    (case l_Maker___init__ => k_is)
    (case c_Maker___init__ => k_is)
    (case k_Maker___init__ => k_is)
    (case a_Maker_made => k_is)
    (case i_Maker_made => k_is)
    (case l_Maker_made => k_is)
    (case c_Maker_made => k_is)
    (case k_Maker_made => k_is)
    (case a_diagram_of => k_is)
    (case l_diagram_of => k_is)
    (case c_diagram_of => k_is)
    (case k_diagram_of => k_is)
    (case a_holds => k_is)
    (case l_holds => k_is)
    (case c_holds => k_is)
    (case k_holds => k_is)
    (case a_count_held => k_is)
    (case l_count_held => k_is)
    (case c_count_held => k_is)
    (case k_count_held => k_is)
    (case a__law_tuples => k_is)
    (case l__law_tuples => k_is)
    (case c__law_tuples => k_is)
    (case k__law_tuples => k_is)
    (case a__law_followed => k_is)
    (case l__law_followed => k_is)
    (case c__law_followed => k_is)
    (case k__law_followed => k_is)
    (case a__law_diagram_right => k_is)
    (case l__law_diagram_right => k_is)
    (case c__law_diagram_right => k_is)
    (case k__law_diagram_right => k_is)
    (case a__law_made => k_is)
    (case l__law_made => k_is)
    (case c__law_made => k_is)
    (case k__law_made => k_is)
    (case a_law => k_is)
    (case l_law => k_is)
    (case c_law => k_is)
    (case k_law => k_is)
    (case z_abs => k_is)
    (case z_all => k_is)
    (case z_bool => k_is)
    (case z_enumerate => k_is)
    (case z_int => k_is)
    (case z_isinstance => k_is)
    (case z_len => k_is)
    (case z_list => k_is)
    (case z_max => k_is)
    (case z_range => k_is)
    (case z_str => k_is)
    (case z_tuple => k_is)
    (case pg_Maker => k_is)
    (case hd_Maker => k_is)
    (case po_Maker => k_is)
    (case sa_Maker => k_is)
    (case mk_Maker => k_is)
    (case kc_Maker => k_is)
    (case n_Maker_many => k_is)
    (case n_Maker_rows => k_is)
    (case n_Maker_numbers => k_is)

