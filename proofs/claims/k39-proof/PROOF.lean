import PyProof.Rows.All
import Wide.All
import OpenK.AllK
import Wide.FinOn
import HandS.ForMost
import HandS.Codes
import HandS.IsInst
import HandS.Deep
import HandS.Style
import HandS.Wide
import HandS.TupAny
import HandS.Nested
import HandS.ExcInit
import HandS.ExcField
import HandS.TryOnly
import HandS.WordsExc
import KE.KExcSuper
import HandS.ExcIs
import HandS.Flow
import HandS.Conv
import HandS.Strs
import HandS.SetFor
import HandS.More
import HandS.Iter
import HandS.FStr
import HandS.Text
import HandS.Sort
import PyProof.DictItems
import PyProof.ZipIter
import PyProof.Draws
import HandS.Zip
import PySem.Challenge.RW_gatework_k39_words
set_option Elab.async false
set_option linter.all false
set_option maxRecDepth 100000
set_option maxHeartbeats 8000000
/-! ## general lemmas about the abstract heap and data (my own) -/
namespace G
open PySem L2

theorem same_new {H : Hp} {p : Addr} {o : HO} (h : H p = none) : Same H (upd H p o) := fun b u e => by
  rw [upd_ne (ne_of_none e h)]
  exact e
theorem same_mut {H H' : Hp} {p : Addr} {o : HO} (e : Same H H') (h : H p = none) : Same H (upd H' p o) := fun a u ha => by
  rw [upd_ne (ne_of_none ha h)]
  exact e a u ha
/-- all but what stands at a is as it was -/
def But (a : Addr) (H H' : Hp) : Prop := ∀ b o, b ≠ a → H b = some o → H' b = some o
theorem But.refl (a : Addr) (H : Hp) : But a H H := fun _ _ _ h => h
theorem But.trans {a : Addr} {H H1 H2 : Hp} (x : But a H H1) (y : But a H1 H2) : But a H H2 := fun b o n h => y b o n (x b o n h)
theorem But.of {a : Addr} {H H' : Hp} (x : Same H H') : But a H H' := fun b o _ h => x b o h
theorem but_upd {H : Hp} {p : Addr} {o : HO} : But p H (upd H p o) := fun b u n e => by
  rw [upd_ne n]
  exact e
theorem upd_self {H : Hp} {a : Addr} {o : HO} (h : H a = some o) : upd H a o = H := by
  funext b
  unfold upd
  split
  · rename_i e
    rw [e, h]
  · rfl
theorem Same.tup {K : PySem.W.Frag} {H H' : Hp} {a : Addr} {xs : List V} (e : Same H H') (h : SqT K H a xs) : SqT K H' a xs := by
  rcases h with (h | ⟨o, h⟩) | h
  · exact .inl (.inl (e _ _ h))
  · exact .inl (.inr ⟨o, e _ _ h⟩)
  · exact .inr h
theorem SqT.of' {K : PySem.W.Frag} {H : Hp} {a : Addr} {xs : List V} (h : H a = some (.tup xs)) : SqT K H a xs := .inl (.inl h)
theorem SqL.of' {K : PySem.W.Frag} {H : Hp} {a : Addr} {xs : List V} (h : H a = some (.lst xs)) : SqL K H a xs := .inl (.inl h)

mutual
theorem dp_same {K : PySem.W.Frag} {H H' : Hp} (e : Same H H') : ∀ {v : V} {d : PyData}, Dp K H v d → Dp K H' v d
  | _, _, .non => .non
  | _, _, .bl b => .bl b
  | _, _, .int i => .int i
  | _, _, .str x => .str x
  | _, _, .lst h a => .lst (Same.seq e h) (dps_same e a)
  | _, _, .tup h a => .tup (Same.tup e h) (dps_same e a)
theorem dps_same {K : PySem.W.Frag} {H H' : Hp} (e : Same H H') : ∀ {v : List V} {d : List PyData}, DpAll K H v d → DpAll K H' v d
  | _, _, .nil => .nil
  | _, _, .cons h t => .cons (dp_same e h) (dps_same e t)
end
theorem dp_int {K : PySem.W.Frag} {H : Hp} {v : V} {i : Int} (h : Dp K H v (.int i)) : v = .int i := by cases h; rfl
theorem dp_str {K : PySem.W.Frag} {H : Hp} {v : V} {i : Str} (h : Dp K H v (.str i)) : v = .str i := by cases h; rfl
theorem dp_bl {K : PySem.W.Frag} {H : Hp} {v : V} {i : Bool} (h : Dp K H v (.bool i)) : v = .bl i := by cases h; rfl
theorem dp_non {K : PySem.W.Frag} {H : Hp} {v : V} (h : Dp K H v .none) : v = .non := by cases h; rfl
theorem dp_lst {K : PySem.W.Frag} {H : Hp} {v : V} {ds : List PyData} (h : Dp K H v (.list ds)) : ∃ a xs, v = .ref a ∧ SqL K H a xs ∧ DpAll K H xs ds := by
  cases h with
  | lst h a => exact ⟨_, _, rfl, h, a⟩
theorem dp_tup {K : PySem.W.Frag} {H : Hp} {v : V} {ds : List PyData} (h : Dp K H v (.tuple ds)) : ∃ a xs, v = .ref a ∧ SqT K H a xs ∧ DpAll K H xs ds := by
  cases h with
  | tup h a => exact ⟨_, _, rfl, h, a⟩
theorem dps_len {K : PySem.W.Frag} {H : Hp} : ∀ {vs : List V} {ds : List PyData}, DpAll K H vs ds → vs.length = ds.length
  | _, _, .nil => rfl
  | _, _, .cons _ t => congrArg (· + 1) (dps_len t)
theorem dps_get {K : PySem.W.Frag} {H : Hp} : ∀ {vs : List V} {ds : List PyData} {i : Nat} {d : PyData}, DpAll K H vs ds → ds[i]? = some d → ∃ v, vs[i]? = some v ∧ Dp K H v d
  | _, _, i, d, .nil, e => by simp at e
  | _, _, 0, d, .cons h t, e => by
    simp at e
    subst e
    exact ⟨_, rfl, h⟩
  | _, _, i + 1, d, .cons h t, e => by
    obtain ⟨v, h1, h2⟩ := dps_get (i := i) (d := d) t (by simpa using e)
    exact ⟨v, by simpa using h1, h2⟩
theorem dps_getv {K : PySem.W.Frag} {H : Hp} : ∀ {vs : List V} {ds : List PyData} {i : Nat} {v : V}, DpAll K H vs ds → vs[i]? = some v → ∃ d, ds[i]? = some d ∧ Dp K H v d
  | _, _, i, d, .nil, e => by simp at e
  | _, _, 0, d, .cons h t, e => by
    simp at e
    subst e
    exact ⟨_, rfl, h⟩
  | _, _, i + 1, d, .cons h t, e => by
    obtain ⟨v, h1, h2⟩ := dps_getv (i := i) (v := d) t (by simpa using e)
    exact ⟨v, by simpa using h1, h2⟩
theorem dps_app {K : PySem.W.Frag} {H : Hp} : ∀ {vs ws : List V} {ds es : List PyData}, DpAll K H vs ds → DpAll K H ws es → DpAll K H (vs ++ ws) (ds ++ es)
  | _, _, _, _, .nil, t => t
  | _, _, _, _, .cons h r, t => .cons h (dps_app r t)
theorem dps_snoc {K : PySem.W.Frag} {H : Hp} {vs : List V} {w : V} {ds : List PyData} {e : PyData} (h : DpAll K H vs ds) (t : Dp K H w e) : DpAll K H (vs ++ [w]) (ds ++ [e]) := dps_app h (.cons t .nil)
theorem dps_take {K : PySem.W.Frag} {H : Hp} : ∀ {vs : List V} {ds : List PyData} (n : Nat), DpAll K H vs ds → DpAll K H (vs.take n) (ds.take n)
  | _, _, 0, _ => by simpa using .nil
  | _, _, _ + 1, .nil => .nil
  | _, _, n + 1, .cons h t => .cons h (dps_take n t)
theorem dps_drop {K : PySem.W.Frag} {H : Hp} : ∀ {vs : List V} {ds : List PyData} (n : Nat), DpAll K H vs ds → DpAll K H (vs.drop n) (ds.drop n)
  | _, _, 0, h => h
  | _, _, _ + 1, .nil => .nil
  | _, _, n + 1, .cons h t => dps_drop n t
theorem dps_rev {K : PySem.W.Frag} {H : Hp} : ∀ {vs : List V} {ds : List PyData}, DpAll K H vs ds → DpAll K H vs.reverse ds.reverse
  | _, _, .nil => .nil
  | _, _, .cons h t => by
    rw [List.reverse_cons, List.reverse_cons]
    exact dps_snoc (dps_rev t) h
theorem dps_set {K : PySem.W.Frag} {H : Hp} {v : V} {d : PyData} (hd : Dp K H v d) : ∀ {vs : List V} {ds : List PyData} (n : Nat), DpAll K H vs ds → DpAll K H (vs.set n v) (ds.set n d)
  | _, _, _, .nil => .nil
  | _, _, 0, .cons _ t => .cons hd t
  | _, _, n + 1, .cons h t => .cons h (dps_set hd n t)
theorem dps_ints {K : PySem.W.Frag} {H : Hp} : ∀ (ns : List Int), DpAll K H (ns.map V.int) (ns.map PyData.int)
  | [] => .nil
  | n :: r => .cons (.int n) (dps_ints r)
theorem dps_ints_of {K : PySem.W.Frag} {H : Hp} : ∀ {ns : List Int} {vs : List V}, DpAll K H vs (ns.map PyData.int) → vs = ns.map V.int
  | [], _, .nil => rfl
  | n :: r, _, .cons h t => by
    cases dp_int h
    rw [dps_ints_of t]
    rfl
/-- the name of a datum's type -/
def tyD : PyData → String
  | .none => "NoneType"
  | .bool _ => "bool"
  | .int _ => "int"
  | .str _ => "str"
  | .list _ => "list"
  | .tuple _ => "tuple"
  | .dict _ => "dict"
theorem dp_ty {K : PySem.W.Frag} {H : Hp} {v : V} {d : PyData} (h : Dp K H v d) : TyX K H v (.type (tyD d)) := by
  cases h with
  | non => exact .base .non
  | bl b => exact .base (.bl b)
  | int i => exact .base (.int i)
  | str x => exact .base (.str x)
  | lst h a =>
    rcases h with (h | ⟨o, h⟩) | ⟨o, _, _, h1, h2, _⟩
    · exact .base (.lst h)
    · exact .base (.frz h)
    · exact .kList h1 h2
  | tup h a =>
    rcases h with (h | ⟨o, h⟩) | ⟨o, _, _, h1, h2, _⟩
    · exact .base (.tup h)
    · exact .fTuple h
    · exact .kTuple h1 h2
/-- isinstance(x, T) of data: the answers -/
def isT (t T : String) : Bool := decide (t = T) || (decide (t = "bool") && decide (T = "int"))
def isD (T : String) (d : PyData) : Bool := isT (tyD d) T
theorem kit_tab : ∀ t ∈ ["NoneType", "bool", "int", "str", "list", "tuple", "dict"], ∀ T ∈ ["int", "bool", "str", "list", "tuple", "dict"], kitB t T = some (isT t T) := by decide +kernel
theorem tyD_mem (d : PyData) : tyD d ∈ ["NoneType", "bool", "int", "str", "list", "tuple", "dict"] := by cases d <;> simp [tyD]
theorem kitD (K : PySem.W.Frag) (d : PyData) (T : String) (hT : T ∈ ["int", "bool", "str", "list", "tuple", "dict"]) : PySem.W.kitOne K (.type (tyD d)) (.type T) = some (isD T d) :=
  kit_ty (kit_tab _ (tyD_mem d) T hT)
theorem kitD2 (K : PySem.W.Frag) (d : PyData) (S T : String) (hS : S ∈ ["int", "bool", "str", "list", "tuple", "dict"]) (hT : T ∈ ["int", "bool", "str", "list", "tuple", "dict"]) :
    PySem.W.kitAny K (.type (tyD d)) [.type S, .type T] = some (isD S d || isD T d) := by
  refine kitAny_cons (kitD K d S hS) (fun h => ?_) (fun h => by rw [h]; rfl)
  rw [h]
  refine kitAny_cons (kitD K d T hT) (fun h => ?_) (fun h => by rw [h]; rfl)
  rw [h]
  rfl
theorem clsv2 (S T : String) : Paired ClsV [V.ty S, V.ty T] [Value.type S, Value.type T] := .cons (.ty S) (.cons (.ty T) .nil)
/-- items of a list, a tuple by a number that is not below 0 -/
theorem at_nat {xs : List V} {i : Nat} {v : V} (h : xs[i]? = some v) : atI xs (i : Int) = some v := atI_nat h
/-- only a deck is known: some ints, not many -/
def Deck (H : Hp) (a : Addr) : Prop := ∃ ds : List Int, ds.length ≤ 2000 ∧ H a = some (.lst (ds.map V.int))
theorem Deck.same {H H' : Hp} {a : Addr} (h : Deck H a) (e : Same H H') : Deck H' a := let ⟨ds, h1, h2⟩ := h; ⟨ds, h1, e _ _ h2⟩

/-! ### the frame: what a call does not see stands as it was -/
/-- without the lists of S -/
def out (H : Hp) (S : Addr → Bool) : Hp := fun b => if S b = true then none else H b
/-- the lists of S put back -/
def back (H H' : Hp) (S : Addr → Bool) : Hp := fun b => if S b = true then H b else H' b
theorem out_in {H : Hp} {S : Addr → Bool} {b : Addr} (h : S b = true) : out H S b = none := by unfold out; rw [if_pos h]
theorem out_ne {H : Hp} {S : Addr → Bool} {b : Addr} (h : ¬ S b = true) : out H S b = H b := by unfold out; rw [if_neg h]
theorem back_in {H H' : Hp} {S : Addr → Bool} {b : Addr} (h : S b = true) : back H H' S b = H b := by unfold back; rw [if_pos h]
theorem back_ne {H H' : Hp} {S : Addr → Bool} {b : Addr} (h : ¬ S b = true) : back H H' S b = H' b := by unfold back; rw [if_neg h]
/-- a promise that may be used over a part of the heap -/
@[irreducible] def fr (sp : Sp) : Sp := fun vs H Q E => ∃ S : Addr → Bool, (∀ b, S b = true → ∃ xs, H b = some (.lst xs)) ∧ sp vs (out H S) (fun v H' => (∀ b, S b = true → H' b = none) → Q v (back H H' S)) E
theorem fn_fr {P : Program} {w : World} {K : PySem.W.Frag} {mg : Str → Option Value} {base : Heap} {k : Nat} {f : Addr} {fd : FuncData} {ps : List Str} {sp : Sp} (F : FnOk P w K mg base CX0 k f fd ps sp) : FnOk P w K mg base CX0 k f fd ps (fr sp) := by
  refine ⟨fun vs H Q E hs => by unfold fr at hs; obtain ⟨S, _, h⟩ := hs; exact F.len _ _ _ _ h, fun A outer s H args us vs Q E hr e0 hb hv hs => ?_⟩
  unfold fr at hs
  obtain ⟨S, hS, h⟩ := hs
  have hne : ∀ b, H b = none → ¬ S b = true := fun b n q => by
    obtain ⟨xs, e⟩ := hS b q
    rw [n] at e
    cases e
  have hout : ∀ b, H b = none → out H S b = none := fun b n => by rw [out_ne (hne b n)]; exact n
  have hoth : ∀ b o, H b = some o → (∀ xs, o ≠ .lst xs) → ¬ S b = true := fun b o e n q => by
    obtain ⟨xs, e'⟩ := hS b q
    rw [e] at e'
    exact n xs (Option.some.inj e')
  have okout : HOk P w (out H S) s.heap := fun a o e => by
    have ns : ¬ S a = true := fun q => by rw [out_in q] at e; cases e
    rw [out_ne ns] at e
    refine (e0.hok a o e).stay (fun b u _ q => q) (fun b q => ?_) (fun b xs q => ?_)
    · rw [out_ne (hoth b _ q fun xs z => by cases z)]; exact q
    · rw [out_ne (hoth b _ q fun xs z => by cases z)]; exact q
  have e1 : Env0 P w K mg base A outer s (out H S) := ⟨e0.frames, e0.mod, fun b o q => ⟨(e0.bs b o q).1, hout b (e0.bs b o q).2⟩, e0.bsz, e0.funs, fun b q => hout b (e0.frf b q), okout, e0.bare⟩
  refine codeAny_mono (F.run A outer s (out H S) args us vs _ E hr e1 hb hv h) fun r s' q => ?_
  cases r with
  | error e => exact q
  | ok fl =>
    cases fl with
    | next => exact q
    | brk => exact q
    | cont => exact q
    | ret u =>
      obtain ⟨v, H', os, bare, un, hok, rv, q⟩ := q
      have hobj : ∀ b, S b = true → ∃ o, s.heap.get? b = some o := fun b q => by
        obtain ⟨xs, e⟩ := hS b q
        obtain ⟨_, its, n, _, e'⟩ := e0.hok b _ e
        exact ⟨_, e'⟩
      have hfree : ∀ b, S b = true → H' b = none := fun b q => by
        obtain ⟨o, e⟩ := hobj b q
        exact un.free b o e (out_in q) (by simp)
      have hkeep : ∀ b o, S b = true → s.heap.get? b = some o → s'.heap.get? b = some o := fun b o q e => by
        obtain ⟨xs, e'⟩ := hS b q
        exact un.keep b o e (out_in q) (fun z => by rw [e0.frf b z] at e'; cases e') (by simp)
      refine ⟨v, back H H' S, os, bare, ⟨fun b o e n hb hx => un.keep b o e (hout b n) hb hx, fun b o e n hb hx => un.slot b o e (hout b n) hb hx, fun b o e n hx => ?_, un.there, fun b xs e => ?_, fun b o u e => ?_, fun b ps e => ?_⟩, fun a o e => ?_, rv, q hfree⟩
      · rw [back_ne (hne b n)]
        exact un.free b o e (hout b n) hx
      · have ns := hoth b _ e fun xs z => by cases z
        rw [back_ne ns]
        exact un.tups b xs (by rw [out_ne ns]; exact e)
      · have ns := hoth b _ e fun xs z => by cases z
        rw [back_ne ns]
        exact un.frzs b o u (by rw [out_ne ns]; exact e)
      · have ns := hoth b _ e fun xs z => by cases z
        rw [back_ne ns]
        exact un.tbls b ps (by rw [out_ne ns]; exact e)
      · by_cases sa : S a = true
        · rw [back_in sa] at e
          obtain ⟨xs, e'⟩ := hS a sa
          rw [e'] at e
          cases e
          obtain ⟨hl, its, n, r, g⟩ := e0.hok a _ e'
          exact ⟨hl, its, n, r, hkeep a _ sa g⟩
        · rw [back_ne sa] at e
          refine (hok a o e).stay (fun b u _ z => z) (fun b z => ?_) (fun b xs z => ?_)
          · rw [back_ne fun sb => by rw [hfree b sb] at z; cases z]; exact z
          · rw [back_ne fun sb => by rw [hfree b sb] at z; cases z]; exact z
/-- one list put aside -/
theorem fr_one {sp : Sp} {vs : List V} {G : Hp} {D : Addr} {acc : List V} {Q : VK} {E : XK} (hD : G D = none) (h : sp vs G (fun v G' => G' D = none → Q v (upd G' D (.lst acc))) E)
    (mono : ∀ (Q1 Q2 : VK), (∀ v G', Q1 v G' → Q2 v G') → sp vs G Q1 E → sp vs G Q2 E) : fr sp vs (upd G D (.lst acc)) Q E := by
  have e : out (upd G D (.lst acc)) (fun b => decide (b = D)) = G := by
    funext b
    unfold out upd
    by_cases hb : b = D
    · rw [if_pos (decide_eq_true hb), hb, hD]
    · rw [if_neg (fun z => hb (of_decide_eq_true z)), if_neg hb]
  unfold fr
  refine ⟨fun b => decide (b = D), fun b hb => ⟨acc, by rw [of_decide_eq_true hb, upd_same]⟩, ?_⟩
  rw [e]
  refine mono _ _ (fun v G' q hn => ?_) h
  have hn' : G' D = none := hn D (decide_eq_true rfl)
  have e2 : back (upd G D (.lst acc)) G' (fun b => decide (b = D)) = upd G' D (.lst acc) := by
    funext b
    unfold back upd
    by_cases hb : b = D
    · rw [if_pos (decide_eq_true hb), if_pos hb, if_pos hb]
    · rw [if_neg (fun z => hb (of_decide_eq_true z)), if_neg hb]
  rw [e2]
  exact q hn'
/-- a comprehension over data, with one test, that changes nothing: its list has the images of those that are kept -/
theorem lc_data {K : PySem.W.Frag} {a : Addr} {xs : List V} {ds : List PyData} {gt : TG} {tt : TT} {te : TE} {vs : List Nat} {σ : St} {H1 : Hp} {D : Addr} {Qd : Hp → Prop} (p : PyData → Bool) (g : PyData → PyData)
    (hx : SqL K H1 a xs) (hd : DpAll K H1 xs ds) (hD : H1 D = none) (hl : ds.length ≤ 100000)
    (hs : ∀ (v : V) (d : PyData) (G : Hp) (acc : List V) (R : Hp → Prop), d ∈ ds → Dp K G v d → Same H1 G → G D = none → acc.length < sizeLine →
      (p d = false → ∀ G', Same G G' → G' D = none → R (upd G' D (.lst acc))) →
      (p d = true → ∀ (G' : Hp) (u : V), Same G G' → G' D = none → Dp K G' u (g d) → R (upd G' D (.lst (acc ++ [u])))) →
      gt v (wipe σ vs) (upd G D (.lst acc)) fun σ2 H2 => wipe σ2 vs = wipe σ vs ∧ tt σ2 H2 fun b H3 =>
        if b = true then te σ2 H3 fun y H4 => ∃ acc, H4 D = some (.lst acc) ∧ acc.length < sizeLine ∧ R (upd H4 D (.lst (acc ++ [y]))) else R H3)
    (hq : ∀ (G : Hp) (ys : List V), Same H1 G → G D = none → DpAll K G ys ((ds.filter p).map g) → Qd (upd G D (.lst ys))) :
    ∃ W : Nat → Nat → Hp → Prop, (∃ m, W 0 m (upd H1 D (.lst []))) ∧ ∀ i m H, W i m H →
      ((Itl K a).stop i H ∧ Qd H) ∨ ((Itl K a).go i H ∧ ∃ Nx : Hp → Prop, (∀ H', Nx H' → ∃ m', m' < m ∧ W (i + 1) m' H') ∧ ∀ x H', (Itl K a).yld i H x H' → gt x (wipe σ vs) H' fun σ2 H2 => wipe σ2 vs = wipe σ vs ∧ tt σ2 H2 fun b H3 =>
        if b = true then te σ2 H3 fun y H4 => ∃ acc, H4 D = some (.lst acc) ∧ acc.length < sizeLine ∧ Nx (upd H4 D (.lst (acc ++ [y]))) else Nx H3) := by
  have hxd := dps_len hd
  refine lc_list (K := K) (a := a) (xs := xs) (fun i H => ∃ (G : Hp) (ys : List V), Same H1 G ∧ G D = none ∧ H = upd G D (.lst ys) ∧ DpAll K G ys (((ds.take i).filter p).map g)) ⟨H1, [], Same.refl _, hD, rfl, .nil⟩ ?_ ?_ ?_
  · rintro i H _ ⟨G, ys, s, hG, rfl, _⟩
    exact (same_new hG).seq (s.seq hx)
  · rintro i x H hi ⟨G, ys, s, hG, rfl, hy⟩
    obtain ⟨d, hdi, dx⟩ := dps_getv hd hi
    have il : i < ds.length := (List.getElem?_eq_some_iff.mp hdi).1
    have dm : d ∈ ds := List.mem_of_getElem? hdi
    have yl : ys.length ≤ i := by
      rw [dps_len hy, List.length_map]
      refine Nat.le_trans (List.length_filter_le _ _) ?_
      rw [List.length_take]
      omega
    have tk : ds.take (i + 1) = ds.take i ++ [d] := by rw [List.take_add_one, hdi]; rfl
    refine hs x d G ys _ dm (dp_same s dx) s hG (Nat.lt_of_lt_of_le (show ys.length < 100001 by omega) (by decide)) (fun pf G' s' hG' => ⟨G', ys, s.trans s', hG', rfl, ?_⟩) (fun pt G' u s' hG' du => ⟨G', _, s.trans s', hG', rfl, ?_⟩)
    · rw [tk, List.filter_append, List.filter_cons, if_neg (by rw [pf]; decide), List.filter_nil, List.append_nil]
      exact dps_same s' hy
    · rw [tk, List.filter_append, List.filter_cons, if_pos pt, List.filter_nil, List.map_append]
      exact dps_snoc (dps_same s' hy) du
  · rintro H ⟨G, ys, s, hG, rfl, hy⟩
    refine hq G ys s hG ?_
    rw [List.take_of_length_le (by omega)] at hy
    exact hy
/-- .. over a tuple -/
theorem lc_dataT {K : PySem.W.Frag} {a : Addr} {xs : List V} {ds : List PyData} {gt : TG} {tt : TT} {te : TE} {vs : List Nat} {σ : St} {H1 : Hp} {D : Addr} {Qd : Hp → Prop} (p : PyData → Bool) (g : PyData → PyData)
    (hx : SqT K H1 a xs) (hd : DpAll K H1 xs ds) (hD : H1 D = none) (hl : ds.length ≤ 100000)
    (hs : ∀ (v : V) (d : PyData) (G : Hp) (acc : List V) (R : Hp → Prop), d ∈ ds → Dp K G v d → Same H1 G → G D = none → acc.length < sizeLine →
      (p d = false → ∀ G', Same G G' → G' D = none → R (upd G' D (.lst acc))) →
      (p d = true → ∀ (G' : Hp) (u : V), Same G G' → G' D = none → Dp K G' u (g d) → R (upd G' D (.lst (acc ++ [u])))) →
      gt v (wipe σ vs) (upd G D (.lst acc)) fun σ2 H2 => wipe σ2 vs = wipe σ vs ∧ tt σ2 H2 fun b H3 =>
        if b = true then te σ2 H3 fun y H4 => ∃ acc, H4 D = some (.lst acc) ∧ acc.length < sizeLine ∧ R (upd H4 D (.lst (acc ++ [y]))) else R H3)
    (hq : ∀ (G : Hp) (ys : List V), Same H1 G → G D = none → DpAll K G ys ((ds.filter p).map g) → Qd (upd G D (.lst ys))) :
    ∃ W : Nat → Nat → Hp → Prop, (∃ m, W 0 m (upd H1 D (.lst []))) ∧ ∀ i m H, W i m H →
      ((Itt K a).stop i H ∧ Qd H) ∨ ((Itt K a).go i H ∧ ∃ Nx : Hp → Prop, (∀ H', Nx H' → ∃ m', m' < m ∧ W (i + 1) m' H') ∧ ∀ x H', (Itt K a).yld i H x H' → gt x (wipe σ vs) H' fun σ2 H2 => wipe σ2 vs = wipe σ vs ∧ tt σ2 H2 fun b H3 =>
        if b = true then te σ2 H3 fun y H4 => ∃ acc, H4 D = some (.lst acc) ∧ acc.length < sizeLine ∧ Nx (upd H4 D (.lst (acc ++ [y]))) else Nx H3) := by
  have hxd := dps_len hd
  refine lc_tup (K := K) (a := a) (xs := xs) (fun i H => ∃ (G : Hp) (ys : List V), Same H1 G ∧ G D = none ∧ H = upd G D (.lst ys) ∧ DpAll K G ys (((ds.take i).filter p).map g)) ⟨H1, [], Same.refl _, hD, rfl, .nil⟩ ?_ ?_ ?_
  · rintro i H _ ⟨G, ys, s, hG, rfl, _⟩
    exact Same.tup (same_new hG) (Same.tup s hx)
  · rintro i x H hi ⟨G, ys, s, hG, rfl, hy⟩
    obtain ⟨d, hdi, dx⟩ := dps_getv hd hi
    have il : i < ds.length := (List.getElem?_eq_some_iff.mp hdi).1
    have dm : d ∈ ds := List.mem_of_getElem? hdi
    have yl : ys.length ≤ i := by
      rw [dps_len hy, List.length_map]
      refine Nat.le_trans (List.length_filter_le _ _) ?_
      rw [List.length_take]
      omega
    have tk : ds.take (i + 1) = ds.take i ++ [d] := by rw [List.take_add_one, hdi]; rfl
    refine hs x d G ys _ dm (dp_same s dx) s hG (Nat.lt_of_lt_of_le (show ys.length < 100001 by omega) (by decide)) (fun pf G' s' hG' => ⟨G', ys, s.trans s', hG', rfl, ?_⟩) (fun pt G' u s' hG' du => ⟨G', _, s.trans s', hG', rfl, ?_⟩)
    · rw [tk, List.filter_append, List.filter_cons, if_neg (by rw [pf]; decide), List.filter_nil, List.append_nil]
      exact dps_same s' hy
    · rw [tk, List.filter_append, List.filter_cons, if_pos pt, List.filter_nil, List.map_append]
      exact dps_snoc (dps_same s' hy) du
  · rintro H ⟨G, ys, s, hG, rfl, hy⟩
    refine hq G ys s hG ?_
    rw [List.take_of_length_le (by omega)] at hy
    exact hy
/-- x is True, x is not True: x any flat value but a number, a text -/
def rIsX (neg : Bool) : R2 := fun x y H Q => ∃ b : Bool, y = .bl b ∧ (x = .non ∨ (∃ a : Bool, x = .bl a) ∨ (∃ i : Int, x = .int i) ∨ ∃ z : Str, x = .str z) ∧ Q (.bl (if neg = true then !decide (x = .bl b) else decide (x = .bl b))) H
section
variable {X : Cx}
theorem op_isX : OpR X (compareOp .Is) (rIsX false) := by
  intro pins s σ H x y v u Q I rx ry h
  obtain ⟨b, rfl, hx, q⟩ := h
  cases (show u = Value.bool b from ry)
  rcases hx with rfl | ⟨a, rfl⟩ | ⟨i, rfl⟩ | ⟨z, rfl⟩
  · cases (show v = Value.none from rx)
    exact PySem.wpAny_is_other rfl (fun z => nomatch z) ⟨.bl false, H, I, rfl, by simpa using q⟩
  · cases (show v = Value.bool a from rx)
    by_cases e : a = b
    · subst e
      exact PySem.wpAny_is_self rfl ⟨.bl true, H, I, rfl, by simpa using q⟩
    · exact PySem.wpAny_is_other rfl (fun z => e (Value.bool.inj z)) ⟨.bl false, H, I, rfl, by simpa [e] using q⟩
  · obtain ⟨t, rfl⟩ := (show ∃ t, v = Value.int i t from rx)
    exact PySem.wpAny_is_other rfl (fun z => nomatch z) ⟨.bl false, H, I, rfl, by simpa using q⟩
  · obtain ⟨t, rfl⟩ := (show ∃ t, v = Value.str z t from rx)
    exact PySem.wpAny_is_other rfl (fun z => nomatch z) ⟨.bl false, H, I, rfl, by simpa using q⟩
theorem op_notX : OpR X (compareOp .IsNot) (rIsX true) := by
  intro pins s σ H x y v u Q I rx ry h
  obtain ⟨b, rfl, hx, q⟩ := h
  cases (show u = Value.bool b from ry)
  rcases hx with rfl | ⟨a, rfl⟩ | ⟨i, rfl⟩ | ⟨z, rfl⟩
  · cases (show v = Value.none from rx)
    exact PySem.wpAny_isNot_other rfl (fun z => nomatch z) ⟨.bl true, H, I, rfl, by simpa using q⟩
  · cases (show v = Value.bool a from rx)
    by_cases e : a = b
    · subst e
      exact PySem.wpAny_isNot_self rfl ⟨.bl false, H, I, rfl, by simpa using q⟩
    · exact PySem.wpAny_isNot_other rfl (fun z => e (Value.bool.inj z)) ⟨.bl true, H, I, rfl, by simpa [e] using q⟩
  · obtain ⟨t, rfl⟩ := (show ∃ t, v = Value.int i t from rx)
    exact PySem.wpAny_isNot_other rfl (fun z => nomatch z) ⟨.bl true, H, I, rfl, by simpa using q⟩
  · obtain ⟨t, rfl⟩ := (show ∃ t, v = Value.str z t from rx)
    exact PySem.wpAny_isNot_other rfl (fun z => nomatch z) ⟨.bl true, H, I, rfl, by simpa using q⟩
end
theorem upd_app {G : Hp} {D : Addr} {acc ys : List V} : upd (upd G D (.lst acc)) D (.lst ys) = upd G D (.lst ys) := upd_upd

/-! ### lists whose items stand in a relation to plain things -/
theorem paired_get {α β : Type} {F : α → β → Prop} : ∀ {l₁ : List α} {l₂ : List β} {i : Nat} {b : β}, Paired F l₁ l₂ → l₂[i]? = some b → ∃ a, l₁[i]? = some a ∧ F a b
  | _, _, i, b, .nil, e => by simp at e
  | _, _, 0, b, .cons h t, e => by
    simp at e
    subst e
    exact ⟨_, rfl, h⟩
  | _, _, i + 1, b, .cons h t, e => by
    obtain ⟨v, h1, h2⟩ := paired_get (i := i) (b := b) t (by simpa using e)
    exact ⟨v, by simpa using h1, h2⟩
theorem paired_getv {α β : Type} {F : α → β → Prop} : ∀ {l₁ : List α} {l₂ : List β} {i : Nat} {a : α}, Paired F l₁ l₂ → l₁[i]? = some a → ∃ b, l₂[i]? = some b ∧ F a b
  | _, _, i, b, .nil, e => by simp at e
  | _, _, 0, b, .cons h t, e => by
    simp at e
    subst e
    exact ⟨_, rfl, h⟩
  | _, _, i + 1, b, .cons h t, e => by
    obtain ⟨v, h1, h2⟩ := paired_getv (i := i) (a := b) t (by simpa using e)
    exact ⟨v, by simpa using h1, h2⟩
theorem paired_app {α β : Type} {F : α → β → Prop} : ∀ {l₁ m₁ : List α} {l₂ m₂ : List β}, Paired F l₁ l₂ → Paired F m₁ m₂ → Paired F (l₁ ++ m₁) (l₂ ++ m₂)
  | _, _, _, _, .nil, h => h
  | _, _, _, _, .cons h t, k => .cons h (paired_app t k)
theorem paired_take {α β : Type} {F : α → β → Prop} : ∀ {l₁ : List α} {l₂ : List β} (n : Nat), Paired F l₁ l₂ → Paired F (l₁.take n) (l₂.take n)
  | _, _, 0, _ => by simpa using .nil
  | _, _, _ + 1, .nil => .nil
  | _, _, n + 1, .cons h t => .cons h (paired_take n t)
theorem paired_drop {α β : Type} {F : α → β → Prop} : ∀ {l₁ : List α} {l₂ : List β} (n : Nat), Paired F l₁ l₂ → Paired F (l₁.drop n) (l₂.drop n)
  | _, _, 0, h => h
  | _, _, _ + 1, .nil => .nil
  | _, _, n + 1, .cons h t => paired_drop n t
theorem paired_rev {α β : Type} {F : α → β → Prop} : ∀ {l₁ : List α} {l₂ : List β}, Paired F l₁ l₂ → Paired F l₁.reverse l₂.reverse
  | _, _, .nil => .nil
  | _, _, .cons h t => by
    rw [List.reverse_cons, List.reverse_cons]
    exact Paired.snoc (paired_rev t) h
theorem paired_set {α β : Type} {F : α → β → Prop} {a : α} {b : β} (hd : F a b) : ∀ {l₁ : List α} {l₂ : List β} (n : Nat), Paired F l₁ l₂ → Paired F (l₁.set n a) (l₂.set n b)
  | _, _, _, .nil => .nil
  | _, _, 0, .cons _ t => .cons hd t
  | _, _, n + 1, .cons h t => .cons h (paired_set hd n t)
theorem paired_map {α β γ : Type} {F : α → β → Prop} {F' : α → γ → Prop} {g : β → γ} (h : ∀ a b, F a b → F' a (g b)) : ∀ {l₁ : List α} {l₂ : List β}, Paired F l₁ l₂ → Paired F' l₁ (l₂.map g)
  | _, _, .nil => .nil
  | _, _, .cons k t => .cons (h _ _ k) (paired_map h t)
/-- a comprehension with one test that changes nothing, over items that stand in a relation -/
theorem lc_rel {α β : Type} {K : PySem.W.Frag} {a : Addr} {xs : List V} {as : List α} {gt : TG} {tt : TT} {te : TE} {vs : List Nat} {σ : St} {H1 : Hp} {D : Addr} {Qd : Hp → Prop} (RA : Hp → V → α → Prop) (RB : Hp → V → β → Prop)
    (mA : ∀ {H H' : Hp} {v : V} {x : α}, Same H H' → RA H v x → RA H' v x) (mB : ∀ {H H' : Hp} {v : V} {x : β}, Same H H' → RB H v x → RB H' v x) (p : α → Bool) (g : α → β)
    (hx : SqL K H1 a xs) (hd : Paired (RA H1) xs as) (hD : H1 D = none) (hl : as.length ≤ 100000)
    (hs : ∀ (v : V) (x : α) (G : Hp) (acc : List V) (R : Hp → Prop), x ∈ as → RA G v x → Same H1 G → G D = none → acc.length < sizeLine →
      (p x = false → ∀ G', Same G G' → G' D = none → R (upd G' D (.lst acc))) →
      (p x = true → ∀ (G' : Hp) (u : V), Same G G' → G' D = none → RB G' u (g x) → R (upd G' D (.lst (acc ++ [u])))) →
      gt v (wipe σ vs) (upd G D (.lst acc)) fun σ2 H2 => wipe σ2 vs = wipe σ vs ∧ tt σ2 H2 fun b H3 =>
        if b = true then te σ2 H3 fun y H4 => ∃ acc, H4 D = some (.lst acc) ∧ acc.length < sizeLine ∧ R (upd H4 D (.lst (acc ++ [y]))) else R H3)
    (hq : ∀ (G : Hp) (ys : List V), Same H1 G → G D = none → Paired (RB G) ys ((as.filter p).map g) → Qd (upd G D (.lst ys))) :
    ∃ W : Nat → Nat → Hp → Prop, (∃ m, W 0 m (upd H1 D (.lst []))) ∧ ∀ i m H, W i m H →
      ((Itl K a).stop i H ∧ Qd H) ∨ ((Itl K a).go i H ∧ ∃ Nx : Hp → Prop, (∀ H', Nx H' → ∃ m', m' < m ∧ W (i + 1) m' H') ∧ ∀ x H', (Itl K a).yld i H x H' → gt x (wipe σ vs) H' fun σ2 H2 => wipe σ2 vs = wipe σ vs ∧ tt σ2 H2 fun b H3 =>
        if b = true then te σ2 H3 fun y H4 => ∃ acc, H4 D = some (.lst acc) ∧ acc.length < sizeLine ∧ Nx (upd H4 D (.lst (acc ++ [y]))) else Nx H3) := by
  have hxd := hd.length
  refine lc_list (K := K) (a := a) (xs := xs) (fun i H => ∃ (G : Hp) (ys : List V), Same H1 G ∧ G D = none ∧ H = upd G D (.lst ys) ∧ Paired (RB G) ys (((as.take i).filter p).map g)) ⟨H1, [], Same.refl _, hD, rfl, .nil⟩ ?_ ?_ ?_
  · rintro i H _ ⟨G, ys, s, hG, rfl, _⟩
    exact (same_new hG).seq (s.seq hx)
  · rintro i x H hi ⟨G, ys, s, hG, rfl, hy⟩
    obtain ⟨d, hdi, dx⟩ := paired_getv hd hi
    have il : i < as.length := (List.getElem?_eq_some_iff.mp hdi).1
    have dm : d ∈ as := List.mem_of_getElem? hdi
    have yl : ys.length ≤ i := by
      rw [hy.length, List.length_map]
      refine Nat.le_trans (List.length_filter_le _ _) ?_
      rw [List.length_take]
      omega
    have tk : as.take (i + 1) = as.take i ++ [d] := by rw [List.take_add_one, hdi]; rfl
    refine hs x d G ys _ dm (mA s dx) s hG (Nat.lt_of_lt_of_le (show ys.length < 100001 by omega) (by decide)) (fun pf G' s' hG' => ⟨G', ys, s.trans s', hG', rfl, ?_⟩) (fun pt G' u s' hG' du => ⟨G', _, s.trans s', hG', rfl, ?_⟩)
    · rw [tk, List.filter_append, List.filter_cons, if_neg (by rw [pf]; decide), List.filter_nil, List.append_nil]
      exact Paired.mapP hy fun _ _ z => mB s' z
    · rw [tk, List.filter_append, List.filter_cons, if_pos pt, List.filter_nil, List.map_append]
      exact Paired.snoc (Paired.mapP hy fun _ _ z => mB s' z) du
  · rintro H ⟨G, ys, s, hG, rfl, hy⟩
    refine hq G ys s hG ?_
    rw [List.take_of_length_le (by omega)] at hy
    exact hy
/-- a tracked tuple of these values -/
def TupL (H : Hp) (v : V) (ws : List V) : Prop := ∃ t, v = .ref t ∧ H t = some (.tup ws)
theorem TupL.same {H H' : Hp} {v : V} {ws : List V} (s : Same H H') : TupL H v ws → TupL H' v ws := fun ⟨t, e, h⟩ => ⟨t, e, s _ _ h⟩
theorem TupL.but {H H' : Hp} {v : V} {ws : List V} (s : ∀ b ys, H b = some (.tup ys) → H' b = some (.tup ys)) : TupL H v ws → TupL H' v ws := fun ⟨t, e, h⟩ => ⟨t, e, s _ _ h⟩
/-- a deck's change leaves tuples -/
theorem But.tups {a : Addr} {H H' : Hp} (h : But a H H') (hn : ∀ ys, H a ≠ some (.tup ys)) : ∀ b ys, H b = some (.tup ys) → H' b = some (.tup ys) := fun b ys e => h b _ (fun q => hn ys (q ▸ e)) e
theorem upd_none {H : Hp} {p q : Addr} {o : HO} (h : upd H p o q = none) : q ≠ p ∧ H q = none := by
  have e : q ≠ p := by
    rintro rfl
    rw [upd_same] at h
    cases h
  exact ⟨e, by rw [upd_ne e] at h; exact h⟩
theorem int_at {l : List Int} {i : Nat} (h : i < l.length) : (l.map V.int)[i]? = some (.int (l.getD i 0)) := by
  rw [List.getElem?_map, List.getD_eq_getElem?_getD, List.getElem?_eq_getElem h]
  rfl
theorem int_atI {l : List Int} {z : Int} (h0 : 0 ≤ z) (h : z.toNat < l.length) : atI (l.map V.int) z = some (.int (l.getD z.toNat 0)) := by
  obtain ⟨n, rfl⟩ := Int.eq_ofNat_of_zero_le h0
  exact atI_nat (int_at h)
theorem take_snoc {α : Type} {l : List α} {i : Nat} {a : α} (h : l[i]? = some a) : l.take (i + 1) = l.take i ++ [a] := by
  rw [List.take_add_one, h]
  rfl
/-- x + y of two tracked tuples, either may be empty -/
theorem catA_new {K : PySem.W.Frag} {H : Hp} {v u : V} {xs ys : List V} {Q : VK} (h1 : TupL H v xs) (h2 : TupL H u ys) (hl : xs.length + ys.length ≤ sizeLine) (k : ∀ (z : V) (H' : Hp), Same H H' → TupL H' z (xs ++ ys) → Q z H') : rCatA K v u H Q := by
  obtain ⟨a, rfl, ha⟩ := h1
  obtain ⟨b, rfl, hb⟩ := h2
  refine ⟨a, b, xs, ys, rfl, rfl, SqT.of' ha, SqT.of' hb, hl, fun e => ?_, fun _ e => ?_, fun _ _ p hp => ?_⟩
  · exact k _ _ (Same.refl _) ⟨b, rfl, by rw [e, List.nil_append]; exact hb⟩
  · exact k _ _ (Same.refl _) ⟨a, rfl, by rw [e, List.append_nil]; exact ha⟩
  · exact k _ _ (same_new hp) ⟨p, rfl, upd_same⟩
theorem size_of {n : Nat} (h : n ≤ 100000) : n ≤ sizeLine := Nat.le_trans h (by decide)

/-! ### slices -/
theorem cut_to {xs : List V} {i : Nat} (h : i ≤ xs.length) : cutV xs none (some (i : Int)) = xs.take i := by
  unfold cutV
  rw [HT.sIx_none, HT.sIx_nat, List.drop_zero, Nat.sub_zero, Nat.min_eq_left h]
theorem cut_from {xs : List V} {i : Nat} (h : i ≤ xs.length) : cutV xs (some (i : Int)) none = xs.drop i := by
  unfold cutV
  rw [HT.sIx_none, HT.sIx_nat, Nat.min_eq_left h]
  exact List.take_of_length_le (by rw [List.length_drop]; exact Nat.le_refl _)
theorem cut_mid {xs : List V} {i j : Nat} (hi : i ≤ j) (h : j ≤ xs.length) : cutV xs (some (i : Int)) (some (j : Int)) = (xs.drop i).take (j - i) := by
  unfold cutV
  rw [HT.sIx_nat, HT.sIx_nat, Nat.min_eq_left h, Nat.min_eq_left (Nat.le_trans hi h)]

/-! ### data without truth values: equal is the same -/
mutual
def pur : PyData → Bool
  | .none | .int _ | .str _ => true
  | .bool _ => false
  | .list xs | .tuple xs => purs xs
  | .dict _ => false
def purs : List PyData → Bool
  | [] => true
  | x :: xs => pur x && purs xs
end
mutual
theorem eqv_pur : ∀ {d e : PyData}, pur d = true → pur e = true → PyData.eqv d e = true → d = e
  | .none, .none, _, _, _ => rfl
  | .int i, .int j, _, _, h => by rw [eq_of_beq (show (i == j) = true from h)]
  | .str i, .str j, _, _, h => by rw [eq_of_beq (show (i == j) = true from h)]
  | .list xs, .list ys, h1, h2, h => by rw [eqvs_pur (ds := xs) (es := ys) h1 h2 (by simpa [PyData.eqv] using h)]
  | .tuple xs, .tuple ys, h1, h2, h => by rw [eqvs_pur (ds := xs) (es := ys) h1 h2 (by simpa [PyData.eqv] using h)]
  | .bool _, _, h1, _, _ => by simp [pur] at h1
  | .dict _, _, h1, _, _ => by simp [pur] at h1
  | .none, .bool _, _, h2, _ => by simp [pur] at h2
  | .int _, .bool _, _, h2, _ => by simp [pur] at h2
  | .str _, .bool _, _, h2, _ => by simp [pur] at h2
  | .list _, .bool _, _, h2, _ => by simp [pur] at h2
  | .tuple _, .bool _, _, h2, _ => by simp [pur] at h2
  | .none, .dict _, _, h2, _ => by simp [pur] at h2
  | .int _, .dict _, _, h2, _ => by simp [pur] at h2
  | .str _, .dict _, _, h2, _ => by simp [pur] at h2
  | .list _, .dict _, _, h2, _ => by simp [pur] at h2
  | .tuple _, .dict _, _, h2, _ => by simp [pur] at h2
  | .none, .int _, _, _, h => by simp [PyData.eqv] at h
  | .none, .str _, _, _, h => by simp [PyData.eqv] at h
  | .none, .list _, _, _, h => by simp [PyData.eqv] at h
  | .none, .tuple _, _, _, h => by simp [PyData.eqv] at h
  | .int _, .none, _, _, h => by simp [PyData.eqv] at h
  | .int _, .str _, _, _, h => by simp [PyData.eqv] at h
  | .int _, .list _, _, _, h => by simp [PyData.eqv] at h
  | .int _, .tuple _, _, _, h => by simp [PyData.eqv] at h
  | .str _, .none, _, _, h => by simp [PyData.eqv] at h
  | .str _, .int _, _, _, h => by simp [PyData.eqv] at h
  | .str _, .list _, _, _, h => by simp [PyData.eqv] at h
  | .str _, .tuple _, _, _, h => by simp [PyData.eqv] at h
  | .list _, .none, _, _, h => by simp [PyData.eqv] at h
  | .list _, .int _, _, _, h => by simp [PyData.eqv] at h
  | .list _, .str _, _, _, h => by simp [PyData.eqv] at h
  | .list _, .tuple _, _, _, h => by simp [PyData.eqv] at h
  | .tuple _, .none, _, _, h => by simp [PyData.eqv] at h
  | .tuple _, .int _, _, _, h => by simp [PyData.eqv] at h
  | .tuple _, .str _, _, _, h => by simp [PyData.eqv] at h
  | .tuple _, .list _, _, _, h => by simp [PyData.eqv] at h
theorem eqvs_pur : ∀ {ds es : List PyData}, purs ds = true → purs es = true → PyData.eqvAll ds es = true → ds = es
  | [], [], _, _, _ => rfl
  | x :: xs, y :: ys, h1, h2, h => by
    simp only [purs, Bool.and_eq_true] at h1 h2
    simp only [PyData.eqvAll, Bool.and_eq_true] at h
    rw [eqv_pur h1.1 h2.1 h.1, eqvs_pur h1.2 h2.2 h.2]
  | [], _ :: _, _, _, h => by simp [PyData.eqvAll] at h
  | _ :: _, [], _, _, h => by simp [PyData.eqvAll] at h
end
theorem eqv_iff {d e : PyData} (hd : pur d = true) (he : pur e = true) (hs : SeqAt.shaped d = true) : PyData.eqv d e = true ↔ d = e :=
  ⟨eqv_pur hd he, fun h => by rw [← h]; exact SeqAt.eqv_refl d (SeqAt.canLay_of_shaped hs)⟩
mutual
/-- data without texts and dicts, of a depth at most n -/
def flat : Nat → PyData → Bool
  | _, .none | _, .bool _ | _, .int _ => true
  | _, .str _ | _, .dict _ => false
  | 0, .list _ | 0, .tuple _ => false
  | n + 1, .list xs => flats n xs
  | n + 1, .tuple xs => flats n xs
def flats : Nat → List PyData → Bool
  | _, [] => true
  | n, x :: xs => flat n x && flats n xs
end
mutual
theorem flat_lay : ∀ {n : Nat} {d : PyData}, flat n d = true → d.canLay0 = true ∧ d.depth ≤ n
  | n, .none, _ => ⟨by simp [PyData.canLay0], by simp [PyData.depth]⟩
  | n, .bool _, _ => ⟨by simp [PyData.canLay0], by simp [PyData.depth]⟩
  | n, .int _, _ => ⟨by simp [PyData.canLay0], by simp [PyData.depth]⟩
  | n, .str _, h => by simp [flat] at h
  | n, .dict _, h => by simp [flat] at h
  | 0, .list _, h => by simp [flat] at h
  | 0, .tuple _, h => by simp [flat] at h
  | n + 1, .list xs, h => by
    obtain ⟨h1, h2⟩ := flats_lay (n := n) (ds := xs) (by simpa [flat] using h)
    exact ⟨by simp only [PyData.canLay0]; exact h1, by simp only [PyData.depth]; omega⟩
  | n + 1, .tuple xs, h => by
    obtain ⟨h1, h2⟩ := flats_lay (n := n) (ds := xs) (by simpa [flat] using h)
    exact ⟨by simp only [PyData.canLay0]; exact h1, by simp only [PyData.depth]; omega⟩
theorem flats_lay : ∀ {n : Nat} {ds : List PyData}, flats n ds = true → PyData.canLayAll0 ds = true ∧ PyData.depthAll ds ≤ n
  | n, [], _ => ⟨by simp [PyData.canLayAll0], by simp [PyData.depthAll]⟩
  | n, x :: xs, h => by
    simp only [flats, Bool.and_eq_true] at h
    obtain ⟨a1, a2⟩ := flat_lay h.1
    obtain ⟨b1, b2⟩ := flats_lay h.2
    exact ⟨by simp only [PyData.canLayAll0, a1, b1, Bool.and_true], by simp only [PyData.depthAll]; omega⟩
end
theorem shaped_flat {n : Nat} {d : PyData} (h : flat n d = true) (hn : n ≤ 64) : SeqAt.shaped d = true := by
  obtain ⟨h1, h2⟩ := flat_lay h
  show (d.canLay0 && decide (d.depth ≤ 64)) = true
  rw [h1, Bool.true_and]
  exact decide_eq_true (by omega)
theorem flats_ints (n : Nat) : ∀ ns : List Int, flats n (ns.map PyData.int) = true
  | [] => by simp [flats]
  | i :: r => by simp [flats, flat, flats_ints n r]
theorem purs_ints : ∀ ns : List Int, purs (ns.map PyData.int) = true
  | [] => by simp [purs]
  | i :: r => by simp [purs, pur, purs_ints r]
theorem flats_map {α : Type} {n : Nat} {f : α → PyData} (h : ∀ a, flat n (f a) = true) : ∀ l : List α, flats n (l.map f) = true
  | [] => by simp [flats]
  | a :: r => by simp [flats, h a, flats_map h r]
theorem purs_map {α : Type} {f : α → PyData} (h : ∀ a, pur (f a) = true) : ∀ l : List α, purs (l.map f) = true
  | [] => by simp [purs]
  | a :: r => by simp [purs, h a, purs_map h r]

/-! ### rules whose reading names the written part, for the inside of a comprehension -/
section
variable {X : Cx} {K : PySem.W.Frag}
theorem ix_tupK (h : X.K = K) : IxR X (rIxT K) := h ▸ ix_tup
theorem ix_listK (h : X.K = K) : IxR X (rIxL K) := h ▸ ix_list
theorem ix_seqK (h : X.K = K) : IxR X (rIx K) := h ▸ ix_seq
theorem sl_tupAK (h : X.K = K) : SlR X (rSlA K) := h ▸ sl_tupA
theorem sl_tupK (h : X.K = K) : SlR X (rSlT K) := h ▸ sl_tup
theorem sl_listK (h : X.K = K) : SlR X (rSlL K) := h ▸ sl_list
theorem call_isiK' (h : X.K = K) : CallR X (.builtin "isinstance") (rIsi K) := h ▸ call_isi
theorem call_isiTK (h : X.K = K) : CallR X (.builtin "isinstance") (rIsiT K) := h ▸ call_isiT
theorem op_eqDK (h : X.K = K) (hu : X.A.units + 64 < cLine) : OpR X (compareOp .Eq) (rEqD K) := h ▸ op_eqD hu
theorem op_neDK (h : X.K = K) (hu : X.A.units + 64 < cLine) : OpR X (compareOp .NotEq) (rNeD K) := h ▸ op_neD hu
theorem op_inDK (h : X.K = K) (hu : X.A.units + 65 < cLine) : OpR X (compareOp .In) (rInD K) := h ▸ op_inD hu
theorem op_notInDK (h : X.K = K) (hu : X.A.units + 65 < cLine) : OpR X (compareOp .NotIn) (rNotInD K) := h ▸ op_notInD hu
theorem op_catAK (h : X.K = K) : OpR X (binaryOp .Add) (rCatA K) := h ▸ op_catA
def rLenS (K : PySem.W.Frag) : List V → Hp → VK → Prop := fun xs H Q => ∃ p ys, xs = [V.ref p] ∧ (SqL K H p ys ∨ SqT K H p ys) ∧ Q (.int ys.length) H
theorem call_len_seqK (h : X.K = K) : CallR X (.builtin "len") (rLenS K) := by
  subst h
  exact call_len_seq
theorem call_tupleTK (h : X.K = K) : CallR X (.type "tuple") (fun xs H Q => ∃ a ys, xs = [V.ref a] ∧ SqT K H a ys ∧ Q (.ref a) H) := by
  subst h
  exact call_tupleT
theorem call_list_ofK (h : X.K = K) : CallR X (.type "list") (fun xs H Q => ∃ p ys, xs = [V.ref p] ∧ (SqL K H p ys ∨ SqT K H p ys) ∧ ∀ l, H l = none → Q (.ref l) (upd H l (.lst ys))) := by
  subst h
  exact call_list_of
theorem kBM {e : Expr} {T : String} {r : V → List V → Hp → VK → Prop} {to : TE} {t : TA} (h : X.K = K) (p : PE X e (tBM X.K T r to t)) : PE X e (tBM K T r to t) := h ▸ p
theorem kBM0 {e : Expr} {T : String} {r : V → List V → Hp → VK → Prop} {to : TE} (h : X.K = K) (p : PE X e (tBM0 X.K T r to)) : PE X e (tBM0 K T r to) := h ▸ p
theorem kFld {e : Expr} {ta : TE} {f : Str} (h : X.K = K) (p : PE X e (tFld X.K ta f)) : PE X e (tFld K ta f) := h ▸ p
theorem kTup {e : Expr} {n : Nat} {t : TGs} (h : X.K = K) (p : PG X e (gTup X.K n t)) : PG X e (gTup K n t) := h ▸ p
theorem kTru {a : Expr} {ta : TE} (h : X.K = K) (p : PT X a (fun σ H Q => ta σ H fun x H' => ∃ k, TruV X.K x H' k ∧ Q k H')) : PT X a (fun σ H Q => ta σ H fun x H' => ∃ k, TruV K x H' k ∧ Q k H') := by
  subst h
  exact p
theorem kRevL {e : Expr} {te : TE} (h : X.K = K) (p : PE X e (tRevL X.K te)) : PE X e (tRevL K te) := h ▸ p
end

/-! ### a call within a comprehension that leaves all as it was -/
def del1 (H : Hp) (D : Addr) : Hp := fun b => if b = D then none else H b
theorem del1_at (H : Hp) (D : Addr) : del1 H D D = none := by unfold del1; rw [if_pos rfl]
theorem del1_ne {H : Hp} {D b : Addr} (h : b ≠ D) : del1 H D b = H b := by unfold del1; rw [if_neg h]
theorem split_at {H : Hp} {D : Addr} {o : HO} (h : H D = some o) : H = upd (del1 H D) D o := by
  funext b
  unfold upd del1
  by_cases e : b = D
  · rw [if_pos e, e, h]
  · rw [if_neg e, if_neg e]
theorem same_del {G H' : Hp} {D : Addr} {o : HO} (hD : G D = none) (s : Same (upd G D o) H') : Same G (del1 H' D) := fun b u e => by
  have n : b ≠ D := ne_of_none e hD
  rw [del1_ne n]
  exact s b u (by rw [upd_ne n]; exact e)
/-- what was seen ahead of a deck's change is seen behind it -/
theorem TupL.deck {a : Addr} {H H' : Hp} (hd : Deck H a) (b : But a H H') {v : V} {ws : List V} (h : TupL H v ws) : TupL H' v ws :=
  h.but (b.tups fun ys e => by obtain ⟨ds, _, q⟩ := hd; rw [q] at e; cases e)
theorem ixN_at {n i : Nat} (h : i < n) : ixN n (i : Int) = some i := by
  unfold ixN
  rw [if_pos (by omega), if_pos (by omega), Int.toNat_natCast]
theorem upd_comm {H : Hp} {a b : Addr} {o u : HO} (h : a ≠ b) : upd (upd H a o) b u = upd (upd H b u) a o := by
  funext c
  unfold upd
  by_cases h1 : c = b
  · rw [if_pos h1, if_neg (fun z => h (z.symm.trans h1)), if_pos h1]
  · rw [if_neg h1, if_neg h1]
end G

/-! ## an own error whose __init__ begins with super().__init__(..) (my own) -/
namespace G
open PySem PySem.Spec PySem.Calls PyProof.Rows L2 NdefX

/-- what the text says of the class C of errors and of the code of its __init__ -/
structure SupTxt (P : Program) (K : PySem.W.Frag) (mg : Str → Option Value) (C cc cda : Addr) : Prop where
  ox : OexC K C
  mro : PySem.W.mroIn K C (.ref C) = some true
  sup : PySem.W.ks_superIn K C C "__init__" = some (some (.builtin "ValueError.__init__"))
  sub : PySem.W.subIn K (.ref C) (.type "ValueError") = some true
  third : PySem.W.nsIn K cStatics "thirdparty.any" = some none
  cell : ∃ cl cld csl, K.lookup cc = some ⟨cl, cld, .cell (some (.ref C)), csl⟩
  code : ∃ ccl cdd vs ccs file tf, K.lookup cda = some ⟨ccl, cdd, .fields vs, ccs⟩ ∧ vs[2]? = some (.str file tf) ∧ ((P.main.file : Str) == file) = true
  top : (P.main.scope.names.lookup ("super" : Str)).isSome = false
  mgs : mg "super" = none

section
variable {prog : Program} {w : World} {A : Around} {E : Value → Shared → Prop} {s : Shared}
/-- the bound ValueError.__init__ is called -/
theorem call_mw {K : PySem.W.Frag} {C x u t1 : Addr} {us : List Value} {Q : Value → Shared → Prop} (T : OexC K C) (X : K.In s.heap) (hu : s.heap.get? u = some (PySem.W.kxs_mw "ValueError.__init__" x))
    (hx : s.heap.get? x = some ({ cls := .ref C, dict := none, data := .fields #[.ref t1, .none, .none, .none, .bool false, .none] } : Obj)) (hz : us.length ≤ sizeLine)
    (h : ∀ h' t2, (∀ b o, b ≠ x → s.heap.get? b = some o → h'.get? b = some o) → h'.get? x = some ({ cls := .ref C, dict := none, data := .fields #[.ref t2, .none, .none, .none, .bool false, .none] } : Obj) → Q .none { s with heap := h' }) :
    wpAny (model prog w) A (call (.ref u) us) Q E s := by
  obtain ⟨nm, q, N, bs, bm, sn, sub, ab, col, dd, k0, k1, k2, k3, k5, hC, hbm⟩ := T.cls
  obtain ⟨hp, g, d, t, os⟩ := s
  refine wpAny_call (codeAny_of_tree ?_)
  change wpAny _ A.in1 (callAny (.ref u) ⟨us, []⟩) _ _ _
  simp only [callAny]
  refine wpAny_bind (wpAny_load hu ?_)
  have e1 : (Value.type "method-wrapper" == Value.type "method" || Value.type "method-wrapper" == Value.type "builtin_function_or_method" || Value.type "method-wrapper" == Value.type "method-wrapper") = true := by decide
  simp only [PySem.W.kxs_mw, e1, if_true]
  refine PySem.W.KFB.if_so (by decide) ?_
  refine wpAny_bind (PySem.W.check_bound_init PySem.F.excBase_ValueError.toExcCallFacts (X _ _ hC) hx rfl ?_)
  refine wpAny_bind (wpAny_pure (wpAny_pure ?_))
  refine ⟨plainId_quiet PySem.F.excBase_ValueError.init.plain _, codeAny_builtin PySem.F.excBase_ValueError.initEntry ?_⟩
  refine PySem.W.exc_init_tree (cls := .ref C) (t0 := t1) (dv := none) (c2 := .none) (c3 := .none) (b4 := .bool false) hx hz fun h' k e _ => h h' _ k e
end

section
variable {P : Program} {w : World} {K : PySem.W.Frag} {mg : Str → Option Value} {base : Heap} {C cc cda f : Addr} {CX : CXT} {k : Nat} {N ps : List Str} {sp : Sp}
variable {name qual x0 : Str} {params : Arguments} {e : Expr} {es : List Expr} {rest : List Stmt} {scope : Scope} {dV kV doc pm ct oc : Value} {an od : Option Addr} {osl : Array (Option Value)} {p0 p1 p2 p3 p4 : Pos} {ar : Arg}
theorem look_one {k y : Str} {c c' : Addr} (h : [(k, c)].lookup y = some c') : y = k ∧ c' = c := by
  by_cases e : y = k
  · subst e
    simp [List.lookup] at h
    exact ⟨rfl, h.symm⟩
  · have z : (y == k) = false := by simpa using e
    simp [List.lookup, z] at h
/-- THE RULE: an error's __init__ that begins with super().__init__(..): the arguments, then the rest of the body -/
theorem sup_init (T : SupTxt P K mg C cc cda)
    (lk : K.lookup f = some ⟨oc, od, .func (PySem.W.fnX name qual params (.Expr (.Call (.Attribute (.Call (.Name "super" p0) [] [] p1) "__init__" p2) (e :: es) [] p3) p4 :: rest) scope [("__class__", cc)] dV kV doc pm an (.ref cda) ct), osl⟩)
    (hcd : PySem.W.codeIn K (.ref cda) qual = true) (S : NScope N ps ["__class__"] scope) (hps : (params.posonlyargs ++ params.args).head? = some ar) (hself : ps[0]? = some ar.arg)
    (hsu : scope.names.lookup ("super" : Str) = some .globalImplicit)
    (len : ∀ vs H Q E, sp vs H Q E → vs.length = ps.length)
    (he : ∀ env, starEach (e :: es) env = (false, eval e env) :: starEach es env) (hpl : ∀ pos env, (backTo pos (starEach es env)).any (·.1) = false)
    (hev : ∀ env, ∃ pl, eval (.Call (.Attribute (.Call (.Name "super" p0) [] [] p1) "__init__" p2) (e :: es) [] p3) env = (do
      let ov ← attributeBase (.Call (.Name "super" p0) [] [] p1) "__init__" env (eval (.Call (.Name "super" p0) [] [] p1) env)
      standAt p2.atName
      let (f, first) ← holding [ov] (getMethod ov "__init__" pl)
      callWith p3 f first (backTo p3 (starEach (e :: es) env)) []))
    (hbody : ∀ (X : Cx) (A : Around) (outer : List Env) (s : Shared) (H : Hp) (vs : List V) (Q : VK) (E : XK), X = ncx CX P w K mg base N ⟨name, qual, params, [], scope, [("__class__", cc)], cda⟩ f A outer s H E → Room k X.A → sp vs H Q E →
      ∃ a ta t, vs[0]? = some (.ref a) ∧ H a = some (exo a C none) ∧ PA X (e :: es) ta ∧ PSs X rest t ∧
        ta (startF N vs [none]) H fun ws H1 => ws.length ≤ 1000 ∧ H1 a = some (exo a C none) ∧ t { nx := fun _ H' => Q .non H', rt := Q } (startF N vs [none]) H1) :
    FnOk P w K mg base CX (k + 1) f (PySem.W.fnX name qual params (.Expr (.Call (.Attribute (.Call (.Name "super" p0) [] [] p1) "__init__" p2) (e :: es) [] p3) p4 :: rest) scope [("__class__", cc)] dV kV doc pm an (.ref cda) ct) ps sp := by
  refine ⟨len, fun A outer s H args us vs Q E hr e0 hb r hsp => ?_⟩
  have hl := len _ _ _ _ hsp
  have KX : K.In s.heap := e0.mod.kin.keeps fun b o q => (e0.bs b o q).1
  have lim : s.heap.NoLimit := e0.mod.nolimit.keeps fun b o q => (e0.bs b o q).1
  obtain ⟨a, ta, t, ha0, hex, hA, hR, hq⟩ := hbody _ A outer s H vs Q E rfl (hr.deeper _) hsp
  obtain ⟨cl, cld, csl, hcell⟩ := T.cell
  obtain ⟨ccl, cdd, fv, ccs, file, tf, hco, hvs, hfile⟩ := T.code
  have hkc : scope.names.lookup ("__class__" : Str) = some .free := S.frk _ (by simp)
  have hka : scope.names.lookup ar.arg = some .local := S.par _ (List.mem_of_getElem? hself)
  have hcs : CellsAt [("__class__", cc)] ["__class__"] [none] s.heap H := by
    refine ⟨rfl, fun y c z => ?_, fun x y c z1 z2 => ?_, fun i y z => ?_⟩
    · have hy : c = cc := (look_one z).2
      subst hy
      exact ⟨(e0.bs _ _ (e0.mod.kin _ _ hcell)).2, _, _, KX _ _ hcell, rfl⟩
    · exact (look_one z1).1.trans (look_one z2).1.symm
    · cases i with
      | zero =>
        cases z
        exact ⟨cc, rfl, fun v z => by cases z⟩
      | succ i => cases z
  obtain ⟨t1, hx⟩ := exo_at e0.hok hex
  have hu0 : us[0]? = some (.ref a) := by
    obtain ⟨u, q1, q2⟩ := r.get ha0
    cases q2
    exact q1
  have ndP : ps.Nodup := by
    have q := S.nd.sublist (List.take_sublist (ps.length + 1) N)
    rw [show N.take (ps.length + 1) = ps ++ [("__class__" : Str)] from S.pre] at q
    exact (List.nodup_append.mp q).1
  have hloc : ∀ y ∈ ps.zip us, scope.names.lookup y.1 = some .local := fun ⟨n, v⟩ hy => S.par n (List.of_mem_zip hy).1
  refine ks_codeAny_call_defAt (binds := ps.zip us) hr.depth (KX _ _ lk) rfl lim (PySem.W.codeRec_of KX hcd) rfl hb S.nocell hloc (fun h₁ hns hk₁ => ?_) S.co S.gen S.kind
  have I : Inv (ncx CX P w K mg base N ⟨name, qual, params, [], scope, [("__class__", cc)], cda⟩ f A outer s H E) [] (startF N vs [none]) H { s with heap := h₁, toks := s.toks + (ps.zip us).length } := inv_startN S hr.hd e0 hl r hcs hns hk₁
  have X1 : K.In h₁ := I.kIn
  obtain ⟨cd, hcd1⟩ : ∃ cd, PySem.W.clsIn K C = some cd := by
    cases z : PySem.W.clsIn K C with
    | none =>
      have q := T.sup
      unfold PySem.W.ks_superIn at q
      rw [z] at q
      cases q
    | some cd => exact ⟨cd, rfl⟩
  obtain ⟨oD, hD1, hD2⟩ : ∃ oD, h₁.get? C = some oD ∧ oD.data = .cls cd := by
    have q := hcd1
    unfold PySem.W.clsIn at q
    split at q
    · rename_i c d cd' sl ho
      cases q
      exact ⟨_, X1 _ _ ho, rfl⟩
    · cases q
  have hx1 := hk₁ _ _ hx
  have neC : a ≠ C := fun z => by
    rw [z] at hx1
    rw [hx1] at hD1
    cases hD1
    cases hD2
  obtain ⟨pl, hev⟩ := hev (ncx CX P w K mg base N ⟨name, qual, params, [], scope, [("__class__", cc)], cda⟩ f A outer s H E).env
  refine ks_wpAt_execs_cons (ks_wpAt_Expr_any (ks_wpAt_MethodCall (pl := pl) ?_ hev) I.quiet)
  refine ks_wpAt_super_base hsu hkc rfl rfl (X1 _ _ lk) rfl hps rfl (X1 _ _ hco) rfl hvs hfile T.top ?_
  obtain ⟨mb, hb1, hb2⟩ := I.mod.blt
  refine PySem.W.ks_loadName_global S.kind hsu (loadGlobal_builtin (I.mod.glob.keeps I.bk) T.mgs (hb1.keeps I.bk) ((hb2 _ (by decide)).trans (by decide +kernel)) ⟨rfl, ?_⟩)
  refine wpAny_loadName_free S.kind hkc rfl ⟨_, X1 _ _ hcell, rfl⟩ ?_
  refine wpAny_loadName_local S.kind hka hns (zip_look ndP hself hu0) ?_
  refine ks_wpAny_isType_cls hD1 hD2 ⟨rfl, ?_⟩
  refine ks_wpAny_call_super hD1 hD2 hx1 rfl (fun c z => by cases z) (PySem.W.looks_mroIn X1 T.mro) (fun h2 hso k2 => ?_)
  have I2 := I.kept (t' := s.toks + (ps.zip us).length) k2
  have X2 : K.In h2 := I2.kIn
  have hx2 := k2 _ _ hx1
  have hin2 : PySem.W.Looks (model P w) h2 (isInstance (.ref a) (.type "ValueError")) true :=
    (show PySem.W.InstAt h2 a _ C none from ⟨hx2, rfl, rfl, trivial⟩).type.andThen (PySem.W.looks_subIn X2 T.sub)
  refine PySem.W.kxs_getMethod PySem.W.kxs_ValueError hso (PySem.W.looks_opaque X2 T.third) (l₀ := cd.mro) (fun A Q E s k q => wpAny_bind ((PySem.W.looks_clsIn X2 hcd1) A _ E s k (wpAny_pure q))) rfl X2 (by
    have q := T.sup
    unfold PySem.W.ks_superIn at q
    rw [hcd1] at q
    exact q) hin2 neC rfl ?_
  have hu3 : (h2.push (PySem.W.kxs_mw "ValueError.__init__" a)).get? h2.objs.size = some (PySem.W.kxs_mw "ValueError.__init__" a) := Heap.get?_push_at rfl rfl
  have I3 := (I2.kept (h' := h2.push (PySem.W.kxs_mw "ValueError.__init__" a)) (t' := s.toks + (ps.zip us).length + 1) fun b o q => Heap.get?_push_of_some _ q).pins_of (pins' := [(h2.objs.size, PySem.W.kxs_mw "ValueError.__init__" a)]) (fun p hp => by
    rw [List.mem_singleton.mp hp]
    exact ⟨hu3, I2.hok.fresh (Nat.le_refl _), Nat.ne_of_gt I2.lt, I2.nofs (Nat.le_refl _), fun v z => by cases z⟩)
  have hrun := hA.run p3 _ _ _ H _ I3 hq
  change wpAny _ _ (callWith p3 (.ref h2.objs.size) [] (backTo p3 (starEach (e :: es) _)) []) _ _ _
  have hep := hpl p3 (ncx CX P w K mg base N ⟨name, qual, params, [], scope, [("__class__", cc)], cda⟩ f A outer s H E).env
  refine PySem.W.kxs_callWith (i := "ValueError.__init__") (x := a) (by
    rw [he]
    exact hep) ?_
  have hrun2 := hrun
  rw [he] at hrun2 ⊢
  refine evalArgs_plain (thn hrun2 fun us4 s4 hh => ?_)
  obtain ⟨ws, H4, I4, r4, hz, hx4, ht⟩ := hh
  have pin4 := (I4.pin (h2.objs.size, PySem.W.kxs_mw "ValueError.__init__" a) (List.mem_append_right _ List.mem_cons_self)).1
  refine ⟨pin4, ?_⟩
  obtain ⟨t4, ho4⟩ := exo_at I4.hok hx4
  refine call_mw T.ox I4.kIn pin4 ho4 (by
    change us4.length ≤ _
    rw [← Paired.length r4, sizeLine_eq]
    omega) fun h5 t5 k5 hx5 => ?_
  have J0 := I4.write (t' := s4.toks) (x := a) (e := a) (o := exo a C none) (by rw [hx4]; exact True.intro) (.inl rfl) k5 ⟨_, hx5⟩ (exo_ok hx5)
  rw [upd_self hx4] at J0
  refine wpAt_of_wpAny (wpAny_mono (hR.run _ _ _ _ _ J0 ht) (fun fl s' hs => ?_) fun e s' hs => hs)
  have fin : ∀ {pins : List (Addr × Obj)} {σ' : L2.St} {H' : Hp} {v : V} {u : Value}, Inv (ncx CX P w K mg base N ⟨name, qual, params, [], scope, [("__class__", cc)], cda⟩ f A outer s H E) pins σ' H' s' → RelV v u → Q v H' → CE outer P w H s Q u s' :=
    fun {_ σ' H' v u} J rv q => ⟨v, H', J.os, J.bare, J.base, J.hok, rv, q⟩
  cases fl with
  | ret u =>
    obtain ⟨v, σ', H', J, rv, q⟩ := hs
    exact fin J rv q
  | next =>
    obtain ⟨σ', H', J, q⟩ := hs
    exact fin (v := V.non) (u := Value.none) J rfl q
  | brk =>
    obtain ⟨_, _, _, q⟩ := hs
    exact False.elim q
  | cont =>
    obtain ⟨_, _, _, q⟩ := hs
    exact False.elim q
end

/-- __init__ of an error with one field -/
def spErr (C : Addr) (fl : Str) : Sp := fun vs H Q _ => ∃ (a : Addr) (v : V), vs = [.ref a, v] ∧ H a = some (exo a C none) ∧ ∀ d, H d = none → d ≠ a → Q .non (upd (upd H d (exd d [(fl, v)])) a (exo a C (some d)))
section
variable {P : Program} {w : World} {K : PySem.W.Frag} {mg : Str → Option Value} {base : Heap} {C cc cda f : Addr}
variable {qual fl : Str} {params : Arguments} {scope : Scope} {dV kV doc pm ct oc : Value} {an od : Option Addr} {osl : Array (Option Value)} {p0 p1 p2 p3 p4 q1 q2 q3 q4 q5 : Pos} {ar : Arg} {body : List Stmt}
theorem ok_err (T : SupTxt P K mg C cc cda) (hno : PySem.W.findIn K (.ref C) fl = some none)
    (lk : K.lookup f = some ⟨oc, od, .func (PySem.W.fnX "__init__" qual params body scope [("__class__", cc)] dV kV doc pm an (.ref cda) ct), osl⟩)
    (hb : body = [.Expr (.Call (.Attribute (.Call (.Name "super" p0) [] [] p1) "__init__" p2) [.Name fl q1] [] p3) p4, .Assign [.Attribute (.Name "self" q2) fl q3] (.Name fl q4) q5])
    (hcd : PySem.W.codeIn K (.ref cda) qual = true) (S : NScope ["self", fl, "__class__"] ["self", fl] ["__class__"] scope) (hps : (params.posonlyargs ++ params.args).head? = some ar) (hself : ar.arg = "self")
    (hsu : scope.names.lookup ("super" : Str) = some .globalImplicit) (hdb : (fl == ("__debug__" : Str)) = false) (hcn : (fl == ("__classdict__" : Str)) = false)
    (hev : ∀ env, ∃ pl, eval (.Call (.Attribute (.Call (.Name "super" p0) [] [] p1) "__init__" p2) [.Name fl q1] [] p3) env = (do
      let ov ← attributeBase (.Call (.Name "super" p0) [] [] p1) "__init__" env (eval (.Call (.Name "super" p0) [] [] p1) env)
      standAt p2.atName
      let (f, first) ← holding [ov] (getMethod ov "__init__" pl)
      callWith p3 f first (backTo p3 (starEach [.Name fl q1] env)) [])) :
    FnOk P w K mg base CX0 1 f (PySem.W.fnX "__init__" qual params body scope [("__class__", cc)] dV kV doc pm an (.ref cda) ct) ["self", fl] (spErr C fl) := by
  subst hb
  refine sup_init (N := ["self", fl, "__class__"]) T lk hcd S hps (by rw [hself]; rfl) hsu (fun vs H Q E h => ?_) (fun _ => rfl) (fun _ _ => rfl) hev (fun X A outer s H vs Q E hX hr h => ?_)
  · obtain ⟨a, v, rfl, _⟩ := h
    rfl
  · obtain ⟨a, v, rfl, ha, k⟩ := h
    subst hX
    have v1 : PE (ncx CX0 P w K mg base ["self", fl, "__class__"] ⟨"__init__", qual, params, [], scope, [("__class__", cc)], cda⟩ f A outer s H E) (.Name fl q1) (tVar 1) := pe_var (i := 1) rfl (.inl (S.par fl (by simp))) hdb hcn
    have v2 : PE (ncx CX0 P w K mg base ["self", fl, "__class__"] ⟨"__init__", qual, params, [], scope, [("__class__", cc)], cda⟩ f A outer s H E) (.Name fl q4) (tVar 1) := pe_var (i := 1) rfl (.inl (S.par fl (by simp))) hdb hcn
    have v0 : PE (ncx CX0 P w K mg base ["self", fl, "__class__"] ⟨"__init__", qual, params, [], scope, [("__class__", cc)], cda⟩ f A outer s H E) (.Name "self" q2) (tVar 0) := pe_var (i := 0) rfl (.inl (S.par "self" (by simp)))
    refine ⟨a, _, _, rfl, ha, pa_cons v1 pa_nil, pss_one (ps_ost v0 v2), ?_⟩
    refine ⟨_, rfl, (show 1 ≤ 1000 by decide), ha, ?_⟩
    refine ⟨_, rfl, _, rfl, a, C, rfl, T.ox, hno, .inl ⟨ha, fun d hd hne => k d hd hne⟩⟩
end

/-! ## defs that may raise, called; errors made -/
/-- a def that may be called by its name and may raise -/
structure CalX (P : Program) (w : World) (K : PySem.W.Frag) (mg : Str → Option Value) (base : Heap) (k : Nat) (x : Str) (sp : Sp) : Prop where
  ex : ∃ (f : Addr) (fd : FuncData) (ps : List Str), FnOk P w K mg base (L2.CX P w) k f fd ps sp ∧ mg x = some (.ref f) ∧ PySem.W.keepIn K (.ref f) = true ∧ Binds K fd ps []
/-- a class of errors with one field -/
structure Erm (P : Program) (w : World) (K : PySem.W.Frag) (mg : Str → Option Value) (base : Heap) (k : Nat) (x : Str) (C : Addr) (fl : Str) : Prop where
  ex : ∃ (f : Addr) (fd : FuncData) (ps : List Str), OexC K C ∧ PySem.W.findIn K (.ref C) "__init__" = some (some (.ref f)) ∧ PySem.W.typeIn K (.ref f) = some (.type "function") ∧ FnOk P w K mg base CX0 k f fd ps (spErr C fl) ∧ Binds K fd ps [] ∧ mg x = some (.ref C)
/-- X(e): an error of the class C whose dict holds the one field -/
def tErr (C : Addr) (fl : Str) (ta : TA) : L2.St → Hp → XK → Prop := fun σ H Q => ta σ H fun vs H1 => ∃ v, vs = [v] ∧ ∀ d, H1 d = none → Q (.ref C) (some d) (upd H1 d (.xd [(fl, v)]))
section
variable {X : Cx} {W : WX} {k j : Nat} {C : Addr} {x fl : Str} {sp : Sp} {p pos : Pos} {e : Expr} {es : List Expr} {ta : TA} {t : TA}
theorem pe_cx (c : CalX X.prog X.w X.K X.mg X.base k x sp) (hr : Room j X.A) (hk : k ≤ j) (hg : Gl X x) (tk : Takes X W) (ha : PA X (e :: es) t)
    (hdb : (x == ("__debug__" : Str)) = false := by decide) (he : starEach (e :: es) X.env = (false, eval e X.env) :: starEach es X.env := by rfl) (hpl : (backTo pos (starEach es X.env)).any (·.1) = false := by rfl) :
    PE X (.Call (.Name x p) (e :: es) [] pos) (tCallS sp (WE W) t) := by
  obtain ⟨f, fd, ps, F, hm, kp, b⟩ := c.ex
  exact pe_callS F (hr.mono hk) hg hm kp b (fun σ => passAt tk σ) ha hdb he hpl
theorem err_end {H : Hp} {a d : Addr} {fl : Str} {v : V} (ha : H a = none) (hd : H d = none) (hne : d ≠ a) : upd (del (upd (upd (upd H a (exo a C none)) d (exd d [(fl, v)])) a (exo a C (some d))) a) d (.xd [(fl, v)]) = upd H d (.xd [(fl, v)]) := by
  funext b
  by_cases h1 : b = d
  · subst h1
    rw [upd_same, upd_same]
  · rw [upd_ne h1, upd_ne h1]
    by_cases h2 : b = a
    · subst h2
      rw [del_same, ha]
    · rw [del_ne h2, upd_ne h2, upd_ne h1, upd_ne h2]
theorem pmk_e (c : Erm X.prog X.w X.K X.mg X.base k x C fl) (hr : Room j X.A) (hk : k + 1 ≤ j) (hg : Gl X x) (ha : PA X (e :: es) ta)
    (hdb : (x == ("__debug__" : Str)) = false := by decide) (he : starEach (e :: es) X.env = (false, eval e X.env) :: starEach es X.env := by rfl) (hpl : (backTo pos (starEach es X.env)).any (·.1) = false := by rfl) :
    PMk X (.Call (.Name x p) (e :: es) [] pos) (tErr C fl ta) := by
  obtain ⟨f, fd, ps, T, iC, tI, F, b, hm⟩ := c.ex
  intro pins s σ H Q I h
  have ha' : PA X (e :: es) (fun σ H Q' => ∃ Q, ta σ H Q ∧ ∀ vs H1, Q vs H1 → Q' vs H1) := ⟨fun pos pins s σ H Q' I ⟨Q, h, m⟩ => thn (ha.run pos pins s σ H Q I h) fun us s' ⟨vs, H1, J, r, q⟩ => ⟨vs, H1, J, r, m _ _ q⟩⟩
  refine pmk_oex T iC tI F (hr.mono hk) b .nil pass0 hg hm ha' hdb he hpl pins s σ H Q I ⟨_, h, fun vs H1 z => ?_⟩
  obtain ⟨v, rfl, q⟩ := z
  refine ⟨(show 1 ≤ 1000 by decide), fun a ha => ⟨a, v, rfl, upd_same, fun d hd hne => ⟨rfl, d, [(fl, v)], upd_same, ?_, ?_, ?_⟩⟩⟩
  · rw [upd_ne hne, upd_same]
  · rw [upd_ne hne] at hd
    exact hd
  · rw [upd_ne hne] at hd
    rw [err_end ha hd hne]
    exact q d hd
end
/-- what the written part says of a class of errors, for its catching -/
structure ErrT (K : PySem.W.Frag) (mg : Str → Option Value) (x : Str) (C : Addr) (fl : Str) : Prop where
  gC : mg x = some (.ref C)
  te : PySem.W.exmOne K (.ref C) (.ref C) = some true
  xf : XfC K C
  no : PySem.W.findIn K (.ref C) fl = some none
/-! ## constants of the module: data that stands in the written part -/
def mapO (f : Value → Option PyData) : List Value → Option (List PyData)
  | [] => some []
  | u :: r => (f u).bind fun d => (mapO f r).map (d :: ·)
def datK (K : PySem.W.Frag) : Nat → Value → Option PyData
  | 0, _ => none
  | n + 1, v => match v with
    | .none => some .none
    | .bool b => some (.bool b)
    | .int i _ => some (.int i)
    | .str x _ => some (.str x)
    | .ref a => match K.lookup a with
      | some o => match o.data with
        | .seq its _ => if its.size ≤ 1000 then (if o.cls = .type "tuple" then (mapO (datK K n) its.toList).map .tuple else if o.cls = .type "list" ∧ o.dict = none then (mapO (datK K n) its.toList).map .list else none) else none
        | _ => none
      | none => none
    | _ => none
def constK (K : PySem.W.Frag) (x : Str) : Option PyData := match PySem.W.nsIn K mainGlobals x with
  | some (some u) => datK K 6 u
  | _ => none
theorem mapO_ok {K : PySem.W.Frag} {f : Value → Option PyData} (hf : ∀ u d, f u = some d → ∃ v, RelV v u ∧ ∀ H, Dp K H v d) : ∀ (us : List Value) (ds : List PyData), mapO f us = some ds → ∃ vs, Vals vs us ∧ ∀ H, DpAll K H vs ds
  | [], ds, e => by
    cases e
    exact ⟨[], .nil, fun _ => .nil⟩
  | u :: r, ds, e => by
    unfold mapO at e
    cases h1 : f u with
    | none => rw [h1] at e; cases e
    | some d =>
      rw [h1, Option.bind_some] at e
      cases h2 : mapO f r with
      | none => rw [h2] at e; cases e
      | some es =>
        rw [h2] at e
        cases e
        obtain ⟨v, r1, q1⟩ := hf u d h1
        obtain ⟨vs, r2, q2⟩ := mapO_ok hf r es h2
        exact ⟨v :: vs, .cons r1 r2, fun H => .cons (q1 H) (q2 H)⟩
theorem datK_ok {K : PySem.W.Frag} : ∀ (n : Nat) (u : Value) (d : PyData), datK K n u = some d → ∃ v, RelV v u ∧ ∀ H, Dp K H v d
  | 0, _, _, e => by cases e
  | n + 1, u, d, e => by
    unfold datK at e
    cases u with
    | none => cases e; exact ⟨.non, rfl, fun _ => .non⟩
    | bool b => cases e; exact ⟨.bl b, rfl, fun _ => .bl b⟩
    | int i t => cases e; exact ⟨.int i, ⟨t, rfl⟩, fun _ => .int i⟩
    | str x t => cases e; exact ⟨.str x, ⟨t, rfl⟩, fun _ => .str x⟩
    | ref a =>
      dsimp only at e
      cases hl : K.lookup a with
      | none => rw [hl] at e; cases e
      | some o =>
        rw [hl] at e
        dsimp only at e
        split at e
        · rename_i its m hd
          split at e
          · rename_i hz
            have hz' : its.size ≤ sizeLine := Nat.le_trans hz (by rw [sizeLine_eq]; decide)
            split at e
            · rename_i hc
              cases h2 : mapO (datK K n) its.toList with
              | none => rw [h2] at e; cases e
              | some ds =>
                rw [h2] at e
                cases e
                obtain ⟨vs, r, q⟩ := mapO_ok (datK_ok n) _ _ h2
                exact ⟨.ref a, rfl, fun H => .tup (.inr ⟨o, its, m, hl, hc, hd, hz', r⟩) (q H)⟩
            · split at e
              · rename_i hc
                cases h2 : mapO (datK K n) its.toList with
                | none => rw [h2] at e; cases e
                | some ds =>
                  rw [h2] at e
                  cases e
                  obtain ⟨vs, r, q⟩ := mapO_ok (datK_ok n) _ _ h2
                  exact ⟨.ref a, rfl, fun H => .lst (.inr ⟨o, its, m, hl, hc.1, hc.2, hd, hz', r⟩) (q H)⟩
              · cases e
          · cases e
        · cases e
    | _ => cases e
theorem const_of {K : PySem.W.Frag} {h : Heap} {mg : Str → Option Value} {x : Str} {d : PyData} (X : K.In h) (G : h.Ns mainGlobals mg) (e : constK K x = some d) : ∃ v : V, (∃ u, mg x = some u ∧ RelV v u) ∧ ∀ H : Hp, Dp K H v d := by
  unfold constK at e
  split at e
  · rename_i u hu
    obtain ⟨v, r, q⟩ := datK_ok _ _ _ e
    exact ⟨v, ⟨u, PySem.W.mg_of X G hu, r⟩, q⟩
  · cases e
/-! ## x in, x not in a tuple of data -/
def rInT (K : PySem.W.Frag) : R2 := fun x y H Q => ∃ d ds, Dp K H x d ∧ Dp K H y (.tuple ds) ∧ SeqAt.shaped d = true ∧ SeqAt.shaped (.tuple ds) = true ∧ Q (.bl (ds.any fun z => PyData.eqv z d)) H
def rNotInT (K : PySem.W.Frag) : R2 := fun x y H Q => ∃ d ds, Dp K H x d ∧ Dp K H y (.tuple ds) ∧ SeqAt.shaped d = true ∧ SeqAt.shaped (.tuple ds) = true ∧ Q (.bl (!ds.any fun z => PyData.eqv z d)) H
section
variable {X : Cx}
theorem op_inT (hu : X.A.units + 65 < cLine) : OpR X (compareOp .In) (rInT X.K) := by
  intro pins s σ H x y v u Q I rx ry ⟨d, ds, hd, he, sd, se, q⟩
  obtain ⟨as, r1⟩ := Dp.reads I d x v hd rx
  obtain ⟨bs, r2⟩ := Dp.reads I (.tuple ds) y u he ry
  exact SeqAt.in_tuple_reads r2 r1 (SeqAt.canLay_of_shaped se) (SeqAt.canLay_of_shaped sd) (room_in_shaped sd hu) ⟨.bl _, H, I, rfl, q⟩
theorem op_notInT (hu : X.A.units + 65 < cLine) : OpR X (compareOp .NotIn) (rNotInT X.K) := by
  intro pins s σ H x y v u Q I rx ry ⟨d, ds, hd, he, sd, se, q⟩
  obtain ⟨as, r1⟩ := Dp.reads I d x v hd rx
  obtain ⟨bs, r2⟩ := Dp.reads I (.tuple ds) y u he ry
  exact SeqAt.notIn_tuple_reads r2 r1 (SeqAt.canLay_of_shaped se) (SeqAt.canLay_of_shaped sd) (room_in_shaped sd hu) ⟨.bl _, H, I, rfl, q⟩
end
theorem slA_new {K : PySem.W.Frag} {H : Hp} {a : Addr} {xs : List V} {lo hi : Option Int} {Q : VK} (h : SqT K H a xs) (k : ∀ (b : Addr) (H' : Hp), Same H H' → SqT K H' b (cutV xs lo hi) → Q (.ref b) H') : rSlA K (.ref a) lo hi H Q := by
  refine ⟨a, xs, rfl, h, fun e => k a H (Same.refl _) ?_, fun _ p n => k p _ (same_new n) (SqT.of upd_same)⟩
  have q : cutV xs lo hi = xs := by
    unfold cutV
    rw [e.1, e.2]
    simp
  rw [q]
  exact h
theorem cut_tail {v : V} {vs : List V} : cutV (v :: vs) (some 1) none = vs := (cut_from (xs := v :: vs) (i := 1) (by simp)).trans rfl
/-- an «if» whose test is known -/
theorem ifT {A B : Prop} {b : Bool} (e : b = true) (h : A) : (if b = true then A else B) := by
  rw [if_pos e]
  exact h
theorem ifF {A B : Prop} {b : Bool} (e : b = false) (h : B) : (if b = true then A else B) := by
  rw [if_neg (by rw [e]; decide)]
  exact h
theorem ne_int {i j : Int} (h : i ≠ j) : (!decide (V.int i = V.int j)) = true := by
  simp [h]
theorem ne_int0 {i j : Int} (h : i = j) : (!decide (V.int i = V.int j)) = false := by
  simp [h]
end G

/-! ## sets of ints; isinstance of a caught error that has a dict (my own) -/
namespace G
open PySem PySem.Spec PySem.Calls PyProof.Rows L2
/-- set(t), t a tuple of ints -/
def rSetT (K : PySem.W.Frag) (w : World) : List V → Hp → VK → Prop := fun xs H Q => ∃ (p : Addr) (ns : List Int), xs = [.ref p] ∧ SqT K H p (ns.map V.int) ∧ ns.length ≤ 1000 ∧
  ∀ (n : Nat) (q : Addr), n ≤ ns.length → H q = none → Q (.ref q) (upd H q (SetO w q (fun j => decide (j ∈ ns)) n))
section
variable {X : Cx}
theorem cr_setT (hc : X.calm = true) : CallR X (.type "set") (rSetT X.K X.w) := by
  intro pins s σ H xs us Q I r h
  obtain ⟨p, ns, rfl, hq, hl, q⟩ := h
  cases r with
  | cons rx rr =>
    cases rr
    cases rx
    obtain ⟨its, rv, pt, _⟩ := I.tuple hq
    refine call_set_tupI ns (I.ok.hd hc) (show s.heap.IsTuple p its.toArray from pt) (ints_of_vals rv) (by unfold scanBound; omega) fun h' tk c R hcn k => ?_
    exact ⟨.ref _, upd H s.heap.objs.size (SetO X.w s.heap.objs.size (fun j => decide (j ∈ ns)) c), I.laid (t' := tk) k (Nat.le_refl _) (setO_new R), rfl, q c _ hcn (I.hok.fresh (Nat.le_refl _))⟩
end
section
open PySem.W
variable {prog : Program} {w : World} {A : Around} {E : Value → Shared → Prop} {s : Shared} {K : Frag} {x D : Addr} {ox : Obj} {od : Option Obj}
theorem cls_found (c : ExcC K D) : findObj K D od "__class__" = some (.bind (.builtin "getset_descriptor.__get__") (.builtin "object.__class__")) := by
  obtain ⟨cd, h, _⟩ := any_some c.hd
  simp [findObj, h, c.ha, c.hn, c.ht]
/-- x.__class__, x an error with or without a dict -/
theorem err_cls {Q : Option Value → Shared → Prop} (c : ExcC K D) (X : K.In s.heap) (I : PySem.W.InstAt s.heap x ox D od) (q : Q (some (.ref D)) { s with toks := s.toks + 1 }) : wpAny (model prog w) A (getAttr? (.ref x) "__class__") Q E s := by
  rcases s with ⟨hp, gs, dr, tk, os⟩
  have ty := I.type (M := model prog w)
  have own := looks_find (M := model prog w) X I (cls_found c)
  have isB : Looks (model prog w) hp (isInstance (.ref x) (.type "BaseException")) true := ty.andThen (looks_subIn X c.hs)
  have off : (onTheHeap (.ref D) && Value.builtin "BaseException.__getattribute__" == Value.builtin "object.__getattribute__") = false := by
    rw [show (Value.builtin "BaseException.__getattribute__" == Value.builtin "object.__getattribute__") = false by decide +kernel, Bool.and_false]
  unfold getAttr? getAttrBy? getAttrBy
  refine wpAny_bind (wpAny_mkText (wpAny_bind (wpAny_attempt (wpAny_holding (wpAny_bind (ty.at (wpAny_bind ((looks_findIn X c.hg).at ?_))))))))
  refine PySem.W.KFB.if_not off ?_
  unfold getAttrByItsOwn hookBefore
  refine wpAny_bind (PySem.W.KFB.if_so rfl ((looks_findIn X c.hk).at (wpAny_bind (wpAny_attempt (wpAny_holding ?_)))))
  unfold callGetattribute boundAndCalled
  refine PySem.W.KFB.if_not rfl ?_
  rw [F.excAttr_ValueError.ga.bind (.ref x)]
  refine wpAny_bind (wpAny_pure (wpAny_call (codeAny_call_builtin F.excAttr_ValueError.ga.plain F.entry_bexc_ga (@check_slot (model prog w) _ _ ⟨hp, gs, dr, tk + 1, os⟩ "BaseException.__getattribute__" "BaseException" "__getattribute__" (.ref x) [.str "__class__" tk] [] _ (by decide +kernel) (by decide +kernel) isB (F.args_bexc_ga (.ref x) (.str "__class__" tk)) ?_))))
  unfold Builtin.«object.__getattribute__»
  refine wpAny_bind (wpAny_of_eq (a := (Value.ref x, [Value.str "__class__" tk])) (by simp only [slotArgs]; rfl) (wpAny_bind (wpAny_pure (wpAny_bind (ty.at (wpAny_bind (own.at ?_)))))))
  refine wpAny_bind (wpAny_holding (wpAny_call (class_get (s := ⟨hp, gs, dr, tk + 1, os⟩) X I c.hm (wpAny_pure ?_))))
  dsimp only
  rw [handedOut_of (v := Value.ref D) rfl]
  exact wpAny_pure (wpAny_pure q)
/-- isinstance asks the instances of such a class -/
theorem kitx_err (c : ExcC K D) : KitX K (.ref x) (.ref D) (fun h => PySem.W.InstAt h x ox D od) :=
  have z := handS_kitx_exc (x := x) (ox := ox) c.hg c.hk c.hs c.hd c.ha c.hn c.ht c.hm
  { ty := fun _ _ _ I => I.type, it := fun M h X _ => by
      obtain ⟨cd, e, _⟩ := any_some c.hd
      exact (fun A Q E s k q => by
        unfold isType loadHead
        unfold clsIn at e
        split at e
        · rename_i o
          exact wpAny_bind (wpAny_loadPart (k _ _ (X _ _ o)) (wpAny_pure q))
        · cases e)
    ne := z.ne, ca := fun X I q => err_cls c X I q }
end
/-- isinstance(e, c), e the error that the suite holds, with its dict -/
def rIsD (K : PySem.W.Frag) (cls : Value) (d : Option Addr) (a : Addr) : List V → Hp → VK → Prop := fun xs H Q => ∃ (D : Addr) (c : V) (cv : Value) (b : Bool) (dd : Addr) (fs : List (Str × V)), cls = .ref D ∧ d = some dd ∧ H dd = some (.xd fs) ∧ ExcC K D ∧
  xs = [.ref a, c] ∧ (∀ u, RelV c u → u = cv) ∧ PySem.W.kitOne K (.ref D) cv = some b ∧ Q (.bl b) H
/-- error.f in the suite, the error's class known there -/
def tXg (K : PySem.W.Frag) (a : Addr) (cls : Value) (d : Option Addr) (f : Str) (i : Nat) : TE := fun σ H Q => ∃ x, σ[i]? = some (some x) ∧ x = .ref a ∧ ∃ (C dd : Addr) (fs : List (Str × V)) (v : V), cls = .ref C ∧ XfC K C ∧ PySem.W.findIn K (.ref C) f = some none ∧ d = some dd ∧ H dd = some (.xd fs) ∧ fs.lookup f = some v ∧ Q v H
section
variable {X : Cx} {a : Addr} {oe : Obj} {cls : Value} {d : Option Addr} {pn : List (Addr × Obj)}
theorem call_isD (hz : Zc cls d oe) (hf : ∃ vs, oe.data = .fields vs) : CallR (X.suite a ((a, oe) :: pn)) (.builtin "isinstance") (rIsD X.K cls d a) := by
  intro pins s σ H xs us Q I r h
  obtain ⟨D, c, cv, b, dd, fs, rfl, rfl, hx, C, rfl, hcv, e, q⟩ := h
  cases r with
  | cons rx rr =>
    cases rx
    cases rr with
    | cons rt rr =>
      cases rr
      have ec := hcv _ rt
      subst ec
      obtain ⟨vs, hd⟩ := hf
      obtain ⟨mA, hns, _⟩ : ObjOk X.prog X.w H s.heap dd (.xd fs) := I.hok dd _ hx
      obtain ⟨od, ho, _⟩ := lookIn_ns hns
      have J : PySem.W.InstAt s.heap a oe D (some od) := ⟨(I.pin (a, oe) (List.mem_append_left _ List.mem_cons_self)).1, hz.1, by simp [PySem.W.notCls, hd], by rw [hz.2]; exact ho⟩
      exact PySem.W.kia_one (kitx_err C) I.kIn J e (fun z => nomatch z) fun tk => ⟨.bl b, H, I.kept (t' := tk) fun _ _ z => z, rfl, q⟩
theorem pe_xg {e : Expr} {pos : Pos} {n : Str} {i : Nat} (hz : Zc cls d oe) (hf : ∃ vs, oe.data = .fields vs) (he : PE (X.suite a ((a, oe) :: pn)) e (tVar i)) (hb : attributeBase e n X.env (eval e X.env) = eval e X.env := by rfl) :
    PE (X.suite a ((a, oe) :: pn)) (.Attribute e n pos) (tXg X.K a cls d n i) :=
  ⟨fun pins s σ H Q I ⟨x, hx, ex, C, dd, fs, v, ec, T, hno, ed, hdd, l, q⟩ => (pe_xf T hno hz hf he hb).run pins s σ H Q I ⟨x, hx, ex, ec, dd, fs, v, ed, hdd, l, q⟩⟩
end
/-! ### errors that leave, new tuples and lists, heaps without some lists -/
/-- an error with this word leaves -/
def RaiseF (C : Addr) (x : Str) (H : Hp) (E : XK) : Prop := ∀ (H' : Hp) (d : Addr), Same H H' → H' d = some (.xd [("what", .str x)]) → E (.ref C) (some d) H'
theorem RaiseF.here {C : Addr} {x : Str} {H H' : Hp} {E : XK} {d : Addr} (r : RaiseF C x H E) (s : Same H H') (n : H' d = none) : E (.ref C) (some d) (upd H' d (.xd [("what", .str x)])) := r _ d (s.trans (same_new n)) upd_same
theorem RaiseF.later {C : Addr} {x : Str} {H H' : Hp} {E : XK} (s : Same H H') (r : RaiseF C x H E) : RaiseF C x H' E := fun H2 d s2 e => r H2 d (s.trans s2) e
theorem size_lt {m : Nat} (h : m < 100000) : m < sizeLine := Nat.lt_of_lt_of_le h (by decide)
theorem none_of_same {H H' : Hp} {p : Addr} (s : Same H H') (n : H' p = none) : H p = none := by
  cases e : H p with
  | none => rfl
  | some o =>
    rw [s _ _ e] at n
    cases n
theorem del1_same {H H' : Hp} {a : Addr} (s : Same H H') : Same (del1 H a) (del1 H' a) := fun b o e => by
  by_cases z : b = a
  · rw [z, del1_at] at e
    cases e
  · rw [del1_ne z] at e ⊢
    exact s b o e
theorem del1_sub {H : Hp} {a : Addr} : Same (del1 H a) H := fun b o e => by
  by_cases z : b = a
  · rw [z, del1_at] at e
    cases e
  · rwa [del1_ne z] at e
theorem del1_but {H H' : Hp} {a : Addr} (k : But a H H') : Same (del1 H a) (del1 H' a) := fun b o e => by
  by_cases z : b = a
  · rw [z, del1_at] at e
    cases e
  · rw [del1_ne z] at e ⊢
    exact k b o z e
theorem del2_step {H H' : Hp} {a c : Addr} (k : ∀ b o, b ≠ a → b ≠ c → H b = some o → H' b = some o) : Same (del1 (del1 H a) c) (del1 (del1 H' a) c) := fun b o e => by
  by_cases z : b = c
  · rw [z, del1_at] at e
    cases e
  · by_cases y : b = a
    · rw [del1_ne z, y, del1_at] at e
      cases e
    · rw [del1_ne z, del1_ne y] at e ⊢
      exact k b o y z e
theorem Deck.ne {H : Hp} {a D : Addr} (h : Deck H a) (hD : H D = none) : D ≠ a := fun e => by
  obtain ⟨ds, _, q⟩ := h
  rw [← e, hD] at q
  cases q
theorem but_mut {dk p : Addr} {H H' : Hp} {o : HO} (b : But dk H H') (n : H p = none) : But dk H (upd H' p o) := fun c u nc e => by
  rw [upd_ne (fun z => by rw [z, n] at e; cases e)]
  exact b c u nc e
theorem none_of_but {dk p : Addr} {H H' : Hp} (hk : Deck H' dk) (b : But dk H H') (n : H' p = none) : H p = none := by
  have ne := Deck.ne hk n
  cases e : H p with
  | none => rfl
  | some o =>
    rw [b _ _ ne e] at n
    cases n
section
variable {K : PySem.W.Frag}
theorem tupD {H : Hp} {p : Addr} {xs : List V} {ds : List PyData} (h : DpAll K H xs ds) (n : H p = none) : Same H (upd H p (.tup xs)) ∧ Dp K (upd H p (.tup xs)) (.ref p) (.tuple ds) :=
  ⟨same_new n, .tup (SqT.of upd_same) (dps_same (same_new n) h)⟩
theorem lstD {H : Hp} {p : Addr} {xs : List V} {ds : List PyData} (h : DpAll K H xs ds) (n : H p = none) : Same H (upd H p (.lst xs)) ∧ Dp K (upd H p (.lst xs)) (.ref p) (.list ds) :=
  ⟨same_new n, .lst (SqL.of upd_same) (dps_same (same_new n) h)⟩
theorem catD {H : Hp} {v u : V} {ds es : List PyData} {Q : VK} (h1 : Dp K H v (.tuple ds)) (h2 : Dp K H u (.tuple es)) (hl : ds.length + es.length ≤ 100000) (k : ∀ (z : V) (H' : Hp), Same H H' → Dp K H' z (.tuple (ds ++ es)) → Q z H') : rCatA K v u H Q := by
  obtain ⟨a, xs, rfl, ha, hxs⟩ := dp_tup h1
  obtain ⟨b, ys, rfl, hb, hys⟩ := dp_tup h2
  have l1 := dps_len hxs
  have l2 := dps_len hys
  refine ⟨a, b, xs, ys, rfl, rfl, ha, hb, size_of (by omega), fun e => ?_, fun _ e => ?_, fun _ _ p hp => ?_⟩
  · subst e
    cases hxs
    exact k _ _ (Same.refl _) h2
  · subst e
    cases hys
    rw [List.append_nil] at k
    exact k _ _ (Same.refl _) h1
  · exact k _ _ (same_new hp) (.tup (SqT.of upd_same) (dps_app (dps_same (same_new hp) hxs) (dps_same (same_new hp) hys)))
/-- a new list of two lists -/
theorem catL {H : Hp} {l b : Addr} {xs zs : List V} {ds es : List PyData} {Q : VK} (h1 : H l = some (.lst xs)) (h2 : H b = some (.lst zs)) (d1 : DpAll K H xs ds) (d2 : DpAll K H zs es) (hl : ds.length + es.length ≤ 100000)
    (k : ∀ p, H p = none → DpAll K (upd H p (.lst (xs ++ zs))) (xs ++ zs) (ds ++ es) → Q (.ref p) (upd H p (.lst (xs ++ zs)))) : rCat (.ref l) (.ref b) H Q :=
  ⟨l, b, xs, zs, rfl, rfl, h1, h2, by rw [dps_len d1, dps_len d2]; exact size_of hl, fun p n => k p n (dps_same (same_new n) (dps_app d1 d2))⟩
theorem dps5 {H : Hp} {xs : List V} {d0 d1 d2 d3 d4 : PyData} (h : DpAll K H xs [d0, d1, d2, d3, d4]) : ∃ v0 v1 v2 v3 v4, xs = [v0, v1, v2, v3, v4] ∧ Dp K H v0 d0 ∧ Dp K H v1 d1 ∧ Dp K H v2 d2 ∧ Dp K H v3 d3 ∧ Dp K H v4 d4 := by
  cases h with
  | cons a h => cases h with
    | cons b h => cases h with
      | cons c h => cases h with
        | cons d h => cases h with
          | cons e h => cases h; exact ⟨_, _, _, _, _, rfl, a, b, c, d, e⟩
end
theorem paired_imp {α β : Type} {F F' : α → β → Prop} (h : ∀ a b, F a b → F' a b) : ∀ {l₁ : List α} {l₂ : List β}, Paired F l₁ l₂ → Paired F' l₁ l₂
  | _, _, .nil => .nil
  | _, _, .cons k t => .cons (h _ _ k) (paired_imp h t)
theorem paired_eq {α : Type} : ∀ {l₁ l₂ : List α}, Paired (fun u y => u = y) l₁ l₂ → l₁ = l₂
  | _, _, .nil => rfl
  | _, _, .cons k t => by rw [k, paired_eq t]
/-! ### all but lists stands -/
def KeepT (H H' : Hp) : Prop := ∀ b u, H b = some u → (∀ xs, u ≠ .lst xs) → H' b = some u
theorem KeepT.of_same {H H' : Hp} (s : Same H H') : KeepT H H' := fun b u e _ => s b u e
theorem KeepT.of_but {H H' : Hp} {a : Addr} (hk : Deck H a) (s : But a H H') : KeepT H H' := fun b u e n => s b u (fun q => by
  obtain ⟨ds, _, h⟩ := hk
  rw [q, h] at e
  exact n _ (Option.some.inj e).symm) e
theorem KeepT.trans {H H1 H2 : Hp} (s : KeepT H H1) (t : KeepT H1 H2) : KeepT H H2 := fun b u e n => t b u (s b u e n) n
theorem KeepT.upd {H H' : Hp} {a : Addr} {xs ys : List V} (s : KeepT H H') (h : H' a = some (.lst xs)) : KeepT H (upd H' a (.lst ys)) := fun b u e n => by
  have q := s b u e n
  have ne : b ≠ a := fun z => by
    rw [z, h] at q
    exact n _ (Option.some.inj q).symm
  rw [upd_ne ne]
  exact q
theorem SqT.keep {K : PySem.W.Frag} {H H' : Hp} {a : Addr} {xs : List V} (s : KeepT H H') (h : SqT K H a xs) : SqT K H' a xs := by
  rcases h with (h | ⟨o, h⟩) | h
  · exact .inl (.inl (s _ _ h (fun _ z => by cases z)))
  · exact .inl (.inr ⟨o, s _ _ h (fun _ z => by cases z)⟩)
  · exact .inr h
mutual
def noL : PyData → Bool
  | .list _ => false
  | .tuple ds => noLs ds
  | _ => true
def noLs : List PyData → Bool
  | [] => true
  | d :: r => noL d && noLs r
end
mutual
theorem dp_keep {K : PySem.W.Frag} {H H' : Hp} (e : KeepT H H') : ∀ {v : V} {d : PyData}, noL d = true → Dp K H v d → Dp K H' v d
  | _, _, _, .non => .non
  | _, _, _, .bl b => .bl b
  | _, _, _, .int i => .int i
  | _, _, _, .str x => .str x
  | _, _, n, .lst _ _ => by simp [noL] at n
  | _, _, n, .tup h a => .tup (SqT.keep e h) (dps_keep e (by simpa [noL] using n) a)
theorem dps_keep {K : PySem.W.Frag} {H H' : Hp} (e : KeepT H H') : ∀ {v : List V} {d : List PyData}, noLs d = true → DpAll K H v d → DpAll K H' v d
  | _, _, _, .nil => .nil
  | _, _, n, .cons h t => .cons (dp_keep e (by simp only [noLs, Bool.and_eq_true] at n; exact n.1) h) (dps_keep e (by simp only [noLs, Bool.and_eq_true] at n; exact n.2) t)
end
theorem noLs_all {ds : List PyData} (h : ∀ d ∈ ds, noL d = true) : noLs ds = true := by
  induction ds with
  | nil => rfl
  | cons d r ih =>
    unfold noLs
    rw [h d List.mem_cons_self, ih fun x hx => h x (List.mem_cons_of_mem _ hx)]
    rfl
theorem noLs_map {α : Type} {f : α → PyData} {l : List α} (h : ∀ x ∈ l, noL (f x) = true) : noLs (l.map f) = true := noLs_all fun d hd => by
  obtain ⟨x, hx, rfl⟩ := List.mem_map.mp hd
  exact h x hx
theorem KeepT.mut {H H' : Hp} {a : Addr} {xs ys : List V} (h : H' a = some (.lst xs)) : KeepT H' (L2.upd H' a (.lst ys)) := KeepT.upd (KeepT.of_same (Same.refl _)) h
/-- a walk by enumerate -/
theorem for_enum {K : PySem.W.Frag} {a : Addr} {xs : List V} {g : TG} {tb : TS} {D : Ends} {σ : L2.St} {H : Hp} (Pv : Nat → L2.St → Hp → Prop) (p0 : Pv 0 σ H) (seen : ∀ i σ H, i ≤ xs.length → Pv i σ H → SqL K H a xs)
    (step : ∀ i x σ H T, xs[i]? = some x → Pv i σ H → H T = none → g (.ref T) σ (L2.upd H T (.tup [.int (i : Nat), x])) fun σ2 H2 => tb { D with nx := Pv (i + 1), ct := Pv (i + 1), bk := D.nx } σ2 H2) (done : ∀ σ H, Pv xs.length σ H → D.nx σ H) :
    ∃ W : Nat → Nat → L2.St → Hp → Prop, (∃ m, W 0 m σ H) ∧ ∀ i m σ H, W i m σ H →
      ((Ite K a).stop i H ∧ D.nx σ H) ∨ ((Ite K a).go i H ∧ ∃ N : L2.St → Hp → Prop, (∀ σ' H', N σ' H' → ∃ m', m' < m ∧ W (i + 1) m' σ' H') ∧ ∀ x H', (Ite K a).yld i H x H' → g x σ H' fun σ2 H2 => tb { D with nx := N, ct := N, bk := D.nx } σ2 H2) := by
  refine ⟨fun i m σ H => i + m = xs.length ∧ Pv i σ H, ⟨xs.length, Nat.zero_add _, p0⟩, fun i m σ H h => ?_⟩
  have q := seen i σ H (by omega) h.2
  cases m with
  | zero =>
    have e : i = xs.length := h.1
    subst e
    exact .inl ⟨⟨xs, q, Nat.le_refl _⟩, done σ H h.2⟩
  | succ m =>
    have z : i < xs.length := by omega
    refine .inr ⟨⟨xs, xs[i], q, List.getElem?_eq_getElem z⟩, Pv (i + 1), fun σ' H' p' => ⟨m, Nat.lt_succ_self m, by omega, p'⟩, ?_⟩
    rintro v H' ⟨T, x, rfl, nT, rfl, hx⟩
    exact step i x σ H T (hx xs q) h.2 nT
theorem kit_self {K : PySem.W.Frag} {t : Value} : PySem.W.kitOne K t t = some true := by
  unfold PySem.W.kitOne
  rw [if_pos (beq_self_eq_true t)]
theorem kit_not {K : PySem.W.Frag} {C D : Addr} (hd : PySem.W.hasDictIn K D = true) (ht : PySem.W.typeIn K (.ref D) = some (.type "type")) (hs : PySem.W.subIn K (.ref C) (.ref C) = some true) (h : PySem.W.subIn K (.ref C) (.ref D) = some false) : PySem.W.kitOne K (.ref C) (.ref D) = some false := by
  have ne : C ≠ D := fun z => by
    rw [z] at hs h
    rw [hs] at h
    cases h
  obtain ⟨cd, hc, _⟩ := PySem.W.any_some hd
  unfold PySem.W.kitOne
  rw [if_neg (by simpa using ne)]
  unfold PySem.W.kitCls
  simp [hc, ht, h]
end G

/-! ## a constant dict of the module: texts as keys, data as values (my own) -/
namespace G
open PySem PySem.Spec PySem.Calls PyProof.Rows L2
/-- an entry of a constant dict -/
def entK (K : PySem.W.Frag) (e : DictEntry) : Option (Str × PyData) := match e.key with
  | .str x _ => (datK K 6 e.val).map fun d => (x, d)
  | _ => none
def entsK (K : PySem.W.Frag) : List DictEntry → Option (List (Str × PyData))
  | [] => some []
  | e :: r => (entK K e).bind fun p => (entsK K r).map (p :: ·)
structure EntIs (K : PySem.W.Frag) (e : DictEntry) (p : Str × PyData) : Prop where
  ex : ∃ (t : Tok) (v : V), e.key = .str p.1 t ∧ RelV v e.val ∧ ∀ H, Dp K H v p.2
theorem ents_ok {K : PySem.W.Frag} : ∀ {es : List DictEntry} {ps : List (Str × PyData)}, entsK K es = some ps → Paired (EntIs K) es ps
  | [], ps, h => by
    cases h
    exact .nil
  | e :: r, ps, h => by
    unfold entsK at h
    cases h1 : entK K e with
    | none => rw [h1] at h; cases h
    | some p =>
      rw [h1, Option.bind_some] at h
      cases h2 : entsK K r with
      | none => rw [h2] at h; cases h
      | some qs =>
        rw [h2] at h
        cases h
        refine .cons ⟨?_⟩ (ents_ok h2)
        unfold entK at h1
        split at h1
        · rename_i x t hk
          cases h3 : datK K 6 e.val with
          | none => rw [h3] at h1; cases h1
          | some d =>
            rw [h3] at h1
            cases h1
            obtain ⟨v, r, q⟩ := datK_ok _ _ _ h3
            exact ⟨t, v, hk, r, q⟩
        · cases h1
theorem ents_find {K : PySem.W.Frag} (z : Str) : ∀ {es : List DictEntry} {ps : List (Str × PyData)}, Paired (EntIs K) es ps →
    (ps.lookup z = none ∧ es.find? (·.key.isStr z) = none) ∨ ∃ d e v, ps.lookup z = some d ∧ es.find? (·.key.isStr z) = some e ∧ RelV v e.val ∧ ∀ H, Dp K H v d
  | _, _, .nil => .inl ⟨rfl, rfl⟩
  | _, _, .cons (a := e) (b := p) h t => by
    obtain ⟨tk, v, hk, r, q⟩ := h.ex
    obtain ⟨x, d⟩ := p
    have he : e.key.isStr z = (x == z) := by rw [hk]; rfl
    by_cases c : x = z
    · subst c
      refine .inr ⟨d, e, v, ?_, ?_, r, q⟩
      · simp [List.lookup]
      · rw [List.find?_cons, he]; simp
    · have c1 : (x == z) = false := by simpa using c
      have c2 : (z == x) = false := by simpa using fun y => c y.symm
      rcases ents_find z t with ⟨h1, h2⟩ | ⟨d', e', v', h1, h2, h3, h4⟩
      · refine .inl ⟨?_, ?_⟩
        · rw [List.lookup, c2]; exact h1
        · rw [List.find?_cons, he, c1]; exact h2
      · refine .inr ⟨d', e', v', ?_, ?_, h3, h4⟩
        · rw [List.lookup, c2]; exact h1
        · rw [List.find?_cons, he, c1]; exact h2
theorem ents_noref {K : PySem.W.Frag} : ∀ {es : List DictEntry} {ps : List (Str × PyData)}, Paired (EntIs K) es ps → es.any (·.refKey) = false
  | _, _, .nil => rfl
  | _, _, .cons (a := e) h t => by
    obtain ⟨tk, v, hk, _⟩ := h.ex
    rw [List.any_cons, ents_noref t, Bool.or_false]
    unfold DictEntry.refKey
    rw [hk]
/-- the name x holds a constant dict with these entries -/
structure KDat (K : PySem.W.Frag) (w : World) (d : Addr) (ps : List (Str × PyData)) : Prop where
  ex : ∃ (es : Array DictEntry) (n : Nat), KDict K w d es n ∧ entsK K es.toList = some ps
section
variable {K : PySem.W.Frag} {w : World} {d : Addr} {ps : List (Str × PyData)}
theorem KDat.ns (D : KDat K w d ps) (z : Str) : (ps.lookup z = none ∧ PySem.W.nsIn K d z = some none) ∨ ∃ dd u v, ps.lookup z = some dd ∧ PySem.W.nsIn K d z = some (some u) ∧ RelV v u ∧ ∀ H, Dp K H v dd := by
  obtain ⟨es, n, D, e⟩ := D.ex
  have P := ents_ok e
  unfold PySem.W.nsIn
  rw [D.at_]
  rcases ents_find z P with ⟨h1, h2⟩ | ⟨dd, e', v, h1, h2, h3, h4⟩
  · refine .inl ⟨h1, ?_⟩
    simp only [h2, ents_noref P]
    rfl
  · refine .inr ⟨dd, e'.val, v, h1, ?_, h3, h4⟩
    simp only [h2]
/-- z in d, z a text -/
def rInKD (d : Addr) (ps : List (Str × PyData)) : R2 := fun x y H Q => ∃ z : Str, x = .str z ∧ y = .ref d ∧ Q (.bl (ps.lookup z).isSome) H
/-- d[z] -/
def rIxKD (K : PySem.W.Frag) (d : Addr) (ps : List (Str × PyData)) : R2 := fun x y H Q => ∃ (z : Str) (dd : PyData), x = .ref d ∧ y = .str z ∧ ps.lookup z = some dd ∧ ∀ v, (∀ H', Dp K H' v dd) → Q v H
end
section
variable {X : Cx} {d : Addr} {ps : List (Str × PyData)}
theorem op_inKD (D : KDat X.K X.w d ps) : OpR X (compareOp .In) (rInKD d ps) := by
  obtain ⟨es, n, D', _⟩ := D.ex
  intro pins s σ H x y v u Q I rx ry ⟨z, hx, hy, q⟩
  rcases D.ns z with ⟨h1, h2⟩ | ⟨dd, u', v', h1, h2, h3, h4⟩
  · exact op_in_kd D' pins s σ H x y v u Q I rx ry ⟨z, none, hx, hy, h2, by rw [h1] at q; exact q⟩
  · exact op_in_kd D' pins s σ H x y v u Q I rx ry ⟨z, some u', hx, hy, h2, by rw [h1] at q; exact q⟩
theorem ix_KD (D : KDat X.K X.w d ps) : IxR X (rIxKD X.K d ps) := by
  obtain ⟨es, n, D', _⟩ := D.ex
  intro value slice pins s σ H x y v u Q I rx ry ⟨z, dd, hx, hy, hl, q⟩ hs
  rcases D.ns z with ⟨h1, _⟩ | ⟨dd', u', v', h1, h2, h3, h4⟩
  · rw [h1] at hl
    cases hl
  · rw [h1] at hl
    cases hl
    refine ix_kdict value slice pins s σ H x y v u Q I rx ry ?_ hs
    obtain ⟨es', n', D2, _⟩ := D.ex
    exact ⟨d, z, v', hx, hy, ⟨es', n', u', D2.at_, D2.lit, h2, h3⟩, q v' h4⟩
end
/-! ### for k, v in d.items(), d a constant dict -/
/-- the pairs, each a new tuple -/
def ItiK (kvs : List (Key × V)) : It :=
  ⟨fun i _ => i < kvs.length, fun i H x H' => ∃ T k v, kvs[i]? = some (k, v) ∧ x = .ref T ∧ H T = none ∧ H' = L2.upd H T (.tup [kV k, v]), fun i _ => kvs.length ≤ i⟩
/-- the dict as the heap holds it -/
structure KIt (K : PySem.W.Frag) (w : World) (d : Addr) (ep : Nat) (kvs : List (Key × V)) : Prop where
  low : (d == sysModules) = false
  at_ : ∀ (prog : Program) (h : Heap), K.In h → ∃ vs : List (Key × Value), KV kvs vs ∧ h.DictAt (mixKind prog w) d vs ep
section
variable {P : Program} {w : World} {K : PySem.W.Frag} {d : Addr} {ep : Nat}
theorem turn_itemsK {kvs : List (Key × V)} {elts : List Expr} {kk : Nat} {tpos : Pos} (D : KIt K w d ep kvs) (it : Addr) :
    Turn P w K (.Tuple elts kk tpos) (ItiK kvs) [it] it (fun i h => ∃ ok ov, IsItemIter h it d i kvs.length ep ok ov) where
  mem := by simp
  obj := fun i h st b hb => by
    have e : b = it := by simpa using hb
    subst e
    obtain ⟨ok, ov, e⟩ := st
    exact ⟨_, e, fun v z => nomatch z⟩
  keep := fun i h h' st k => let ⟨ok, ov, e⟩ := st; ⟨ok, ov, k it (by simp) _ e⟩
  item := by
    intro X hP hw hK hc i pins s σ H E I hf st hi
    subst hP hw hK
    obtain ⟨vs, kv, hm⟩ := D.at_ X.prog s.heap I.kIn
    obtain ⟨⟨k, v⟩, hkv⟩ : ∃ p, kvs[i]? = some p := ⟨kvs[i], List.getElem?_eq_getElem hi⟩
    obtain ⟨u, hu, ru⟩ := kv_get kv hkv
    have hl : kvs.length = vs.length := Paired.length kv
    obtain ⟨ok, ov, he⟩ := st
    rw [hl] at he
    have hlt : it < s.heap.objs.size := Heap.lt_size he
    refine wpAny_pyNext_items_item he hm hu fun key h' hkey ho hT hz hk => ?_
    refine ⟨_, rfl, wpAny_letOwnedTupleGo_items (s := { s with heap := h' }) ho fun h'' he' sb => ?_⟩
    have hT2 : h''.get? s.heap.objs.size = some { cls := .type "tuple", data := .seq #[key, u] } := (sb.2 _ (Nat.ne_of_gt hlt)).trans hT
    have new : ObjOk X.prog X.w (L2.upd H s.heap.objs.size (.tup [kV k, v])) h'' s.heap.objs.size (.tup [kV k, v]) :=
      ⟨by show 2 ≤ sizeLine; decide, [key, u], .cons (relV_key (show keyIs k key = true from hkey)) (.cons ru .nil), ⟨_, hT2, rfl, _, rfl⟩⟩
    have I1 : Inv X pins σ (L2.upd H s.heap.objs.size (.tup [kV k, v])) { s with heap := h'' } :=
      I.turnedNew (t' := s.toks) (ch := [it]) (fun b ob hb e => (sb.2 b (by simpa using hb)).trans (hk b ob (by simpa using hb) e)) hf (Nat.le_refl _) new
    refine ⟨.ref s.heap.objs.size, _, I1, rfl, ⟨_, k, v, hkv, rfl, I.hok.fresh (Nat.le_refl _), rfl⟩, ⟨key, u, ?_⟩, fun b hb => ?_⟩
    · rw [hl]; exact he'
    · have e : b = it := by simpa using hb
      rw [e, L2.upd_ne (Nat.ne_of_lt hlt)]
      exact (hf it (by simp)).1
  done := by
    intro X hP hw hK hc i pins s σ H E I hf st hi
    subst hP hw hK
    obtain ⟨f0, f1, f2, f3, f4, f5⟩ := hf it (by simp)
    obtain ⟨vs, kv, hm⟩ := D.at_ X.prog s.heap I.kIn
    have hl : kvs.length = vs.length := Paired.length kv
    obtain ⟨ok, ov, he⟩ := st
    rw [hl] at he
    exact wpAny_pyNext_items_end (I.ok.hd hc) he hm (List.getElem?_eq_none (by have : kvs.length ≤ i := hi; omega)) fun h' eb => ⟨rfl, I.turned (t' := s.toks) (fun b ob hb e => eb b ob hb e) f0 f1 f3 f4 f5⟩
  self := fun A i s Q E st h => let ⟨_, _, e⟩ := st; PySem.W.kcp_self e h
end
section
variable {X : Cx} {tg e : Expr} {td : TE} {apos cpos : Pos}
def iItemsK (d : Addr) (kvs : List (Key × V)) (td : TE) : TI := fun σ H R => td σ H fun x H1 => x = .ref d ∧ R (ItiK kvs) H1
theorem pi_itemsK {d : Addr} {ep : Nat} {kvs : List (Key × V)} (D : KIt X.K X.w d ep kvs) {elts : List Expr} {kk : Nat} {tpos : Pos} (he : PE X e td) (hbase : attributeBase e "items" X.env (eval e X.env) = eval e X.env := by rfl) (hline : (apos.endLine == cpos.line) = true := by rfl) :
    PI X (.Tuple elts kk tpos) (.Call (.Attribute e "items" apos) [] [] cpos) (iItemsK d kvs td) := by
  refine ⟨fun pins s σ H R I h => ?_⟩
  refine wpAny_Call_method (T := "dict") (id := "dict.items") hbase rfl hline F.plainAttrs_dict F.slot_dict_items F.type_dict_items (thn (he.run pins s σ H _ I h) fun u s1 ⟨x, H1, I1, rx, ex, q⟩ => ?_)
  subst ex
  obtain rfl : u = Value.ref d := rx
  have hs := D.low
  obtain ⟨vs, kv, hm⟩ := D.at_ X.prog s1.heap I1.kIn
  have hl : kvs.length = vs.length := Paired.length kv
  refine ⟨hm.dictOf.typeIs, hm.dictOf.mapOf.noDict, ?_⟩
  have I2 : Inv X pins σ H1 { s1 with heap := s1.heap.push { cls := .type "dict_items", data := .fields #[.ref d] } } := I1.kept (t' := s1.toks) fun b ob q => Heap.get?_push_of_some _ q
  have fin : wpAny (model X.prog X.w) X.A (pyIter (.ref s1.heap.objs.size)) (PIE X pins σ (.Tuple elts kk tpos) R) X.xe { s1 with heap := s1.heap.push { cls := .type "dict_items", data := .fields #[.ref d] } } := by
    refine wpAny_pyIter_items (d := d) (knd := mixKind X.prog X.w) ⟨_, Heap.get?_push_size _ rfl, rfl, rfl⟩ (hm.push _) (pi_one (tk := s1.toks) I2 _ (turn_itemsK D _) ⟨.none, .none, ?_⟩ q)
    rw [hl]
    exact Heap.get?_push_size _ rfl
  show wpAny _ _ (callWith cpos (.builtin "dict.items") [.ref d] [] []) _ X.xe s1
  exact method_meetsIn F.slot_dict_items F.entry_dict_items rfl (PySem.evalArgs_none ⟨rfl, hm.dictOf.typeIs, F.args_dict_items_1 _, _, meets_dict_items (mixKind X.prog X.w) d hs, ⟨vs, hm.dictOf⟩, fin⟩)
end
/-- a name of the module that holds a constant dict -/
structure KTxt (K : PySem.W.Frag) (w : World) (mg : Str → Option Value) (x : Str) (ps : List (Str × PyData)) : Prop where
  ex : ∃ d, mg x = some (.ref d) ∧ KDat K w d ps
theorem nodup_inr : ∀ {l : List Str}, l.Nodup → (l.map (Sum.inr : Str → Key)).Nodup
  | [], _ => .nil
  | x :: r, h => by
    rw [List.map_cons, List.nodup_cons]
    obtain ⟨h1, h2⟩ := List.nodup_cons.mp h
    refine ⟨fun q => ?_, nodup_inr h2⟩
    obtain ⟨y, hy, e⟩ := List.mem_map.mp q
    rw [Sum.inr.inj e] at hy
    exact h1 hy
/-- a constant dict can be walked -/
theorem KDat.kit {K : PySem.W.Frag} {w : World} {d : Addr} {ps : List (Str × PyData)} (D : KDat K w d ps) (nd : (ps.map (·.1)).Nodup) :
    ∃ (ep : Nat) (vs : List V), KIt K w d ep ((ps.map fun p => (.inr p.1 : Key)).zip vs) ∧ vs.length = ps.length ∧ ∀ H, DpAll K H vs (ps.map (·.2)) := by
  obtain ⟨es, n, D, e⟩ := D.ex
  have Pz := ents_ok e
  have lit := D.lit.all
  have key : ∀ {el : List DictEntry} {ps : List (Str × PyData)}, Paired (EntIs K) el ps → ∃ vs : List V, vs.length = ps.length ∧ (∀ H, DpAll K H vs (ps.map (·.2))) ∧
      ∀ prog : Program, ∃ us : List (Key × Value), KV ((ps.map fun p => (.inr p.1 : Key)).zip vs) us ∧ Pairs (mixKind prog w) el us ∧ us.map (·.1) = ps.map fun p => (.inr p.1 : Key) := by
    intro el ps h
    induction h with
    | nil => exact ⟨[], rfl, fun _ => .nil, fun _ => ⟨[], .nil, .nil, rfl⟩⟩
    | cons h t ih =>
      rename_i e' p es' ps'
      obtain ⟨vs, h1, h2, h3⟩ := ih
      obtain ⟨tk, v, hk, r, q⟩ := h.ex
      refine ⟨v :: vs, by rw [List.length_cons, h1]; rfl, fun H => .cons (q H) (h2 H), fun prog => ?_⟩
      obtain ⟨us, k1, k2, k3⟩ := h3 prog
      exact ⟨(.inr p.1, e'.val) :: us, .cons ⟨rfl, r⟩ k1, .cons (by rw [hk]; exact mixKind_str prog w _ _) rfl k2, by rw [List.map_cons, k3]; rfl⟩
  obtain ⟨vs, h1, h2, h3⟩ := key Pz
  refine ⟨n, vs, ⟨D.low, fun prog h I => ?_⟩, h1, h2⟩
  obtain ⟨us, k1, k2, k3⟩ := h3 prog
  refine ⟨us, k1, _, es, I _ _ D.at_, ?_, rfl, ?_, k2, ?_⟩
  · exact ⟨rfl, rfl, rfl⟩
  · intro e' he
    obtain ⟨x, t, a, b⟩ := lit e' (Array.mem_toList_iff.mpr he)
    exact ⟨.inr x, by rw [a]; exact mixKind_str prog w x t, b⟩
  · rw [k3]
    have : (ps.map fun p => (.inr p.1 : Key)) = (ps.map (·.1)).map Sum.inr := by rw [List.map_map]; rfl
    rw [this]
    exact nodup_inr nd
end G

/-! ## zip(x, ys), x an ascii text, ys a list (my own) -/
namespace G
open PySem PySem.Spec PySem.Calls PyProof.Rows L2
open PySem.Sem (wp)
section
variable {prog : Program} {w : World} {A : Around} {E : Value → Shared → Prop} {s : Shared}
theorem zipS_next_item {z TI TO i1 i2 l2 : Addr} {k1 k2 c : Nat} {t : Str} {tk : Tok} {ys : Array Value} {y a b : Value} {Q : Value → Shared → Prop} (D : ZipApart z TI TO i1 i2 l2 l2)
    (hz : IsZip s.heap z TI TO .none) (hTI : IsPair s.heap TI (.ref i1) (.ref i2)) (hTO : IsPair s.heap TO a b)
    (h1 : s.heap.IsStrIter i1 "str_ascii_iterator" t tk k1) (h2 : s.heap.IsListIter i2 l2 k2) (hl2 : s.heap.IsList l2 ys) (hx : t.cps[k1]? = some c) (hy : ys[k2]? = some y)
    (hQ : ∀ (h' : Heap) (u : Tok), IsZip h' z TI TO (rawInt s.heap.objs.size) → IsPair h' TO (.str ⟨#[c]⟩ u) y → h'.IsStrIter i1 "str_ascii_iterator" t tk (k1 + 1) → h'.IsListIter i2 l2 (k2 + 1) → IsPair h' s.heap.objs.size (.str ⟨#[c]⟩ u) y → h'.objs.size = s.heap.objs.size + 1 →
      (∀ c o, c ≠ z → c ≠ TO → c ≠ i1 → c ≠ i2 → s.heap.get? c = some o → h'.get? c = some o) → Q (.ref s.heap.objs.size) { s with heap := h', toks := s.toks + 1 }) :
    wpAny (model prog w) A (Builtin.«zip.__next__» ⟨[.ref z], []⟩) (fun fin s' => ∃ v, fin = .done (.ret v) ∧ Q v s') E s := by
  show wpAny _ _ (field (.ref z) 2 >>= _) _ _ _
  refine wpAny_bind (wpAny_field hz rfl (x := .bool false) rfl ?_)
  show wpAny _ _ (field (.ref z) 3 >>= _) _ _ _
  refine wpAny_bind (wpAny_field hz rfl (x := .ref TI) rfl ?_)
  refine wpAny_bind (wpAny_seqItems hTI rfl ?_)
  show wpAny _ _ (Builtin.SmallTypes.ownedTupleIsFree (.ref z) >>= _) _ _ _
  refine wpAny_bind ?_
  unfold Builtin.SmallTypes.ownedTupleIsFree
  refine wpAny_bind (wpAny_field hz rfl (x := .none) rfl (wpAny_pure ?_))
  simp only [if_true]
  refine wpAny_bind (wpAny_rule ?_)
  refine wpAny_bind (wpAny_field hz rfl (x := .ref TO) rfl ?_)
  refine wpAny_bind (wpAny_setField_rec hz (by simp) fun h₁ hz₁ hs₁ => ?_)
  replace hz₁ : IsZip h₁ z TI TO .ellipsis := hz₁
  refine wpAny_bind ?_
  simp only [List.zipIdx_cons, List.zipIdx_nil, List.forIn_cons, List.forIn_nil]
  refine wpAny_bind (wpAny_bind (wpAny_onRaise ?_))
  show wpAny _ _ (Builtin.SmallTypes.nextOf (.ref i1) >>= _) _ _ _
  refine wpAny_bind (wpAny_nextOf_ascii_item (h1.extBut hs₁.extBut D.i1z) hx fun h₂ h1₂ hs₂ => wpAny_pure ?_)
  have hTO₂ : IsPair h₂ TO a b := hs₂.extBut _ _ D.TOi1 (hs₁.extBut _ _ D.TOz hTO)
  refine wpAny_bind (wpAny_seqItems hTO₂ rfl ?_)
  refine wpAny_bind (wpAny_updateSeq_pair hTO₂ fun h₃ hTO₃ hs₃ => ?_)
  replace hTO₃ : IsPair h₃ TO (.str ⟨#[c]⟩ s.toks) b := hTO₃
  refine wpAny_bind (wpAny_letGo (wpAny_pure ?_))
  refine wpAny_bind (wpAny_bind (wpAny_onRaise ?_))
  show wpAny _ _ (Builtin.SmallTypes.nextOf (.ref i2) >>= _) _ _ _
  refine wpAny_bind (wpAny_nextOf_list_item (((h2.extBut hs₁.extBut D.i2z).extBut hs₂.extBut D.i12.symm).extBut hs₃.extBut D.TOi2.symm)
    (((hl2.extBut hs₁.extBut D.l2z).extBut hs₂.extBut D.l2i1).extBut hs₃.extBut D.l2TO) hy fun h₄ h2₄ hs₄ => wpAny_pure ?_)
  have hTO₄ : IsPair h₄ TO (.str ⟨#[c]⟩ s.toks) b := hs₄.extBut _ _ D.TOi2 hTO₃
  refine wpAny_bind (wpAny_seqItems hTO₄ rfl ?_)
  refine wpAny_bind (wpAny_updateSeq_pair hTO₄ fun h₅ hTO₅ hs₅ => ?_)
  replace hTO₅ : IsPair h₅ TO (.str ⟨#[c]⟩ s.toks) y := hTO₅
  refine wpAny_bind (wpAny_letGo (wpAny_pure (wpAny_pure ?_)))
  refine wpAny_bind (wpAny_seqItems hTO₅ rfl ?_)
  refine wpAny_bind (wpAny_newTuple ?_)
  have hsz : h₅.objs.size = s.heap.objs.size := by rw [hs₅.1, hs₄.1, hs₃.1, hs₂.1, hs₁.1]
  have hz₅ : IsZip h₅ z TI TO .ellipsis := hs₅.extBut _ _ D.TOz.symm (hs₄.extBut _ _ D.i2z.symm (hs₃.extBut _ _ D.TOz.symm (hs₂.extBut _ _ D.i1z.symm hz₁)))
  have hk₅ : ∀ c o, c ≠ z → c ≠ TO → c ≠ i1 → c ≠ i2 → s.heap.get? c = some o → h₅.get? c = some o := fun c o c1 c2 c3 c4 e =>
    hs₅.extBut _ _ c2 (hs₄.extBut _ _ c4 (hs₃.extBut _ _ c2 (hs₂.extBut _ _ c3 (hs₁.extBut _ _ c1 e))))
  have h1₅ : h₅.IsStrIter i1 "str_ascii_iterator" t tk (k1 + 1) := ((h1₂.extBut hs₃.extBut D.TOi1.symm).extBut hs₄.extBut D.i12).extBut hs₅.extBut D.TOi1.symm
  have h2₅ : h₅.IsListIter i2 l2 (k2 + 1) := h2₄.extBut hs₅.extBut D.TOi2.symm
  have hzlt : z < h₅.objs.size := Heap.lt_size hz₅
  have hTOlt : TO < h₅.objs.size := Heap.lt_size hTO₅
  have hi1lt : i1 < h₅.objs.size := by obtain ⟨_, e, _⟩ := h1₅; exact Heap.lt_size e
  have hi2lt : i2 < h₅.objs.size := by obtain ⟨_, e, _⟩ := h2₅; exact Heap.lt_size e
  show wpAny _ _ (Builtin.SmallTypes.ownedTupleHandOut (.ref z) (.ref h₅.objs.size) >>= _) _ _ _
  refine wpAny_bind ?_
  unfold Builtin.SmallTypes.ownedTupleHandOut
  have hz₆ : IsZip (h₅.push { cls := .type "tuple", data := .seq #[.str ⟨#[c]⟩ s.toks, y] }) z TI TO .ellipsis := Heap.get?_push_of_some _ hz₅
  refine wpAny_bind (wpAny_setField_rec hz₆ (by simp) fun h₇ hz₇ hs₇ => ?_)
  replace hz₇ : IsZip h₇ z TI TO (rawInt h₅.objs.size) := hz₇
  refine wpAny_setField_rec hz₇ (by simp) fun h₈ hz₈ hs₈ => ?_
  replace hz₈ : IsZip h₈ z TI TO (rawInt h₅.objs.size) := hz₈
  have up : ∀ c o, c ≠ z → h₅.get? c = some o → h₈.get? c = some o := fun c o c1 e => hs₈.extBut _ _ c1 (hs₇.extBut _ _ c1 (Heap.get?_push_of_some _ e))
  have hT₈ : IsPair h₈ h₅.objs.size (.str ⟨#[c]⟩ s.toks) y := hs₈.extBut _ _ (Nat.ne_of_gt hzlt) (hs₇.extBut _ _ (Nat.ne_of_gt hzlt) (Heap.get?_push_size _ rfl))
  have hz8 : h₈.objs.size = h₅.objs.size + 1 := by rw [hs₈.1, hs₇.1, Heap.size_push]
  rw [hsz] at hz₈ hT₈ hz8
  refine wpAny_pure ⟨_, rfl, ?_⟩
  show Q (.ref h₅.objs.size) _
  rw [hsz]
  exact hQ h₈ _ hz₈ (up _ _ D.TOz hTO₅) (let ⟨o, e, r⟩ := h1₅; ⟨o, up _ o D.i1z e, r⟩) (h2₅.at fun o e => up _ o D.i2z e) hT₈ hz8 fun c o c1 c2 c3 c4 e => up c o c1 (hk₅ c o c1 c2 c3 c4 e)
theorem zipS_next_end {z TI TO i1 i2 l2 : Addr} {k1 : Nat} {t : Str} {tk : Tok} {a b : Value} {Q : Fin → Shared → Prop} (hh : A.handled = none) (D : ZipApart z TI TO i1 i2 l2 l2)
    (hz : IsZip s.heap z TI TO .none) (hTI : IsPair s.heap TI (.ref i1) (.ref i2)) (hTO : IsPair s.heap TO a b) (h1 : s.heap.IsStrIter i1 "str_ascii_iterator" t tk k1) (hx : t.cps[k1]? = none)
    (hE : ∀ h' e, (∀ c o, c ≠ z → c ≠ TO → c ≠ i1 → c ≠ i2 → s.heap.get? c = some o → h'.get? c = some o) → (∃ o, h'.get? e = some o ∧ o.cls = .type "StopIteration") → E (.ref e) { s with heap := h' }) :
    wpAny (model prog w) A (Builtin.«zip.__next__» ⟨[.ref z], []⟩) Q E s := by
  show wpAny _ _ (field (.ref z) 2 >>= _) _ _ _
  refine wpAny_bind (wpAny_field hz rfl (x := .bool false) rfl ?_)
  show wpAny _ _ (field (.ref z) 3 >>= _) _ _ _
  refine wpAny_bind (wpAny_field hz rfl (x := .ref TI) rfl ?_)
  refine wpAny_bind (wpAny_seqItems hTI rfl ?_)
  show wpAny _ _ (Builtin.SmallTypes.ownedTupleIsFree (.ref z) >>= _) _ _ _
  refine wpAny_bind ?_
  unfold Builtin.SmallTypes.ownedTupleIsFree
  refine wpAny_bind (wpAny_field hz rfl (x := .none) rfl (wpAny_pure ?_))
  simp only [if_true]
  refine wpAny_bind (wpAny_rule ?_)
  refine wpAny_bind (wpAny_field hz rfl (x := .ref TO) rfl ?_)
  refine wpAny_bind (wpAny_setField_rec hz (by simp) fun h₁ hz₁ hs₁ => ?_)
  replace hz₁ : IsZip h₁ z TI TO .ellipsis := hz₁
  refine wpAny_bind ?_
  simp only [List.zipIdx_cons, List.zipIdx_nil, List.forIn_cons, List.forIn_nil]
  refine wpAny_bind (wpAny_bind (wpAny_onRaise ?_))
  show wpAny _ _ (Builtin.SmallTypes.nextOf (.ref i1) >>= _) _ _ _
  refine wpAny_bind (wpAny_nextOf_ascii_end hh (h1.extBut hs₁.extBut D.i1z) hx fun h₂ e hs₂ he => ?_)
  obtain ⟨oe, hoe, hce⟩ := he
  have hz₂ : IsZip h₂ z TI TO .ellipsis := hs₂ _ _ D.i1z.symm hz₁
  have hez : e ≠ z := fun x => by subst x; rw [hz₂] at hoe; cases hoe; simp at hce
  exact wpAny_setField_rec hz₂ (by simp) fun h₃ _ hs₃ => hE h₃ e (fun c o c1 _ c3 _ x => hs₃.extBut _ _ c1 (hs₂ _ _ c3 (hs₁.extBut _ _ c1 x))) ⟨oe, hs₃.extBut _ _ hez hoe, hce⟩
theorem pyNext_zipS_item {z TI TO i1 i2 l2 : Addr} {k1 k2 c : Nat} {t : Str} {tk : Tok} {ys : Array Value} {y a b : Value} {Q : Option Value → Shared → Prop} (D : ZipApart z TI TO i1 i2 l2 l2)
    (hz : IsZip s.heap z TI TO .none) (hTI : IsPair s.heap TI (.ref i1) (.ref i2)) (hTO : IsPair s.heap TO a b)
    (h1 : s.heap.IsStrIter i1 "str_ascii_iterator" t tk k1) (h2 : s.heap.IsListIter i2 l2 k2) (hl2 : s.heap.IsList l2 ys) (hx : t.cps[k1]? = some c) (hy : ys[k2]? = some y)
    (hQ : ∀ (h' : Heap) (u : Tok), IsZip h' z TI TO (rawInt s.heap.objs.size) → IsPair h' TO (.str ⟨#[c]⟩ u) y → h'.IsStrIter i1 "str_ascii_iterator" t tk (k1 + 1) → h'.IsListIter i2 l2 (k2 + 1) → IsPair h' s.heap.objs.size (.str ⟨#[c]⟩ u) y → h'.objs.size = s.heap.objs.size + 1 →
      (∀ c o, c ≠ z → c ≠ TO → c ≠ i1 → c ≠ i2 → s.heap.get? c = some o → h'.get? c = some o) → Q (some (.ref s.heap.objs.size)) { s with heap := h', toks := s.toks + 1 }) :
    wpAny (model prog w) A (pyNext (.ref z)) Q E s := by
  have hT : s.TypeIs (.ref z) "zip" := ⟨_, hz, rfl⟩
  unfold pyNext
  exact wpAny_bind (wpAny_attempt (wpAny_callSpecial?_slot (name := Str.ofString "__next__") hT F.slot_zip_next
    (wpAny_call_entry F.slot_zip_next hT F.entry_zip_next
      (zipS_next_item D hz hTI hTO h1 h2 hl2 hx hy fun h' u a1 a2 a3 a4 a5 a6 a7 => wpAny_pure (hQ h' u a1 a2 a3 a4 a5 a6 a7)) (F.args_zip_next_1 _))))
theorem pyNext_zipS_end {z TI TO i1 i2 l2 : Addr} {k1 : Nat} {t : Str} {tk : Tok} {a b : Value} {Q : Option Value → Shared → Prop} (hh : A.handled = none) (D : ZipApart z TI TO i1 i2 l2 l2)
    (hz : IsZip s.heap z TI TO .none) (hTI : IsPair s.heap TI (.ref i1) (.ref i2)) (hTO : IsPair s.heap TO a b) (h1 : s.heap.IsStrIter i1 "str_ascii_iterator" t tk k1) (hx : t.cps[k1]? = none)
    (hQ : ∀ h', (∀ c o, c ≠ z → c ≠ TO → c ≠ i1 → c ≠ i2 → s.heap.get? c = some o → h'.get? c = some o) → Q none { s with heap := h' }) : wpAny (model prog w) A (pyNext (.ref z)) Q E s := by
  have hT : s.TypeIs (.ref z) "zip" := ⟨_, hz, rfl⟩
  unfold pyNext
  refine wpAny_bind (wpAny_attempt (wpAny_callSpecial?_slot (name := Str.ofString "__next__") hT F.slot_zip_next
    (wpAny_call_entry F.slot_zip_next hT F.entry_zip_next (zipS_next_end hh D hz hTI hTO h1 hx fun h' e hk he => ?_) (F.args_zip_next_1 _))))
  obtain ⟨o, ho, hc⟩ := he
  refine wpAny_bind (wpAny_isInstance (T := "StopIteration") (b := true) ⟨o, ho, hc⟩ isSubtype_stop ?_)
  exact wpAny_pure (hQ _ hk)
end
abbrev zS1 (h : Heap) (t : Str) (tk : Tok) : Heap := h.push { cls := .type "str_ascii_iterator", data := .fields #[.str t tk, .int 0 0] }
abbrev zS2 (h : Heap) (t : Str) (tk : Tok) (l2 : Addr) : Heap := (zS1 h t tk).push { cls := .type "list_iterator", data := .fields #[.ref l2, .int 0 0] }
abbrev zS3 (h : Heap) (t : Str) (tk : Tok) (l2 : Addr) : Heap := (zS2 h t tk l2).push { cls := .type "tuple", data := .seq #[.ref h.objs.size, .ref (zS1 h t tk).objs.size] }
abbrev zS4 (h : Heap) (t : Str) (tk : Tok) (l2 : Addr) : Heap := (zS3 h t tk l2).push { cls := .type "tuple", data := .seq #[.none, .none] }
abbrev zS5 (h : Heap) (t : Str) (tk : Tok) (l2 : Addr) : Heap := (zS4 h t tk l2).push { cls := .type "zip", data := .fields #[.none, .bool false, .bool false, .ref (zS2 h t tk l2).objs.size, .ref (zS3 h t tk l2).objs.size] }
theorem meets_zipS_new (t : Str) (tk : Tok) (l2 : Addr) (ys : Array Value) (ha : t.cps.all (· < 128) = true) :
    Meets (Builtin.«zip.__new__» ⟨[.type "zip", .str t tk, .ref l2], []⟩) (fun _ R s => s.heap.IsList l2 ys ∧
      R (.ok (.ret (.ref (zS4 s.heap t tk l2).objs.size))) { s with heap := zS5 s.heap t tk l2 }) :=
  .of_wp fun prog w A R s h => by
    obtain ⟨hp, g, d, tks, os⟩ := s; obtain ⟨hl2, h⟩ := h
    have hsub := sub_zip
    have hL2 : Heap.IsList (Shared.heap ⟨hp.push { cls := .type "str_ascii_iterator", data := .fields #[.str t tk, .int 0 0] }, g, d, tks, os⟩) l2 ys := Heap.IsList.push hl2 _
    wp_walk using wpAny_pyIter_ascii ha, wpAny_pyIter_list hL2
    exact ⟨_, rfl, h⟩
section
variable {prog : Program} {w : World} {A : Around} {E : Value → Shared → Prop} {s : Shared}
theorem call_zipS {t : Str} {tk : Tok} {l2 : Addr} {ys : Array Value} {Q : Value → Shared → Prop} (ha : t.cps.all (· < 128) = true) (hl2 : s.heap.IsList l2 ys)
    (h : ∀ h', IsZip h' (s.heap.objs.size + 4) (s.heap.objs.size + 2) (s.heap.objs.size + 3) .none → IsPair h' (s.heap.objs.size + 2) (.ref s.heap.objs.size) (.ref (s.heap.objs.size + 1)) →
      IsPair h' (s.heap.objs.size + 3) .none .none → h'.IsStrIter s.heap.objs.size "str_ascii_iterator" t tk 0 → h'.IsListIter (s.heap.objs.size + 1) l2 0 → h'.objs.size = s.heap.objs.size + 5 →
      (∀ c o, s.heap.get? c = some o → h'.get? c = some o) → Q (.ref (s.heap.objs.size + 4)) { s with heap := h' }) :
    wpAny (model prog w) A (call (.type "zip") [.str t tk, .ref l2]) Q E s := by
  refine callType_new F.called_zip (by decide) (F.typeCall_zip_2 _ _) (F.newCall_zip_2 _ _) (fun obj => F.args_object_init_3 obj _ _) F.entry_zip_new
    (meets_zipS_new t tk l2 ys ha) ⟨hl2, ?_⟩
  have z1 : (zS1 s.heap t tk).objs.size = s.heap.objs.size + 1 := Heap.size_push ..
  have z2 : (zS2 s.heap t tk l2).objs.size = s.heap.objs.size + 2 := by rw [Heap.size_push, z1]
  have z3 : (zS3 s.heap t tk l2).objs.size = s.heap.objs.size + 3 := by rw [Heap.size_push, z2]
  have z4 : (zS4 s.heap t tk l2).objs.size = s.heap.objs.size + 4 := by rw [Heap.size_push, z3]
  have z5 : (zS5 s.heap t tk l2).objs.size = s.heap.objs.size + 5 := by rw [Heap.size_push, z4]
  have g5 : (zS5 s.heap t tk l2).get? (zS4 s.heap t tk l2).objs.size = some _ := Heap.get?_push_size _ rfl
  have g4 : (zS5 s.heap t tk l2).get? (zS3 s.heap t tk l2).objs.size = some _ := Heap.get?_push_of_some _ (Heap.get?_push_size _ rfl)
  have g3 : (zS5 s.heap t tk l2).get? (zS2 s.heap t tk l2).objs.size = some _ := Heap.get?_push_of_some _ (Heap.get?_push_of_some _ (Heap.get?_push_size _ rfl))
  have g2 : (zS5 s.heap t tk l2).get? (zS1 s.heap t tk).objs.size = some _ := Heap.get?_push_of_some _ (Heap.get?_push_of_some _ (Heap.get?_push_of_some _ (Heap.get?_push_size _ rfl)))
  have g1 : (zS5 s.heap t tk l2).get? s.heap.objs.size = some _ := Heap.get?_push_of_some _ (Heap.get?_push_of_some _ (Heap.get?_push_of_some _ (Heap.get?_push_of_some _ (Heap.get?_push_size _ rfl))))
  show _ ∧ _
  rw [z2, z3, z4] at g5
  rw [z1, z2] at g3
  rw [z3] at g4
  rw [z1] at g2
  rw [z4]
  exact ⟨⟨_, g5, rfl⟩, h _ g5 g3 g4 ⟨_, g1, rfl, rfl⟩ ⟨_, g2, rfl, rfl⟩ z5 fun c o x =>
    Heap.get?_push_of_some _ (Heap.get?_push_of_some _ (Heap.get?_push_of_some _ (Heap.get?_push_of_some _ (Heap.get?_push_of_some _ x))))⟩
end
/-- the signs of t with the items of the list at b, in new pairs -/
def ItzS (K : PySem.W.Frag) (t : Str) (b : Addr) : It :=
  ⟨fun i H => ∃ (ys : List V) (c : Nat) (y : V), SqL K H b ys ∧ t.cps[i]? = some c ∧ ys[i]? = some y,
    fun i H v H' => ∃ T c y, v = .ref T ∧ H T = none ∧ H' = L2.upd H T (.tup [.str ⟨#[c]⟩, y]) ∧ t.cps[i]? = some c ∧ ∀ ys, SqL K H b ys → ys[i]? = some y,
    fun i _ => t.cps[i]? = none⟩
theorem turn_zipS {P : Program} {w : World} {K : PySem.W.Frag} {elts : List Expr} {kk : Nat} {tpos : Pos} {t : Str} {tk : Tok} {b z TI TO i1 i2 : Addr} (D : ZipApart z TI TO i1 i2 b b) :
    Turn P w K (.Tuple elts kk tpos) (ItzS K t b) [z, TI, TO, i1, i2] z (fun i h => IsZip h z TI TO .none ∧ IsPair h TI (.ref i1) (.ref i2) ∧ (∃ x y, IsPair h TO x y) ∧ h.IsStrIter i1 "str_ascii_iterator" t tk i ∧ h.IsListIter i2 b i) where
  mem := by simp
  obj := fun i h st c hc => by
    obtain ⟨hz, hTI, ⟨x, y, hTO⟩, ⟨o1, e1, _, d1⟩, ⟨o2, e2, _, d2⟩⟩ := st
    have e' : c = z ∨ c = TI ∨ c = TO ∨ c = i1 ∨ c = i2 := by simpa using hc
    rcases e' with q | q | q | q | q
    · rw [q]; exact ⟨_, hz, fun v q => nomatch q⟩
    · rw [q]; exact ⟨_, hTI, fun v q => nomatch q⟩
    · rw [q]; exact ⟨_, hTO, fun v q => nomatch q⟩
    · rw [q]; exact ⟨o1, e1, fun v q => by rw [d1] at q; cases q⟩
    · rw [q]; exact ⟨o2, e2, fun v q => by rw [d2] at q; cases q⟩
  keep := fun i h h' st k => by
    obtain ⟨hz, hTI, ⟨x, y, hTO⟩, ⟨o1, e1, r1⟩, h2⟩ := st
    exact ⟨k z (by simp) _ hz, k TI (by simp) _ hTI, ⟨x, y, k TO (by simp) _ hTO⟩, ⟨o1, k i1 (by simp) o1 e1, r1⟩, h2.at fun o q => k i2 (by simp) o q⟩
  item := by
    intro X hP hw hK hc i pins s σ H E I hf st hg
    subst hP hw hK
    obtain ⟨hz, hTI, ⟨x0, y0, hTO⟩, h1, h2⟩ := st
    obtain ⟨ys, c, y, hqy, hx, hy⟩ := hg
    obtain ⟨its2, rv2, p2, _⟩ := I.list hqy
    obtain ⟨u2, hu2, ru2⟩ := rv2.get hy
    have hzl : z < s.heap.objs.size := Heap.lt_size hz
    refine pyNext_zipS_item D hz hTI hTO h1 h2 p2.isList hx (y := u2) (by simpa using hu2) fun h' u z' TO' h1' h2' hT hsz hk => ?_
    refine ⟨_, rfl, wpAny_letOwnedTupleGo_zip (s := { s with heap := h', toks := s.toks + 1 }) z' fun h'' z'' sb => ?_⟩
    have hT2 : h''.get? s.heap.objs.size = some { cls := .type "tuple", data := .seq #[.str ⟨#[c]⟩ u, u2] } := (sb.2 _ (Nat.ne_of_gt hzl)).trans hT
    have new : ObjOk X.prog X.w (L2.upd H s.heap.objs.size (.tup [.str ⟨#[c]⟩, y])) h'' s.heap.objs.size (.tup [.str ⟨#[c]⟩, y]) :=
      ⟨by show 2 ≤ sizeLine; decide, [.str ⟨#[c]⟩ u, u2], .cons ⟨_, rfl⟩ (.cons ru2 .nil), ⟨_, hT2, rfl, _, rfl⟩⟩
    have I1 : Inv X pins σ (L2.upd H s.heap.objs.size (.tup [.str ⟨#[c]⟩, y])) { s with heap := h'', toks := s.toks + 1 } :=
      I.turnedNew (t' := s.toks + 1) (ch := [z, TI, TO, i1, i2]) (fun c o hb q => (sb.2 c (fun q' => hb (by simp [q']))).trans (hk c o (fun q' => hb (by simp [q'])) (fun q' => hb (by simp [q'])) (fun q' => hb (by simp [q'])) (fun q' => hb (by simp [q'])) q)) hf (Nat.le_refl _) new
    refine ⟨.ref s.heap.objs.size, _, I1, rfl, ⟨_, c, y, rfl, I.hok.fresh (Nat.le_refl _), rfl, hx, fun l hl => by rw [I.list_inj hl hqy]; exact hy⟩, ⟨z'', ?_, ⟨.str ⟨#[c]⟩ u, u2, ?_⟩, ?_, ?_⟩, fun c hcm => ?_⟩
    · exact (sb.2 _ D.TIz).trans (hk _ _ D.TIz D.TITO D.TIi1 D.TIi2 hTI)
    · exact (sb.2 _ D.TOz).trans TO'
    · obtain ⟨o1, e1, r1⟩ := h1'
      exact ⟨o1, (sb.2 _ D.i1z).trans e1, r1⟩
    · exact h2'.at fun o q => (sb.2 _ D.i2z).trans q
    · have hlt : c < s.heap.objs.size := by
        have e' : c = z ∨ c = TI ∨ c = TO ∨ c = i1 ∨ c = i2 := by simpa using hcm
        rcases e' with q | q | q | q | q
        · rw [q]; exact hzl
        · rw [q]; exact Heap.lt_size hTI
        · rw [q]; exact Heap.lt_size hTO
        · rw [q]; obtain ⟨_, e1, _⟩ := h1; exact Heap.lt_size e1
        · rw [q]; obtain ⟨_, e2, _⟩ := h2; exact Heap.lt_size e2
      rw [L2.upd_ne (Nat.ne_of_lt hlt)]
      exact (hf c hcm).1
  done := by
    intro X hP hw hK hc i pins s σ H E I hf st hg
    subst hP hw hK
    obtain ⟨hz, hTI, ⟨x0, y0, hTO⟩, h1, h2⟩ := st
    exact pyNext_zipS_end (I.ok.hd hc) D hz hTI hTO h1 hg fun h' hk => ⟨rfl, I.turnedL (t' := s.toks) (ch := [z, TI, TO, i1, i2]) (fun c o hb q =>
      hk c o (fun q' => hb (by simp [q'])) (fun q' => hb (by simp [q'])) (fun q' => hb (by simp [q'])) (fun q' => hb (by simp [q'])) q) hf⟩
  self := fun A i s Q E st h => wpAny_pyIter_zip st.1 h
def iZipS (K : PySem.W.Frag) (ta : TA) : TI := fun σ H R => ta σ H fun vs H1 => ∃ t b ys, vs = [.str t, .ref b] ∧ t.cps.all (· < 128) = true ∧ SqL K H1 b ys ∧ R (ItzS K t b) H1
theorem pi_zipS {X : Cx} {e e2 : Expr} {ta : TA} {p pos tpos : Pos} {elts : List Expr} {kk : Nat} (hg : Gl X "zip") (hm : X.mg "zip" = none) (ha : PA X [e, e2] ta)
    (hs : starEach [e, e2] X.env = (false, eval e X.env) :: starEach [e2] X.env := by rfl) (hpl : (backTo pos (starEach [e2] X.env)).any (·.1) = false := by rfl) :
    PI X (.Tuple elts kk tpos) (.Call (.Name "zip" p) [e, e2] [] pos) (iZipS X.K ta) := by
  refine ⟨fun pins s σ H R I h => ?_⟩
  refine Call_ (ld_blt I hg hm PyProof.Rows.boot_zip (PyProof.Rows.callWith_type1 (thn (ha.run pos pins s σ H _ I h) fun us s1 ⟨vs, H1, I1, r1, q1⟩ => ?_) hs hpl))
  obtain ⟨t, b, ys, ex, has, hqy, q⟩ := q1
  subst ex
  cases r1 with
  | cons r rr =>
    cases rr with
    | cons r' rr =>
      cases rr
      obtain ⟨tk, rfl⟩ := r
      cases r'
      obtain ⟨its2, rv2, p2, _⟩ := I1.list hqy
      have lb : b < s1.heap.objs.size := p2.lt
      refine call_zipS has p2.isList fun h' hz hTI hTO h1 h2 hsz hk => wpAny_pyIter_zip hz ?_
      have I2 : Inv X pins σ H1 { s1 with heap := h' } := I1.kept (t' := s1.toks) hk
      refine ⟨s1.heap.objs.size + 4, [s1.heap.objs.size + 4, s1.heap.objs.size + 2, s1.heap.objs.size + 3, s1.heap.objs.size, s1.heap.objs.size + 1], _, _, H1, rfl, I2, turn_zipS (PySem.W.ktu_apart s1.heap.objs.size b b lb lb), ⟨hz, hTI, ⟨_, _, hTO⟩, h1, h2⟩, fun c hcm => ?_, q⟩
      have e' : c = s1.heap.objs.size + 4 ∨ c = s1.heap.objs.size + 2 ∨ c = s1.heap.objs.size + 3 ∨ c = s1.heap.objs.size ∨ c = s1.heap.objs.size + 1 := by simpa using hcm
      have hle : s1.heap.objs.size ≤ c := by
        rcases e' with z | z | z | z | z
        · rw [z]; exact Nat.le_add_right _ _
        · rw [z]; exact Nat.le_add_right _ _
        · rw [z]; exact Nat.le_add_right _ _
        · rw [z]; exact Nat.le_refl _
        · rw [z]; exact Nat.le_add_right _ _
      exact I1.fpOk hle (I1.hok.fresh hle)
end G

/-! ## walks of a known length; texts by their signs (my own) -/
namespace G
open PySem PySem.Spec PySem.Calls PyProof.Rows L2
/-- a comprehension's walk of n turns -/
theorem lc_it {J : It} {n : Nat} {g : TG} {tt : TT} {te : TE} {vs : List Nat} {σ : L2.St} {H1 : Hp} {D : Addr} {Qd : Hp → Prop} (Pv : Nat → Hp → Prop) (h0 : Pv 0 (upd H1 D (.lst [])))
    (hgo : ∀ i H, i < n → Pv i H → J.go i H) (hst : ∀ H, Pv n H → J.stop n H)
    (hs : ∀ i x H H', i < n → Pv i H → J.yld i H x H' → g x (wipe σ vs) H' fun σ2 H2 => wipe σ2 vs = wipe σ vs ∧ tt σ2 H2 fun b H3 =>
      if b = true then te σ2 H3 fun y H4 => ∃ acc, H4 D = some (.lst acc) ∧ acc.length < sizeLine ∧ Pv (i + 1) (upd H4 D (.lst (acc ++ [y]))) else Pv (i + 1) H3) (hd : ∀ H, Pv n H → Qd H) :
    ∃ W : Nat → Nat → Hp → Prop, (∃ m, W 0 m (upd H1 D (.lst []))) ∧ ∀ i m H, W i m H →
      (J.stop i H ∧ Qd H) ∨ (J.go i H ∧ ∃ Nx : Hp → Prop, (∀ H', Nx H' → ∃ m', m' < m ∧ W (i + 1) m' H') ∧ ∀ x H', J.yld i H x H' → g x (wipe σ vs) H' fun σ2 H2 => wipe σ2 vs = wipe σ vs ∧ tt σ2 H2 fun b H3 =>
        if b = true then te σ2 H3 fun y H4 => ∃ acc, H4 D = some (.lst acc) ∧ acc.length < sizeLine ∧ Nx (upd H4 D (.lst (acc ++ [y]))) else Nx H3) := by
  refine ⟨fun i m H => m = n - i ∧ i ≤ n ∧ Pv i H, ⟨n, by simp, Nat.zero_le _, h0⟩, ?_⟩
  rintro i m H ⟨rfl, hi, p⟩
  by_cases hlt : i < n
  · exact .inr ⟨hgo i H hlt p, Pv (i + 1), fun H' p' => ⟨n - (i + 1), by omega, rfl, hlt, p'⟩, fun x H' y => hs i x H H' hlt p y⟩
  · have e : i = n := by omega
    subst e
    exact .inl ⟨hst H p, hd H p⟩
/-- a loop of at most n turns -/
theorem for_it {J : It} {n : Nat} {g : TG} {tb : TS} {D : Ends} {σ : L2.St} {H : Hp} (Pv : Nat → L2.St → Hp → Prop) (h0 : Pv 0 σ H)
    (hgo : ∀ i σ H, i < n → Pv i σ H → J.go i H) (hst : ∀ σ H, Pv n σ H → J.stop n H)
    (hs : ∀ i x σ H H', i < n → Pv i σ H → J.yld i H x H' → g x σ H' fun σ2 H2 => tb { D with nx := Pv (i + 1), ct := Pv (i + 1), bk := D.nx } σ2 H2) (hd : ∀ σ H, Pv n σ H → D.nx σ H) :
    ∃ W : Nat → Nat → L2.St → Hp → Prop, (∃ m, W 0 m σ H) ∧ ∀ i m σ H, W i m σ H →
      (J.stop i H ∧ D.nx σ H) ∨ (J.go i H ∧ ∃ N : L2.St → Hp → Prop, (∀ σ' H', N σ' H' → ∃ m', m' < m ∧ W (i + 1) m' σ' H') ∧ ∀ x H', J.yld i H x H' → g x σ H' fun σ2 H2 => tb { D with nx := N, ct := N, bk := D.nx } σ2 H2) := by
  refine ⟨fun i m σ H => m = n - i ∧ i ≤ n ∧ Pv i σ H, ⟨n, by simp, Nat.zero_le _, h0⟩, ?_⟩
  rintro i m σ H ⟨rfl, hi, p⟩
  by_cases hlt : i < n
  · exact .inr ⟨hgo i σ H hlt p, Pv (i + 1), fun σ' H' p' => ⟨n - (i + 1), by omega, rfl, hlt, p'⟩, fun x H' y => hs i x σ H H' hlt p y⟩
  · have e : i = n := by omega
    subst e
    exact .inl ⟨hst σ H p, hd σ H p⟩
/-- [e(c) for c in x if p(c)], x a text: what changes nothing else -/
theorem lc_str {gt : TG} {tt : TT} {te : TE} {vs : List Nat} {σ : L2.St} {H1 : Hp} {D : Addr} {Qd : Hp → Prop} {x : Str} (p : Nat → Bool) (e : Nat → V) (hl : x.cps.size ≤ 100000)
    (hs : ∀ (c : Nat) (acc : List V) (R : Hp → Prop), c ∈ x.cps.toList → acc.length < sizeLine →
      (p c = false → R (upd H1 D (.lst acc))) → (p c = true → R (upd H1 D (.lst (acc ++ [e c])))) →
      gt (.str ⟨#[c]⟩) (wipe σ vs) (upd H1 D (.lst acc)) fun σ2 H2 => wipe σ2 vs = wipe σ vs ∧ tt σ2 H2 fun b H3 =>
        if b = true then te σ2 H3 fun y H4 => ∃ acc, H4 D = some (.lst acc) ∧ acc.length < sizeLine ∧ R (upd H4 D (.lst (acc ++ [y]))) else R H3)
    (hq : Qd (upd H1 D (.lst ((x.cps.toList.filter p).map e)))) :
    ∃ W : Nat → Nat → Hp → Prop, (∃ m, W 0 m (upd H1 D (.lst []))) ∧ ∀ i m H, W i m H →
      ((Its x).stop i H ∧ Qd H) ∨ ((Its x).go i H ∧ ∃ Nx : Hp → Prop, (∀ H', Nx H' → ∃ m', m' < m ∧ W (i + 1) m' H') ∧ ∀ y H', (Its x).yld i H y H' → gt y (wipe σ vs) H' fun σ2 H2 => wipe σ2 vs = wipe σ vs ∧ tt σ2 H2 fun b H3 =>
        if b = true then te σ2 H3 fun y H4 => ∃ acc, H4 D = some (.lst acc) ∧ acc.length < sizeLine ∧ Nx (upd H4 D (.lst (acc ++ [y]))) else Nx H3) := by
  have len : x.cps.toList.length = x.cps.size := Array.length_toList
  refine lc_it (n := x.cps.size) (fun i H => H = upd H1 D (.lst (((x.cps.toList.take i).filter p).map e))) rfl (fun i H hi _ => hi) (fun H _ => Nat.le_refl _) ?_ ?_
  · rintro i y H H' hi rfl ⟨rfl, c, hc, rfl⟩
    have hc' : x.cps.toList[i]? = some c := by rw [Array.getElem?_toList]; exact hc
    have tk : x.cps.toList.take (i + 1) = x.cps.toList.take i ++ [c] := by rw [List.take_add_one, hc']; rfl
    have ll : (((x.cps.toList.take i).filter p).map e).length ≤ i := by
      rw [List.length_map]
      refine Nat.le_trans (List.length_filter_le _ _) ?_
      rw [List.length_take]
      omega
    refine hs c _ _ (List.mem_of_getElem? hc') (Nat.lt_of_lt_of_le (show (((x.cps.toList.take i).filter p).map e).length < 100001 by omega) (by decide)) (fun pf => ?_) (fun pt => ?_)
    · rw [tk, List.filter_append, List.filter_cons, if_neg (by rw [pf]; decide), List.filter_nil, List.append_nil]
    · rw [tk, List.filter_append, List.filter_cons, if_pos pt, List.filter_nil, List.map_append]
      rfl
  · rintro H rfl
    rw [List.take_of_length_le (by omega)]
    exact hq
/-- the name holds a tuple without a dict -/
def tupK (K : PySem.W.Frag) (x : Str) : Bool := match PySem.W.nsIn K mainGlobals x with
  | some (some (.ref a)) => (match K.lookup a with
    | some o => decide (o.cls = .type "tuple") && o.dict.isNone
    | none => false)
  | _ => false
theorem tupK_of {K : PySem.W.Frag} {h : Heap} {mg : Str → Option Value} {x : Str} (X : K.In h) (G : h.Ns mainGlobals mg) (e : tupK K x = true) (a : Addr) (hm : mg x = some (.ref a)) : ∃ o, K.lookup a = some o ∧ o.cls = .type "tuple" ∧ o.dict = none := by
  unfold tupK at e
  split at e
  · rename_i b hb
    have := PySem.W.mg_of X G hb
    rw [hm] at this
    cases this
    split at e
    · rename_i o ho
      rw [Bool.and_eq_true, decide_eq_true_iff] at e
      exact ⟨o, ho, e.1, by simpa using e.2⟩
    · cases e
  · cases e
/-! ### numbers as texts -/
open SX TL
def digs (x : Str) : Bool := x.cps.toList.all fun c => decide (48 ≤ c) && decide (c ≤ 57)
def valS (x : Str) : Int := (NumText.digitsVal x.cps.toList : Nat)
def numS (n : Int) : Str := Str.ofString (toString n)
theorem val_snoc (b : List Nat) (c : Nat) : NumText.digitsVal (b ++ [c]) = NumText.digitsVal b * 10 + (c - 48) := by
  unfold NumText.digitsVal
  rw [List.foldl_append]
  rfl
theorem numL_len1 {n : Nat} (h : n < 10) : (numL n).length = 1 := by rw [numL_lt h]; rfl
/-- the text of a number's signs is the text itself if it does not begin with a 0 -/
theorem canon : ∀ (k : Nat) (p : List Nat), p.length = k → p ≠ [] → (∀ c ∈ p, 48 ≤ c ∧ c ≤ 57) → (numL (NumText.digitsVal p) = p ↔ ¬ (p.head? = some 48 ∧ p ≠ [48]))
  | k, p, hk, hne, hd => by
    obtain ⟨b, c, rfl⟩ : ∃ b c, p = b ++ [c] := ⟨p.dropLast, p.getLast hne, (List.dropLast_concat_getLast hne).symm⟩
    have hc := hd c (by simp)
    rw [val_snoc]
    by_cases hb : b = []
    · subst hb
      have e0 : NumText.digitsVal [] = 0 := rfl
      rw [e0, Nat.zero_mul, Nat.zero_add, numL_lt (by omega), show 48 + (c - 48) = c by omega]
      simp
    · have lb : b.length < k := by rw [← hk, List.length_append]; simp
      have ih := canon b.length b rfl hb fun c hc => hd c (by simp [hc])
      have h1 : (b ++ [c]).head? = b.head? := by
        cases b with
        | nil => exact absurd rfl hb
        | cons x r => rfl
      have h2 : b ++ [c] ≠ [48] := fun z => by
        have := congrArg List.length z
        rw [List.length_append] at this
        cases b with
        | nil => exact hb rfl
        | cons x r => simp at this
      rw [h1]
      constructor
      · intro e
        have ge : 10 ≤ NumText.digitsVal b * 10 + (c - 48) := by
          refine Nat.le_of_not_lt fun z => ?_
          have := numL_len1 z
          rw [e, List.length_append] at this
          cases b with
          | nil => exact hb rfl
          | cons x r => simp at this
        rw [numL_step ge, show (NumText.digitsVal b * 10 + (c - 48)) / 10 = NumText.digitsVal b by omega] at e
        have e1 := (List.append_inj' e rfl).1
        have i1 := ih.mp e1
        rintro ⟨z, _⟩
        have b48 : b = [48] := Classical.byContradiction fun n => i1 ⟨z, n⟩
        rw [b48] at ge
        have : NumText.digitsVal [48] = 0 := rfl
        rw [this] at ge
        omega
      · intro n
        have n1 : ¬ b.head? = some 48 := fun z => n ⟨z, h2⟩
        have e1 := ih.mpr fun z => n1 z.1
        have ge : 10 ≤ NumText.digitsVal b * 10 + (c - 48) := by
          refine Nat.le_of_not_lt fun z => ?_
          have z0 : NumText.digitsVal b = 0 := by omega
          rw [z0, numL_lt (by omega)] at e1
          rw [← e1] at n1
          exact n1 rfl
        rw [numL_step ge, show (NumText.digitsVal b * 10 + (c - 48)) / 10 = NumText.digitsVal b by omega, e1, show 48 + (NumText.digitsVal b * 10 + (c - 48)) % 10 = c by omega]
  termination_by k => k
end G




namespace Q39
open PySem L2 G
open C8 (Cal Met Mak pe_c pe_mk pe_mt pe_mt0 pe_gc pss_cut tCut)
def top (i : Nat) : Stmt := PySem.Challenge.pw_gatework_k39_words.main.body.getD i (.Pass ⟨0, 0, 0, 0⟩)
abbrev s__law_deck : Stmt := top 39
theorem sc__law_deck : FnScope ["script", "cells", "each", "deck", "seed", "k", "cell", "rest", "at"] ["script", "cells", "each"] (defScope s__law_deck) := ⟨rfl, rfl, rfl, by decide +kernel, rfl, by decide +kernel, by decide +kernel⟩
abbrev s__law_take : Stmt := top 40
theorem sc__law_take : FnScope ["deck", "many"] ["deck", "many"] (defScope s__law_take) := ⟨rfl, rfl, rfl, by decide +kernel, rfl, by decide +kernel, by decide +kernel⟩
abbrev s__law_plain : Stmt := top 41
theorem sc__law_plain : FnScope ["value", "item"] ["value"] (defScope s__law_plain) := ⟨rfl, rfl, rfl, by decide +kernel, rfl, by decide +kernel, by decide +kernel⟩
abbrev s_check_words : Stmt := top 11
theorem sc_check_words : FnScope ["words", "word"] ["words"] (defScope s_check_words) := ⟨rfl, rfl, rfl, by decide +kernel, rfl, by decide +kernel, by decide +kernel⟩
abbrev s_fields_of : Stmt := top 13
theorem sc_fields_of : FnScope ["word"] ["word"] (defScope s_fields_of) := ⟨rfl, rfl, rfl, by decide +kernel, rfl, by decide +kernel, by decide +kernel⟩
abbrev s_is_byte : Stmt := top 23
theorem sc_is_byte : FnScope ["value"] ["value"] (defScope s_is_byte) := ⟨rfl, rfl, rfl, by decide +kernel, rfl, by decide +kernel, by decide +kernel⟩
abbrev s_is_count : Stmt := top 24
theorem sc_is_count : FnScope ["value"] ["value"] (defScope s_is_count) := ⟨rfl, rfl, rfl, by decide +kernel, rfl, by decide +kernel, by decide +kernel⟩
abbrev s_check_data : Stmt := top 25
theorem sc_check_data : FnScope ["data", "value"] ["data"] (defScope s_check_data) := ⟨rfl, rfl, rfl, by decide +kernel, rfl, by decide +kernel, by decide +kernel⟩
abbrev s_check_state : Stmt := top 26
theorem sc_check_state : FnScope ["state", "value"] ["state"] (defScope s_check_state) := ⟨rfl, rfl, rfl, by decide +kernel, rfl, by decide +kernel, by decide +kernel⟩
abbrev s_first_state : Stmt := top 27
theorem sc_first_state : FnScope ["data"] ["data"] (defScope s_first_state) := ⟨rfl, rfl, rfl, by decide +kernel, rfl, by decide +kernel, by decide +kernel⟩
abbrev s_replaced : Stmt := top 28
theorem sc_replaced : FnScope ["row", "at", "value"] ["row", "at", "value"] (defScope s_replaced) := ⟨rfl, rfl, rfl, by decide +kernel, rfl, by decide +kernel, by decide +kernel⟩
abbrev s_result_of : Stmt := top 29
theorem sc_result_of : FnScope ["n", "one", "two", "results"] ["n", "one", "two"] (defScope s_result_of) := ⟨rfl, rfl, rfl, by decide +kernel, rfl, by decide +kernel, by decide +kernel⟩
abbrev s_set_register : Stmt := top 30
theorem sc_set_register : FnScope ["state", "a", "value", "pc", "registers", "data", "taken", "row"] ["state", "a", "value", "pc"] (defScope s_set_register) := ⟨rfl, rfl, rfl, by decide +kernel, rfl, by decide +kernel, by decide +kernel⟩
abbrev s_set_data : Stmt := top 31
theorem sc_set_data : FnScope ["state", "address", "value", "pc", "registers", "data", "taken", "row"] ["state", "address", "value", "pc"] (defScope s_set_data) := ⟨rfl, rfl, rfl, by decide +kernel, rfl, by decide +kernel, by decide +kernel⟩
abbrev s_go_to : Stmt := top 32
theorem sc_go_to : FnScope ["state", "pc", "registers", "data", "taken"] ["state", "pc"] (defScope s_go_to) := ⟨rfl, rfl, rfl, by decide +kernel, rfl, by decide +kernel, by decide +kernel⟩
abbrev s_take_byte : Stmt := top 33
theorem sc_take_byte : FnScope ["state", "a", "bytes_in", "pc", "registers", "data", "taken", "row", "value", "there"] ["state", "a", "bytes_in", "pc"] (defScope s_take_byte) := ⟨rfl, rfl, rfl, by decide +kernel, rfl, by decide +kernel, by decide +kernel⟩
abbrev s_moved : Stmt := top 34
theorem sc_moved : FnScope ["state", "fields", "bytes_in", "op", "a", "b", "n", "registers", "data", "_", "pc", "one", "two"] ["state", "fields", "bytes_in"] (defScope s_moved) := ⟨rfl, rfl, rfl, by decide +kernel, rfl, by decide +kernel, by decide +kernel⟩
abbrev s_end_of : Stmt := top 35
theorem sc_end_of : FnScope ["fields", "op", "_", "n"] ["fields"] (defScope s_end_of) := ⟨rfl, rfl, rfl, by decide +kernel, rfl, by decide +kernel, by decide +kernel⟩
abbrev s_once : Stmt := top 36
theorem sc_once : FnScope ["words", "state", "bytes_in", "at", "fields", "end", "later", "row"] ["words", "state", "bytes_in"] (defScope s_once) := ⟨rfl, rfl, rfl, by decide +kernel, rfl, by decide +kernel, by decide +kernel⟩
abbrev s_after : Stmt := top 37
theorem sc_after : FnScope ["words", "state", "bytes_in"] ["words", "state", "bytes_in"] (defScope s_after) := ⟨rfl, rfl, rfl, by decide +kernel, rfl, by decide +kernel, by decide +kernel⟩
abbrev s__law_machine : Stmt := top 42
theorem sc__law_machine : FnScope ["words", "registers", "data", "taken", "bytes_in", "most", "row", "out", "trace", "turn", "pc", "word", "op", "a", "b", "n", "what", "goal", "end", "one", "two", "value", "address"] ["words", "registers", "data", "taken", "bytes_in", "most"] (defScope s__law_machine) := ⟨rfl, rfl, rfl, by decide +kernel, rfl, by decide +kernel, by decide +kernel⟩
abbrev s__law_state : Stmt := top 43
theorem sc__law_state : FnScope ["deck", "registers", "turn"] ["deck"] (defScope s__law_state) := ⟨rfl, rfl, rfl, by decide +kernel, rfl, by decide +kernel, by decide +kernel⟩
abbrev s__law_drawn_word : Stmt := top 44
theorem sc__law_drawn_word : FnScope ["deck", "op", "n"] ["deck"] (defScope s__law_drawn_word) := ⟨rfl, rfl, rfl, by decide +kernel, rfl, by decide +kernel, by decide +kernel⟩
abbrev s_word_of : Stmt := top 12
theorem sc_word_of : FnScope ["op", "a", "b", "n", "field", "bound"] ["op", "a", "b", "n"] (defScope s_word_of) := ⟨rfl, rfl, rfl, by decide +kernel, rfl, by decide +kernel, by decide +kernel⟩
abbrev s_shape_of : Stmt := top 14
theorem sc_shape_of : FnScope ["op", "n", "name", "other", "fields"] ["op", "n"] (defScope s_shape_of) := ⟨rfl, rfl, rfl, by decide +kernel, rfl, by decide +kernel, by decide +kernel⟩
abbrev s_shown : Stmt := top 15
theorem sc_shown : FnScope ["word", "op", "a", "b", "n", "shape", "name", "fields", "idle", "parts", "field"] ["word"] (defScope s_shown) := ⟨rfl, rfl, rfl, by decide +kernel, rfl, by decide +kernel, by decide +kernel⟩
abbrev s_number_in : Stmt := top 16
theorem sc_number_in : FnScope ["text", "bound", "sign"] ["text", "bound"] (defScope s_number_in) := ⟨rfl, rfl, rfl, by decide +kernel, rfl, by decide +kernel, by decide +kernel⟩
abbrev s_read_word : Stmt := top 17
theorem sc_read_word : FnScope ["line", "words", "number", "op", "fields", "n", "found", "field", "text"] ["line"] (defScope s_read_word) := ⟨rfl, rfl, rfl, by decide +kernel, rfl, by decide +kernel, by decide +kernel⟩
abbrev s__law_line : Stmt := top 45
theorem sc__law_line : FnScope ["word", "op", "a", "b", "n", "doing", "names", "shapes", "shape", "parts", "field"] ["word"] (defScope s__law_line) := ⟨rfl, rfl, rfl, by decide +kernel, rfl, by decide +kernel, by decide +kernel⟩
abbrev s__law_told : Stmt := top 46
theorem sc__law_told : FnScope ["ask", "thing", "error"] ["ask", "thing"] (defScope s__law_told) := ⟨rfl, rfl, rfl, by decide +kernel, rfl, by decide +kernel, by decide +kernel⟩
abbrev s__law_line_word : Stmt := top 47
theorem sc__law_line_word : FnScope ["line", "parts", "names", "doing", "shapes", "op", "fields", "field", "text", "plain", "sign"] ["line"] (defScope s__law_line_word) := ⟨rfl, rfl, rfl, by decide +kernel, rfl, by decide +kernel, by decide +kernel⟩
abbrev s_law : Stmt := top 48
theorem sc_law : FnScope ["script", "deck", "turn", "word", "fields", "line", "parts", "at", "bent", "state", "words", "coming", "out", "end", "there", "trace", "told", "begin", "answers", "due"] ["script"] (defScope s_law) := ⟨rfl, rfl, rfl, by decide +kernel, rfl, by decide +kernel, by decide +kernel⟩
abbrev s_InvalidCode___init__ : Stmt := inClass (top 3) 0
abbrev s_InvalidState___init__ : Stmt := inClass (top 4) 0
abbrev s_InvalidLine___init__ : Stmt := inClass (top 2) 0
theorem boot_abs' : bootBuiltins "abs" = some (.builtin "abs") := by decide +kernel
theorem boot_all' : bootBuiltins "all" = some (.builtin "all") := by decide +kernel
theorem boot_any' : bootBuiltins "any" = some (.builtin "any") := by decide +kernel
theorem boot_bool' : bootBuiltins "bool" = some (.type "bool") := by decide +kernel
theorem boot_int' : bootBuiltins "int" = some (.type "int") := by decide +kernel
theorem boot_isinstance' : bootBuiltins "isinstance" = some (.builtin "isinstance") := by decide +kernel
theorem boot_len' : bootBuiltins "len" = some (.builtin "len") := by decide +kernel
theorem boot_list' : bootBuiltins "list" = some (.type "list") := by decide +kernel
theorem boot_min' : bootBuiltins "min" = some (.builtin "min") := by decide +kernel
theorem boot_range' : bootBuiltins "range" = some (.type "range") := by decide +kernel
theorem boot_str' : bootBuiltins "str" = some (.type "str") := by decide +kernel
theorem boot_tuple' : bootBuiltins "tuple" = some (.type "tuple") := by decide +kernel
theorem boot_zip' : bootBuiltins "zip" = some (.type "zip") := by decide +kernel
/-- what the top has left: the built-in names are the built-in ones -/
structure Txt (K : PySem.W.Frag) (mg : Str → Option Value) : Prop where
  b_abs : mg "abs" = none
  b_all : mg "all" = none
  b_any : mg "any" = none
  b_bool : mg "bool" = none
  b_int : mg "int" = none
  b_isinstance : mg "isinstance" = none
  b_len : mg "len" = none
  b_list : mg "list" = none
  b_min : mg "min" = none
  b_range : mg "range" = none
  b_str : mg "str" = none
  b_tuple : mg "tuple" = none
  b_zip : mg "zip" = none
  c_MOST_WORDS : ∃ v : V, (∃ u, mg "MOST_WORDS" = some u ∧ RelV v u) ∧ ∀ H : Hp, Dp K H v (.int 256)
  c_MOST_WORD : ∃ v : V, (∃ u, mg "MOST_WORD" = some u ∧ RelV v u) ∧ ∀ H : Hp, Dp K H v (.int 65535)
  c_ENDS : ∃ v : V, (∃ u, mg "ENDS" = some u ∧ RelV v u) ∧ ∀ H : Hp, Dp K H v (.tuple [.str "done", .str "zero", .str "index"])
  c_REGISTERS : ∃ v : V, (∃ u, mg "REGISTERS" = some u ∧ RelV v u) ∧ ∀ H : Hp, Dp K H v (.int 4)
  c_DATA : ∃ v : V, (∃ u, mg "DATA" = some u ∧ RelV v u) ∧ ∀ H : Hp, Dp K H v (.int 64)
  c_BYTE : ∃ v : V, (∃ u, mg "BYTE" = some u ∧ RelV v u) ∧ ∀ H : Hp, Dp K H v (.int 256)
  c_RANGES : ∃ v : V, (∃ u, mg "RANGES" = some u ∧ RelV v u) ∧ ∀ H : Hp, Dp K H v (.tuple [.int 16, .int 4, .int 4, .int 256])
  c_DOING : ∃ v : V, (∃ u, mg "DOING" = some u ∧ RelV v u) ∧ ∀ H : Hp, Dp K H v (.tuple [.str "COPY", .str "ADD", .str "SUB", .str "AND", .str "OR", .str "XOR", .str "LESS", .str "SAME", .str "HALF"])
theorem small1000' {n : Nat} (h : n < 100000) : n < sizeLine := Nat.lt_of_lt_of_le h (by decide)
theorem hu65_of {A : Around} {k : Nat} (hr : Room k A) : A.units + 65 < cLine := Nat.lt_of_le_of_lt (by omega) hr.un

section
variable {P : Program} {w : World} {K : PySem.W.Frag} {mg : Str → Option Value} {base : Heap}

/-! ### _law_take: some number below -/
def spTake : Sp := fun vs H Q _ => ∃ (a : Addr) (m : Int), vs = [.ref a, .int m] ∧ 0 < m ∧ Deck H a ∧ ∀ (r : Int) (H' : Hp), 0 ≤ r → r < m → But a H H' → Deck H' a → Q (.int r) H'
theorem ok_take {f : Addr} {fd : FuncData} (F : Fun K "_law_take" "_law_take" s__law_take f fd) (T : Txt K mg) : FnOk P w K mg base CX0 1 f fd ["deck", "many"] spTake := by
  refine F.ok sc__law_take (fun vs H Q E h => ?_) (fun cdv A outer s H vs Q E hr h => ?_)
  · obtain ⟨a, m, rfl, _⟩ := h
    rfl
  · obtain ⟨a, m, rfl, hm, ⟨ds, hl, hd⟩, k⟩ := h
    refine ⟨_, (pss_cons (ps_if (pt_cmpR op_eq (pe_callB call_len_seq (by rfl) T.b_len boot_len' (pa_cons (pv 0) pa_nil)) pe_int (nomark _)) (pss_one (ps_ret pe_int)) pss_nil)
      (pss_one (ps_ret (pe_op op_mod (pe_callTy call_int1 (by rfl) T.b_int boot_int' (pa_cons (pe_bm0 PySem.F.plainAttrs_list PySem.F.slot_list_pop PySem.F.type_list_pop mt_pop (pv 0)) pa_nil)) (pv 1))))), ?_⟩
    refine ⟨_, rfl, a, _, rfl, .inl (SqL.of hd), rfl, _, rfl, ?_⟩
    rw [List.length_map]
    refine ite2 (fun hc => ?_) (fun hc => ?_)
    · exact k 0 H (by decide) hm (But.refl _ _) ⟨ds, hl, hd⟩
    · have hne : ds ≠ [] := fun e => hc (by rw [e]; rfl)
      have hp : 0 < ds.length := List.length_pos_iff.mpr hne
      refine ⟨_, rfl, .inl ⟨rfl, _, SqL.of hd⟩, a, _, .int (ds.getLast hne), rfl, rfl, hd, ?_, .inl ⟨_, rfl, _, rfl, _, _, rfl, rfl, hm, ?_⟩⟩
      · rw [List.length_map, List.getElem?_map, List.getLast_eq_getElem, List.getElem?_eq_getElem (by omega)]
        rfl
      · refine k _ _ (Int.emod_nonneg _ (by omega)) (Int.emod_lt_of_pos _ hm) but_upd ⟨ds.dropLast, by rw [List.length_dropLast]; omega, ?_⟩
        rw [upd_same, List.map_dropLast]

/-! ### _law_deck: some ints -/
def spDeck (K : PySem.W.Frag) : Sp := fun vs H Q _ => ∃ (a : Addr) (ns : List Int) (c e : Nat), vs = [.ref a, .int c, .int e] ∧ SqL K H a (ns.map V.int) ∧ ns.length ≤ 1000 ∧ c * e ≤ 2000 ∧ c ≤ 1000 ∧ e ≤ 1000 ∧ ∀ (p : Addr) (H' : Hp), H p = none → Same H H' → Deck H' p → Q (.ref p) H'
theorem ok_deck {f : Addr} {fd : FuncData} (F : Fun K "_law_deck" "_law_deck" s__law_deck f fd) (T : Txt K mg) : FnOk P w K mg base CX0 1 f fd ["script", "cells", "each"] (spDeck K) := by
  refine F.ok sc__law_deck (fun vs H Q E h => ?_) (fun cdv A outer s H vs Q E hr h => ?_)
  · obtain ⟨a, ns, c, e, rfl, _⟩ := h
    rfl
  · obtain ⟨a, ns, c, e, rfl, hS, hn, hce, hc, he, k⟩ := h
    refine ⟨_, (pss_cons (ps_set (i := 3) sc__law_deck.nd rfl (Or.inl rfl) (pe_lst pa_nil))
      (pss_cons (ps_set (i := 4) sc__law_deck.nd rfl (Or.inl rfl) (pe_op op_add pe_int (pe_callB call_len_seq (by rfl) T.b_len boot_len' (pa_cons (pv 0) pa_nil))))
      (pss_cons (ps_for PassesOwn.never rfl (pi_range1 (by rfl) T.b_range (pa_cons (pv 1) pa_nil)) (pg_name (i := 5) sc__law_deck.nd rfl (Or.inl rfl)) (pss_cons (ps_set (i := 6) sc__law_deck.nd rfl (Or.inl rfl) pe_int)
      (pss_cut (ps_if (pt_cmpR op_lt (pv 5) (pe_callB call_len_seq (by rfl) T.b_len boot_len' (pa_cons (pv 0) pa_nil)) (nomark _)) (pss_one (ps_set (i := 6) sc__law_deck.nd rfl (Or.inl rfl) (pe_ix ix_list (pv 0) (pv 5) (fun _ _ => rfl)))) pss_nil)
      (pss_cons (ps_set (i := 7) sc__law_deck.nd rfl (Or.inl rfl) (pe_callB call_abs (by rfl) T.b_abs boot_abs' (pa_cons (pv 6) pa_nil)))
      (pss_one (ps_if (pt_cmpR op_ge (pv 7) (pe_op op_pow pe_int pe_int) (nomark _)) (pss_one (ps_for PassesOwn.never rfl (pi_range1 (by rfl) T.b_range (pa_cons (pv 2) pa_nil)) (pg_name (i := 8) sc__law_deck.nd rfl (Or.inl rfl)) (pss_cons (ps_expr (pe_bm PySem.F.plainAttrs_list PySem.F.slot_list_append PySem.F.type_list_append mt_append (pv 3) (pa_cons (pe_op op_mod (pe_callTy call_int1 (by rfl) T.b_int boot_int' (pa_cons (pv 7) pa_nil)) pe_int) pa_nil)))
      (pss_one (ps_set (i := 7) sc__law_deck.nd rfl (Or.inl rfl) (pe_op op_fdiv (pv 7) pe_int)))))) (pss_cons (ps_set (i := 4) sc__law_deck.nd rfl (Or.inl rfl) (pe_op op_mod (pe_callTy call_int1 (by rfl) T.b_int boot_int' (pa_cons (pe_op op_add (pe_op op_add (pe_op op_add (pe_op op_mul (pv 4) pe_int) (pe_op op_mul pe_int (pv 7))) (pe_callTy call_int1 (by rfl) T.b_int boot_int' (pa_cons (pe_cmpR op_lt (pv 6) pe_int (nomark _)) pa_nil))) (pv 5)) pa_nil)) pe_int))
      (pss_one (ps_for PassesOwn.never rfl (pi_range1 (by rfl) T.b_range (pa_cons (pv 2) pa_nil)) (pg_name (i := 8) sc__law_deck.nd rfl (Or.inl rfl)) (pss_cons (ps_set (i := 4) sc__law_deck.nd rfl (Or.inl rfl) (pe_op op_mod (pe_callTy call_int1 (by rfl) T.b_int boot_int' (pa_cons (pe_op op_add (pe_op op_add (pe_op op_mul (pv 4) pe_int) (pv 8)) pe_int) pa_nil)) pe_int))
      (pss_one (ps_expr (pe_bm PySem.F.plainAttrs_list PySem.F.slot_list_append PySem.F.type_list_append mt_append (pv 3) (pa_cons (pe_op op_mod (pe_callTy call_int1 (by rfl) T.b_int boot_int' (pa_cons (pe_op op_fdiv (pv 4) pe_int) pa_nil)) pe_int) pa_nil))))))))))))))
      (pss_cons (ps_expr (pe_bm0 PySem.F.plainAttrs_list PySem.F.slot_list_reverse PySem.F.type_list_reverse mt_reverse (pv 3)))
      (pss_one (ps_ret (pv 3))))))), ?_⟩
    refine ⟨Nat.zero_le _, fun p hp => ?_⟩
    have hap : a ≠ p → True := fun _ => trivial
    refine ⟨_, rfl, a, _, rfl, .inl ((same_new hp).seq hS), _, _, rfl, rfl, ?_⟩
    rw [List.length_map]
    refine ⟨_, rfl, _, rfl, by omega, by omega, for_range (lo := 0) (n := (c : Int).toNat) (fun i σ H' => ∃ (ds : List Int) (sd : Int) (o1 o2 o3 o4 : Option V),
      σ = [some (.ref a), some (.int c), some (.int e), some (.ref p), some (.int sd), o1, o2, o3, o4] ∧ Same H H' ∧ H' p = some (.lst (ds.map V.int)) ∧ ds.length ≤ i * e ∧ 0 ≤ sd ∧ sd < 2147483647)
      ⟨[], _, none, none, none, none, rfl, same_new hp, upd_same, Nat.zero_le _, by omega, by omega⟩ ?_ ?_⟩
    · rintro i σ H1 hi ⟨ds, sd, o1, o2, o3, o4, rfl, e1, h1, hl, s0, s1⟩
      have hie : (i + 1) * e ≤ 2000 := Nat.le_trans (Nat.mul_le_mul_right e (by omega)) hce
      have hie2 : (i + 1) * e = i * e + e := Nat.succ_mul i e
      -- cell = 0 ; if k < len(script): cell = script[k]
      refine ⟨fun σ' H' => ∃ cl : Int, σ' = [some (.ref a), some (.int c), some (.int e), some (.ref p), some (.int sd), some (.int (0 + (i : Int))), some (.int cl), o3, o4] ∧ H' = H1, ?_, ?_⟩
      · refine ⟨_, rfl, _, rfl, a, _, rfl, .inl (e1.seq hS), _, _, rfl, rfl, _, rfl, ?_⟩
        rw [List.length_map]
        refine ite2 (fun hk => ?_) (fun hk => ⟨0, rfl, rfl⟩)
        have hk' : i < ns.length := by
          have := of_decide_eq_true hk
          omega
        refine ⟨_, rfl, _, rfl, a, _, _, .int ns[i], rfl, rfl, e1.seq hS, ?_, ⟨_, rfl, rfl⟩⟩
        rw [Int.zero_add]
        refine atI_nat ?_
        rw [List.getElem?_map, List.getElem?_eq_getElem hk']
        rfl
      · rintro σ' H' ⟨cl, rfl, rfl⟩
        -- rest = abs(cell)
        refine ⟨_, rfl, _, rfl, ?_⟩
        -- if rest >= 10 ** 30
        refine ⟨_, rfl, _, _, rfl, rfl, ⟨by decide, by decide, by decide⟩, _, _, rfl, rfl, _, rfl, ?_⟩
        have hrest : 0 ≤ (if cl < 0 then -cl else cl) := by split <;> omega
        generalize (if cl < 0 then -cl else cl) = rest at hrest
        refine ite2 (fun hb => ?_) (fun hb => ?_)
        · refine ⟨_, rfl, _, rfl, by omega, by omega, for_range (lo := 0) (n := (e : Int).toNat) (fun j σ H2 => ∃ (es : List Int) (rs : Int) (o : Option V),
            σ = [some (.ref a), some (.int c), some (.int e), some (.ref p), some (.int sd), some (.int (0 + (i : Int))), some (.int cl), some (.int rs), o] ∧ Same H H2 ∧ H2 p = some (.lst (es.map V.int)) ∧ es.length ≤ i * e + j)
            ⟨ds, rest, o4, rfl, e1, h1, hl⟩ ?_ ?_⟩
          · rintro j σ H2 hj ⟨es, rs, o, rfl, e2, h2, hl2⟩
            refine ⟨_, rfl, .inl ⟨rfl, _, SqL.of h2⟩, _, rfl, .inl ⟨_, rfl, _, _, rfl, rfl, (by decide : (0 : Int) < 1000003), ?_⟩⟩
            refine ⟨_, _, _, rfl, rfl, h2, small1000' (by rw [List.length_map]; omega), ?_⟩
            refine ⟨_, rfl, _, _, rfl, rfl, ⟨by decide, by decide⟩, ?_⟩
            refine ⟨es ++ [_], _, _, rfl, same_mut e2 hp, by rw [upd_same, List.map_append]; rfl, by rw [List.length_append, List.length_singleton]; omega⟩
          · rintro σ H2 ⟨es, rs, o, rfl, e2, h2, hl2⟩
            exact ⟨es, sd, _, _, _, _, rfl, e2, h2, by omega, s0, s1⟩
        · have hb2 : rest < 10 ^ 30 := by
            have := hb
            simp only [decide_eq_true_eq] at this
            have h3 : ((10 : Int) ^ (30 : Int).toNat) = 10 ^ 30 := by decide
            omega
          refine ⟨_, rfl, _, _, rfl, rfl, .inl ⟨by omega, by omega⟩, _, rfl, _, _, rfl, rfl, .inl ⟨by decide, by decide⟩, _, _, rfl, rfl, ?_⟩
          refine ⟨_, rfl, _, _, rfl, rfl, .inr ⟨_, rfl, _, _, rfl, rfl, _, rfl, _, _, rfl, rfl, .inl ⟨_, rfl, _, _, rfl, rfl, (by decide : (0 : Int) < 2147483647), ?_⟩⟩⟩
          refine ⟨_, rfl, _, rfl, by omega, by omega, for_range (lo := 0) (n := (e : Int).toNat) (fun j σ H2 => ∃ (es : List Int) (se : Int) (o : Option V),
            σ = [some (.ref a), some (.int c), some (.int e), some (.ref p), some (.int se), some (.int (0 + (i : Int))), some (.int cl), some (.int rest), o] ∧ Same H H2 ∧ H2 p = some (.lst (es.map V.int)) ∧ es.length ≤ i * e + j ∧ 0 ≤ se ∧ se < 2147483647)
            ⟨ds, _, o4, rfl, e1, h1, hl, Int.emod_nonneg _ (by decide), Int.emod_lt_of_pos _ (by decide)⟩ ?_ ?_⟩
          · rintro j σ H2 hj ⟨es, se, o, rfl, e2, h2, hl2, u0, u1⟩
            refine ⟨_, rfl, _, _, rfl, rfl, .inl ⟨by omega, by omega⟩, _, rfl, _, _, rfl, rfl, _, _, rfl, rfl, .inl ⟨_, rfl, _, _, rfl, rfl, (by decide : (0 : Int) < 2147483629), ?_⟩⟩
            have v1 := Int.emod_lt_of_pos (se * 69621 + (0 + (j : Int)) + 1) (by decide : (0 : Int) < 2147483629)
            refine ⟨_, rfl, .inl ⟨rfl, _, SqL.of h2⟩, _, rfl, _, _, rfl, rfl, ⟨by decide, by decide⟩, .inl ⟨_, rfl, _, _, rfl, rfl, (by decide : (0 : Int) < 1000003), ?_⟩⟩
            refine ⟨_, _, _, rfl, rfl, h2, small1000' (by rw [List.length_map]; omega), ?_⟩
            exact ⟨es ++ [_], _, _, rfl, same_mut e2 hp, by rw [upd_same, List.map_append]; rfl, by rw [List.length_append, List.length_singleton]; omega, Int.emod_nonneg _ (by decide), Int.lt_trans v1 (by decide)⟩
          · rintro σ H2 ⟨es, se, o, rfl, e2, h2, hl2, u0, u1⟩
            exact ⟨es, se, _, _, _, _, rfl, e2, h2, by omega, u0, u1⟩
    · rintro σ H1 ⟨ds, sd, o1, o2, o3, o4, rfl, e1, h1, hl, s0, s1⟩
      refine ⟨_, rfl, .inl ⟨rfl, _, SqL.of h1⟩, p, _, rfl, rfl, h1, ?_⟩
      refine ⟨_, rfl, k p _ hp (same_mut e1 hp) ⟨ds.reverse, by rw [List.length_reverse]; have : (c : Int).toNat * e = c * e := rfl; omega, by rw [upd_same, List.map_reverse]⟩⟩

/-! ### _law_plain -/
mutual
def plain : PyData → PyData
  | .tuple ds => .list (.bool false :: plains ds)
  | .list ds => .list (.bool true :: plains ds)
  | .none => .str "None"
  | .bool b => .str (if b then "True" else "False")
  | .int i => .list [.bool false, .int i]
  | .str z => .list [.bool true, .str z]
  | .dict _ => .str "another"
def plains : List PyData → List PyData
  | [] => []
  | d :: r => plain d :: plains r
end
theorem plains_map : ∀ ds : List PyData, plains ds = ds.map plain
  | [] => rfl
  | d :: r => by rw [plains, plains_map r, List.map_cons]
mutual
/-- how deep, with no dict in it and no list too long -/
def tall : PyData → Nat → Prop
  | .tuple ds, n + 1 => ds.length ≤ 10000 ∧ talls ds n
  | .list ds, n + 1 => ds.length ≤ 10000 ∧ talls ds n
  | .tuple _, 0 => False
  | .list _, 0 => False
  | .dict _, _ => False
  | _, _ => True
def talls : List PyData → Nat → Prop
  | [], _ => True
  | d :: r, n => tall d n ∧ talls r n
end
theorem talls_get : ∀ {ds : List PyData} {n i : Nat} {d : PyData}, talls ds n → ds[i]? = some d → tall d n
  | [], _, i, d, _, e => by simp at e
  | _ :: _, _, 0, d, h, e => by
    simp at e
    subst e
    exact h.1
  | _ :: r, n, i + 1, d, h, e => talls_get (ds := r) h.2 (by simpa using e)
theorem talls_mem {ds : List PyData} {n : Nat} {d : PyData} (h : talls ds n) (hm : d ∈ ds) : tall d n := by
  obtain ⟨i, hi⟩ := List.mem_iff_getElem?.mp hm
  exact talls_get h hi
def spPlain (K : PySem.W.Frag) : Nat → Sp
  | 0 => fun _ _ _ _ => False
  | n + 1 => fun vs H Q _ => ∃ (v : V) (d : PyData), vs = [v] ∧ Dp K H v d ∧ tall d n ∧ ∀ (u : V) (H' : Hp), Same H H' → Dp K H' u (plain d) → Q u H'
theorem spPlain_mono {K : PySem.W.Frag} {n : Nat} {vs : List V} {H : Hp} {E : XK} (Q1 Q2 : VK) (q : ∀ v G', Q1 v G' → Q2 v G') (h : spPlain K n vs H Q1 E) : spPlain K n vs H Q2 E := by
  cases n with
  | zero => exact h
  | succ n =>
    obtain ⟨v, d, e, h1, h2, k⟩ := h
    exact ⟨v, d, e, h1, h2, fun u H' s p => q u H' (k u H' s p)⟩
theorem plain_step {K : PySem.W.Frag} {n : Nat} {G : Hp} {D : Addr} {acc : List V} {v : V} {d : PyData} {Q : VK} {E : XK} (hD : G D = none) (hd : Dp K G v d) (ht : tall d n)
    (h : ∀ (u : V) (G' : Hp), Same G G' → G' D = none → Dp K G' u (plain d) → Q u (upd G' D (.lst acc))) : fr (spPlain K (n + 1)) [v] (upd G D (.lst acc)) Q E :=
  fr_one hD ⟨v, d, rfl, hd, ht, fun u G' s p hn => h u G' s hn p⟩ fun Q1 Q2 q z => spPlain_mono Q1 Q2 q z
theorem ok_plain {f : Addr} {fd : FuncData} (F : Fun K "_law_plain" "_law_plain" s__law_plain f fd) (T : Txt K mg) (hm : mg "_law_plain" = some (.ref f)) (b : Binds K fd ["value"] []) : ∀ n : Nat, FnOk P w K mg base CX0 n f fd ["value"] (spPlain K n) := by
  intro n
  induction n with
  | zero => exact ⟨fun _ _ _ _ h => h.elim, fun _ _ _ _ _ _ _ _ _ _ _ _ _ h => h.elim⟩
  | succ n ih =>
    have c__law_plain : Cal P w K mg base n "_law_plain" (fr (spPlain K n)) [] := ⟨f, fd, _, _, fn_fr ih, hm, F.kp, b, .nil⟩
    refine F.ok sc__law_plain (fun vs H Q E h => ?_) (fun cdv A outer s H vs Q E hr h => ?_)
    · obtain ⟨v, d, rfl, _⟩ := h
      rfl
    · obtain ⟨v, d, rfl, hd, ht, k⟩ := h
      cases d with
      | tuple ds =>
        cases n with
        | zero => exact ht.elim
        | succ n =>
          obtain ⟨hl, ht⟩ := ht
          obtain ⟨a, xs, rfl, hx, hxs⟩ := dp_tup hd
          refine ⟨_, (pss_cons (ps_if (pt_val (pe_callB call_isiT (by rfl) T.b_isinstance boot_isinstance' (pa_cons (pv 0) (pa_cons (pe_tup (pa_cons (pe_bltn (v := .ty "tuple") (by rfl) T.b_tuple boot_tuple' rfl) (pa_cons (pe_bltn (v := .ty "list") (by rfl) T.b_list boot_list' rfl) pa_nil))) pa_nil)))) (pss_one (ps_ret (pe_op op_cat (pe_lst (pa_cons (pe_callB call_isi (by rfl) T.b_isinstance boot_isinstance' (pa_cons (pv 0) (pa_cons (pe_bltn (v := .ty "list") (by rfl) T.b_list boot_list' rfl) pa_nil))) pa_nil)) (pe_lc (own := [("item", 1)]) rfl sc__law_plain.nd (pi_tup (pv 0)) (blkOk_by (own := [("item", 1)]) (N := ["value", "item"]) (sc := defScope s__law_plain) (by decide +kernel)) (fun _ _ _ _ _ => (pg_name (i := 1) sc__law_plain.nd rfl (Or.inl rfl))) (fun _ _ _ _ _ => pts_nil) (fun _ _ _ _ _ => (pe_c c__law_plain hr (by omega) rfl (pa_cons (pv 1) pa_nil))))))) pss_nil)
      (pss_cons (ps_if (PW.pt (pw_or (pt_cmpR op_isN (pv 0) pe_non (nomark _)) (pw_or1 (pt_val (pe_callB call_isi (by rfl) T.b_isinstance boot_isinstance' (pa_cons (pv 0) (pa_cons (pe_bltn (v := .ty "bool") (by rfl) T.b_bool boot_bool' rfl) pa_nil))))))) (pss_one (ps_ret (pe_ix ix_list (pe_lst (pa_cons pe_str (pa_cons pe_str (pa_cons pe_str pa_nil)))) (pe_op op_add (pe_callTy call_int1 (by rfl) T.b_int boot_int' (pa_cons (pe_cmpR op_notN (pv 0) pe_non (nomark _)) pa_nil)) (pe_callTy call_int1 (by rfl) T.b_int boot_int' (pa_cons (pe_cmpR op_isX (pv 0) pe_bl (nomark _)) pa_nil))) (fun _ _ => rfl)))) pss_nil)
      (pss_cons (ps_if (pt_val (pe_callB call_isiT (by rfl) T.b_isinstance boot_isinstance' (pa_cons (pv 0) (pa_cons (pe_tup (pa_cons (pe_bltn (v := .ty "int") (by rfl) T.b_int boot_int' rfl) (pa_cons (pe_bltn (v := .ty "str") (by rfl) T.b_str boot_str' rfl) pa_nil))) pa_nil)))) (pss_one (ps_ret (pe_lst (pa_cons (pe_callB call_isi (by rfl) T.b_isinstance boot_isinstance' (pa_cons (pv 0) (pa_cons (pe_bltn (v := .ty "str") (by rfl) T.b_str boot_str' rfl) pa_nil))) (pa_cons (pv 0) pa_nil))))) pss_nil)
      (pss_one (ps_ret pe_str))))), ?_⟩
          refine ⟨_, rfl, by decide, fun p1 n1 => ?_⟩
          refine ⟨_, _, _, _, _, _, rfl, upd_same, clsv2 _ _, dp_ty (dp_same (same_new n1) hd), kitD2 K _ _ _ (by decide) (by decide), _, rfl, iteT ?_⟩
          refine ⟨_, rfl, _, _, _, _, _, rfl, .ty _, dp_ty (dp_same (same_new n1) hd), kitD K _ _ (by decide), (show 1 ≤ sizeLine by decide), fun p2 n2 => ?_⟩
          have s2 := (same_new (o := HO.tup [V.ty "tuple", V.ty "list"]) n1).trans (same_new (o := HO.lst [V.bl (isD "list" (.tuple ds))]) n2)
          refine ⟨_, rfl, a, rfl, ⟨_, Same.tup s2 hx⟩, fun D hD => lc_dataT (K := K) (a := a) (xs := xs) (ds := ds) (fun _ => true) plain (Same.tup s2 hx) (dps_same s2 hxs) hD (by omega) ?_ ?_⟩
          · intro v d G acc R dm hv sG hG ha _ hk
            refine ⟨rfl, _, rfl, ?_⟩
            refine plain_step hG hv (talls_mem ht dm) fun u G' s' hG' du => ⟨acc, upd_same, ha, ?_⟩
            rw [upd_app]
            exact hk rfl G' u s' hG' du
          · intro G ys sG hG hys
            have hF : ds.filter (fun _ => true) = ds := List.filter_eq_self.mpr fun _ _ => rfl
            rw [hF] at hys
            have hp2 : G p2 = some (.lst [V.bl (isD "list" (.tuple ds))]) := sG _ _ upd_same
            refine ⟨p2, D, _, _, rfl, rfl, by rw [upd_ne (ne_of_none hp2 hG)]; exact hp2, upd_same, ?_, fun p n3 => ?_⟩
            · show 1 + ys.length ≤ sizeLine
              have q := dps_len hys
              rw [List.length_map] at q
              exact Nat.le_of_lt (small1000' (by omega))
            · have s4 : Same G (upd (upd G D (.lst ys)) p (.lst ([V.bl (isD "list" (.tuple ds))] ++ ys))) := (same_new hG).trans (same_new n3)
              refine k _ _ (s2.trans (sG.trans s4)) (.lst (SqL.of upd_same) (.cons ?_ ?_))
              · exact .bl _
              · rw [plains_map]
                exact dps_same s4 hys
      | list ds =>
        cases n with
        | zero => exact ht.elim
        | succ n =>
          obtain ⟨hl, ht⟩ := ht
          obtain ⟨a, xs, rfl, hx, hxs⟩ := dp_lst hd
          refine ⟨_, (pss_cons (ps_if (pt_val (pe_callB call_isiT (by rfl) T.b_isinstance boot_isinstance' (pa_cons (pv 0) (pa_cons (pe_tup (pa_cons (pe_bltn (v := .ty "tuple") (by rfl) T.b_tuple boot_tuple' rfl) (pa_cons (pe_bltn (v := .ty "list") (by rfl) T.b_list boot_list' rfl) pa_nil))) pa_nil)))) (pss_one (ps_ret (pe_op op_cat (pe_lst (pa_cons (pe_callB call_isi (by rfl) T.b_isinstance boot_isinstance' (pa_cons (pv 0) (pa_cons (pe_bltn (v := .ty "list") (by rfl) T.b_list boot_list' rfl) pa_nil))) pa_nil)) (pe_lc (own := [("item", 1)]) rfl sc__law_plain.nd (pi_list (pv 0)) (blkOk_by (own := [("item", 1)]) (N := ["value", "item"]) (sc := defScope s__law_plain) (by decide +kernel)) (fun _ _ _ _ _ => (pg_name (i := 1) sc__law_plain.nd rfl (Or.inl rfl))) (fun _ _ _ _ _ => pts_nil) (fun _ _ _ _ _ => (pe_c c__law_plain hr (by omega) rfl (pa_cons (pv 1) pa_nil))))))) pss_nil)
      (pss_cons (ps_if (PW.pt (pw_or (pt_cmpR op_isN (pv 0) pe_non (nomark _)) (pw_or1 (pt_val (pe_callB call_isi (by rfl) T.b_isinstance boot_isinstance' (pa_cons (pv 0) (pa_cons (pe_bltn (v := .ty "bool") (by rfl) T.b_bool boot_bool' rfl) pa_nil))))))) (pss_one (ps_ret (pe_ix ix_list (pe_lst (pa_cons pe_str (pa_cons pe_str (pa_cons pe_str pa_nil)))) (pe_op op_add (pe_callTy call_int1 (by rfl) T.b_int boot_int' (pa_cons (pe_cmpR op_notN (pv 0) pe_non (nomark _)) pa_nil)) (pe_callTy call_int1 (by rfl) T.b_int boot_int' (pa_cons (pe_cmpR op_isX (pv 0) pe_bl (nomark _)) pa_nil))) (fun _ _ => rfl)))) pss_nil)
      (pss_cons (ps_if (pt_val (pe_callB call_isiT (by rfl) T.b_isinstance boot_isinstance' (pa_cons (pv 0) (pa_cons (pe_tup (pa_cons (pe_bltn (v := .ty "int") (by rfl) T.b_int boot_int' rfl) (pa_cons (pe_bltn (v := .ty "str") (by rfl) T.b_str boot_str' rfl) pa_nil))) pa_nil)))) (pss_one (ps_ret (pe_lst (pa_cons (pe_callB call_isi (by rfl) T.b_isinstance boot_isinstance' (pa_cons (pv 0) (pa_cons (pe_bltn (v := .ty "str") (by rfl) T.b_str boot_str' rfl) pa_nil))) (pa_cons (pv 0) pa_nil))))) pss_nil)
      (pss_one (ps_ret pe_str))))), ?_⟩
          refine ⟨_, rfl, by decide, fun p1 n1 => ?_⟩
          refine ⟨_, _, _, _, _, _, rfl, upd_same, clsv2 _ _, dp_ty (dp_same (same_new n1) hd), kitD2 K _ _ _ (by decide) (by decide), _, rfl, iteT ?_⟩
          refine ⟨_, rfl, _, _, _, _, _, rfl, .ty _, dp_ty (dp_same (same_new n1) hd), kitD K _ _ (by decide), (show 1 ≤ sizeLine by decide), fun p2 n2 => ?_⟩
          have s2 := (same_new (o := HO.tup [V.ty "tuple", V.ty "list"]) n1).trans (same_new (o := HO.lst [V.bl (isD "list" (.list ds))]) n2)
          refine ⟨_, rfl, a, rfl, ⟨_, s2.seq hx⟩, fun D hD => lc_data (K := K) (a := a) (xs := xs) (ds := ds) (fun _ => true) plain (s2.seq hx) (dps_same s2 hxs) hD (by omega) ?_ ?_⟩
          · intro v d G acc R dm hv sG hG ha _ hk
            refine ⟨rfl, _, rfl, ?_⟩
            refine plain_step hG hv (talls_mem ht dm) fun u G' s' hG' du => ⟨acc, upd_same, ha, ?_⟩
            rw [upd_app]
            exact hk rfl G' u s' hG' du
          · intro G ys sG hG hys
            have hF : ds.filter (fun _ => true) = ds := List.filter_eq_self.mpr fun _ _ => rfl
            rw [hF] at hys
            have hp2 : G p2 = some (.lst [V.bl (isD "list" (.list ds))]) := sG _ _ upd_same
            refine ⟨p2, D, _, _, rfl, rfl, by rw [upd_ne (ne_of_none hp2 hG)]; exact hp2, upd_same, ?_, fun p n3 => ?_⟩
            · show 1 + ys.length ≤ sizeLine
              have q := dps_len hys
              rw [List.length_map] at q
              exact Nat.le_of_lt (small1000' (by omega))
            · have s4 : Same G (upd (upd G D (.lst ys)) p (.lst ([V.bl (isD "list" (.list ds))] ++ ys))) := (same_new hG).trans (same_new n3)
              refine k _ _ (s2.trans (sG.trans s4)) (.lst (SqL.of upd_same) (.cons ?_ ?_))
              · exact .bl _
              · rw [plains_map]
                exact dps_same s4 hys
      | dict _ => cases hd
      | none =>
        cases dp_non hd
        refine ⟨_, (pss_cons (ps_if (pt_val (pe_callB call_isiT (by rfl) T.b_isinstance boot_isinstance' (pa_cons (pv 0) (pa_cons (pe_tup (pa_cons (pe_bltn (v := .ty "tuple") (by rfl) T.b_tuple boot_tuple' rfl) (pa_cons (pe_bltn (v := .ty "list") (by rfl) T.b_list boot_list' rfl) pa_nil))) pa_nil)))) (pss_one (ps_ret (pe_op op_cat (pe_lst (pa_cons (pe_callB call_isi (by rfl) T.b_isinstance boot_isinstance' (pa_cons (pv 0) (pa_cons (pe_bltn (v := .ty "list") (by rfl) T.b_list boot_list' rfl) pa_nil))) pa_nil)) (pe_lc (own := [("item", 1)]) rfl sc__law_plain.nd (pi_list (pv 0)) (blkOk_by (own := [("item", 1)]) (N := ["value", "item"]) (sc := defScope s__law_plain) (by decide +kernel)) (fun _ _ _ _ _ => (pg_name (i := 1) sc__law_plain.nd rfl (Or.inl rfl))) (fun _ _ _ _ _ => pts_nil) (fun _ _ _ _ _ => (pe_c c__law_plain hr (by omega) rfl (pa_cons (pv 1) pa_nil))))))) pss_nil)
      (pss_cons (ps_if (PW.pt (pw_or (pt_cmpR op_isN (pv 0) pe_non (nomark _)) (pw_or1 (pt_val (pe_callB call_isi (by rfl) T.b_isinstance boot_isinstance' (pa_cons (pv 0) (pa_cons (pe_bltn (v := .ty "bool") (by rfl) T.b_bool boot_bool' rfl) pa_nil))))))) (pss_one (ps_ret (pe_ix ix_list (pe_lst (pa_cons pe_str (pa_cons pe_str (pa_cons pe_str pa_nil)))) (pe_op op_add (pe_callTy call_int1 (by rfl) T.b_int boot_int' (pa_cons (pe_cmpR op_notN (pv 0) pe_non (nomark _)) pa_nil)) (pe_callTy call_int1 (by rfl) T.b_int boot_int' (pa_cons (pe_cmpR op_isX (pv 0) pe_bl (nomark _)) pa_nil))) (fun _ _ => rfl)))) pss_nil)
      (pss_cons (ps_if (pt_val (pe_callB call_isiT (by rfl) T.b_isinstance boot_isinstance' (pa_cons (pv 0) (pa_cons (pe_tup (pa_cons (pe_bltn (v := .ty "int") (by rfl) T.b_int boot_int' rfl) (pa_cons (pe_bltn (v := .ty "str") (by rfl) T.b_str boot_str' rfl) pa_nil))) pa_nil)))) (pss_one (ps_ret (pe_lst (pa_cons (pe_callB call_isi (by rfl) T.b_isinstance boot_isinstance' (pa_cons (pv 0) (pa_cons (pe_bltn (v := .ty "str") (by rfl) T.b_str boot_str' rfl) pa_nil))) (pa_cons (pv 0) pa_nil))))) pss_nil)
      (pss_one (ps_ret pe_str))))), ?_⟩
        refine ⟨_, rfl, by decide, fun p1 n1 => ?_⟩
        refine ⟨_, _, _, _, _, _, rfl, upd_same, clsv2 _ _, dp_ty (dp_same (same_new n1) hd), kitD2 K _ _ _ (by decide) (by decide), _, rfl, iteF ?_⟩
        refine ⟨_, rfl, rfl, _, rfl, iteT (iteT ?_)⟩
        refine ⟨(show 3 ≤ sizeLine by decide), fun p2 n2 => ?_⟩
        refine ⟨_, rfl, rfl, .inr ⟨_, rfl, _, rfl, _, rfl, .inl rfl, .inr ⟨_, rfl, _, _, rfl, rfl, p2, _, 0, .str "None", rfl, rfl, SqL.of upd_same, rfl, ?_⟩⟩⟩
        exact k _ _ ((same_new n1).trans (same_new n2)) (.str _)
      | bool z =>
        cases dp_bl hd
        refine ⟨_, (pss_cons (ps_if (pt_val (pe_callB call_isiT (by rfl) T.b_isinstance boot_isinstance' (pa_cons (pv 0) (pa_cons (pe_tup (pa_cons (pe_bltn (v := .ty "tuple") (by rfl) T.b_tuple boot_tuple' rfl) (pa_cons (pe_bltn (v := .ty "list") (by rfl) T.b_list boot_list' rfl) pa_nil))) pa_nil)))) (pss_one (ps_ret (pe_op op_cat (pe_lst (pa_cons (pe_callB call_isi (by rfl) T.b_isinstance boot_isinstance' (pa_cons (pv 0) (pa_cons (pe_bltn (v := .ty "list") (by rfl) T.b_list boot_list' rfl) pa_nil))) pa_nil)) (pe_lc (own := [("item", 1)]) rfl sc__law_plain.nd (pi_list (pv 0)) (blkOk_by (own := [("item", 1)]) (N := ["value", "item"]) (sc := defScope s__law_plain) (by decide +kernel)) (fun _ _ _ _ _ => (pg_name (i := 1) sc__law_plain.nd rfl (Or.inl rfl))) (fun _ _ _ _ _ => pts_nil) (fun _ _ _ _ _ => (pe_c c__law_plain hr (by omega) rfl (pa_cons (pv 1) pa_nil))))))) pss_nil)
      (pss_cons (ps_if (PW.pt (pw_or (pt_cmpR op_isN (pv 0) pe_non (nomark _)) (pw_or1 (pt_val (pe_callB call_isi (by rfl) T.b_isinstance boot_isinstance' (pa_cons (pv 0) (pa_cons (pe_bltn (v := .ty "bool") (by rfl) T.b_bool boot_bool' rfl) pa_nil))))))) (pss_one (ps_ret (pe_ix ix_list (pe_lst (pa_cons pe_str (pa_cons pe_str (pa_cons pe_str pa_nil)))) (pe_op op_add (pe_callTy call_int1 (by rfl) T.b_int boot_int' (pa_cons (pe_cmpR op_notN (pv 0) pe_non (nomark _)) pa_nil)) (pe_callTy call_int1 (by rfl) T.b_int boot_int' (pa_cons (pe_cmpR op_isX (pv 0) pe_bl (nomark _)) pa_nil))) (fun _ _ => rfl)))) pss_nil)
      (pss_cons (ps_if (pt_val (pe_callB call_isiT (by rfl) T.b_isinstance boot_isinstance' (pa_cons (pv 0) (pa_cons (pe_tup (pa_cons (pe_bltn (v := .ty "int") (by rfl) T.b_int boot_int' rfl) (pa_cons (pe_bltn (v := .ty "str") (by rfl) T.b_str boot_str' rfl) pa_nil))) pa_nil)))) (pss_one (ps_ret (pe_lst (pa_cons (pe_callB call_isi (by rfl) T.b_isinstance boot_isinstance' (pa_cons (pv 0) (pa_cons (pe_bltn (v := .ty "str") (by rfl) T.b_str boot_str' rfl) pa_nil))) (pa_cons (pv 0) pa_nil))))) pss_nil)
      (pss_one (ps_ret pe_str))))), ?_⟩
        refine ⟨_, rfl, by decide, fun p1 n1 => ?_⟩
        refine ⟨_, _, _, _, _, _, rfl, upd_same, clsv2 _ _, dp_ty (dp_same (same_new n1) hd), kitD2 K _ _ _ (by decide) (by decide), _, rfl, iteF ?_⟩
        refine ⟨_, rfl, rfl, _, rfl, iteF ⟨_, rfl, _, _, _, _, _, rfl, .ty _, dp_ty (dp_same (same_new n1) hd), kitD K _ _ (by decide), _, rfl, iteT ?_⟩⟩
        refine ⟨(show 3 ≤ sizeLine by decide), fun p2 n2 => ?_⟩
        cases z with
        | true =>
          refine ⟨_, rfl, rfl, .inr ⟨_, rfl, _, rfl, _, rfl, .inr (.inl ⟨_, rfl⟩), .inr ⟨_, rfl, _, _, rfl, rfl, p2, _, 2, .str "True", rfl, rfl, SqL.of upd_same, rfl, ?_⟩⟩⟩
          exact k _ _ ((same_new n1).trans (same_new n2)) (.str _)
        | false =>
          refine ⟨_, rfl, rfl, .inr ⟨_, rfl, _, rfl, _, rfl, .inr (.inl ⟨_, rfl⟩), .inr ⟨_, rfl, _, _, rfl, rfl, p2, _, 1, .str "False", rfl, rfl, SqL.of upd_same, rfl, ?_⟩⟩⟩
          exact k _ _ ((same_new n1).trans (same_new n2)) (.str _)
      | int i =>
        cases dp_int hd
        refine ⟨_, (pss_cons (ps_if (pt_val (pe_callB call_isiT (by rfl) T.b_isinstance boot_isinstance' (pa_cons (pv 0) (pa_cons (pe_tup (pa_cons (pe_bltn (v := .ty "tuple") (by rfl) T.b_tuple boot_tuple' rfl) (pa_cons (pe_bltn (v := .ty "list") (by rfl) T.b_list boot_list' rfl) pa_nil))) pa_nil)))) (pss_one (ps_ret (pe_op op_cat (pe_lst (pa_cons (pe_callB call_isi (by rfl) T.b_isinstance boot_isinstance' (pa_cons (pv 0) (pa_cons (pe_bltn (v := .ty "list") (by rfl) T.b_list boot_list' rfl) pa_nil))) pa_nil)) (pe_lc (own := [("item", 1)]) rfl sc__law_plain.nd (pi_list (pv 0)) (blkOk_by (own := [("item", 1)]) (N := ["value", "item"]) (sc := defScope s__law_plain) (by decide +kernel)) (fun _ _ _ _ _ => (pg_name (i := 1) sc__law_plain.nd rfl (Or.inl rfl))) (fun _ _ _ _ _ => pts_nil) (fun _ _ _ _ _ => (pe_c c__law_plain hr (by omega) rfl (pa_cons (pv 1) pa_nil))))))) pss_nil)
      (pss_cons (ps_if (PW.pt (pw_or (pt_cmpR op_isN (pv 0) pe_non (nomark _)) (pw_or1 (pt_val (pe_callB call_isi (by rfl) T.b_isinstance boot_isinstance' (pa_cons (pv 0) (pa_cons (pe_bltn (v := .ty "bool") (by rfl) T.b_bool boot_bool' rfl) pa_nil))))))) (pss_one (ps_ret (pe_ix ix_list (pe_lst (pa_cons pe_str (pa_cons pe_str (pa_cons pe_str pa_nil)))) (pe_op op_add (pe_callTy call_int1 (by rfl) T.b_int boot_int' (pa_cons (pe_cmpR op_notN (pv 0) pe_non (nomark _)) pa_nil)) (pe_callTy call_int1 (by rfl) T.b_int boot_int' (pa_cons (pe_cmpR op_isX (pv 0) pe_bl (nomark _)) pa_nil))) (fun _ _ => rfl)))) pss_nil)
      (pss_cons (ps_if (pt_val (pe_callB call_isiT (by rfl) T.b_isinstance boot_isinstance' (pa_cons (pv 0) (pa_cons (pe_tup (pa_cons (pe_bltn (v := .ty "int") (by rfl) T.b_int boot_int' rfl) (pa_cons (pe_bltn (v := .ty "str") (by rfl) T.b_str boot_str' rfl) pa_nil))) pa_nil)))) (pss_one (ps_ret (pe_lst (pa_cons (pe_callB call_isi (by rfl) T.b_isinstance boot_isinstance' (pa_cons (pv 0) (pa_cons (pe_bltn (v := .ty "str") (by rfl) T.b_str boot_str' rfl) pa_nil))) (pa_cons (pv 0) pa_nil))))) pss_nil)
      (pss_one (ps_ret pe_str))))), ?_⟩
        refine ⟨_, rfl, by decide, fun p1 n1 => ?_⟩
        refine ⟨_, _, _, _, _, _, rfl, upd_same, clsv2 _ _, dp_ty (dp_same (same_new n1) hd), kitD2 K _ _ _ (by decide) (by decide), _, rfl, iteF ?_⟩
        refine ⟨_, rfl, rfl, _, rfl, iteF ⟨_, rfl, _, _, _, _, _, rfl, .ty _, dp_ty (dp_same (same_new n1) hd), kitD K _ _ (by decide), _, rfl, iteF ?_⟩⟩
        refine ⟨_, rfl, by decide, fun p2 n2 => ?_⟩
        have s2 := (same_new (o := HO.tup [V.ty "tuple", V.ty "list"]) n1).trans (same_new (o := HO.tup [V.ty "int", V.ty "str"]) n2)
        refine ⟨_, _, _, _, _, _, rfl, upd_same, clsv2 _ _, dp_ty (dp_same s2 hd), kitD2 K _ _ _ (by decide) (by decide), _, rfl, iteT ?_⟩
        refine ⟨_, rfl, _, _, _, _, _, rfl, .ty _, dp_ty (dp_same s2 hd), kitD K _ _ (by decide), _, rfl, (show 2 ≤ sizeLine by decide), fun p3 n3 => ?_⟩
        exact k _ _ (s2.trans (same_new n3)) (.lst (SqL.of upd_same) (.cons (.bl _) (.cons (.int _) .nil)))
      | str z =>
        cases dp_str hd
        refine ⟨_, (pss_cons (ps_if (pt_val (pe_callB call_isiT (by rfl) T.b_isinstance boot_isinstance' (pa_cons (pv 0) (pa_cons (pe_tup (pa_cons (pe_bltn (v := .ty "tuple") (by rfl) T.b_tuple boot_tuple' rfl) (pa_cons (pe_bltn (v := .ty "list") (by rfl) T.b_list boot_list' rfl) pa_nil))) pa_nil)))) (pss_one (ps_ret (pe_op op_cat (pe_lst (pa_cons (pe_callB call_isi (by rfl) T.b_isinstance boot_isinstance' (pa_cons (pv 0) (pa_cons (pe_bltn (v := .ty "list") (by rfl) T.b_list boot_list' rfl) pa_nil))) pa_nil)) (pe_lc (own := [("item", 1)]) rfl sc__law_plain.nd (pi_list (pv 0)) (blkOk_by (own := [("item", 1)]) (N := ["value", "item"]) (sc := defScope s__law_plain) (by decide +kernel)) (fun _ _ _ _ _ => (pg_name (i := 1) sc__law_plain.nd rfl (Or.inl rfl))) (fun _ _ _ _ _ => pts_nil) (fun _ _ _ _ _ => (pe_c c__law_plain hr (by omega) rfl (pa_cons (pv 1) pa_nil))))))) pss_nil)
      (pss_cons (ps_if (PW.pt (pw_or (pt_cmpR op_isN (pv 0) pe_non (nomark _)) (pw_or1 (pt_val (pe_callB call_isi (by rfl) T.b_isinstance boot_isinstance' (pa_cons (pv 0) (pa_cons (pe_bltn (v := .ty "bool") (by rfl) T.b_bool boot_bool' rfl) pa_nil))))))) (pss_one (ps_ret (pe_ix ix_list (pe_lst (pa_cons pe_str (pa_cons pe_str (pa_cons pe_str pa_nil)))) (pe_op op_add (pe_callTy call_int1 (by rfl) T.b_int boot_int' (pa_cons (pe_cmpR op_notN (pv 0) pe_non (nomark _)) pa_nil)) (pe_callTy call_int1 (by rfl) T.b_int boot_int' (pa_cons (pe_cmpR op_isX (pv 0) pe_bl (nomark _)) pa_nil))) (fun _ _ => rfl)))) pss_nil)
      (pss_cons (ps_if (pt_val (pe_callB call_isiT (by rfl) T.b_isinstance boot_isinstance' (pa_cons (pv 0) (pa_cons (pe_tup (pa_cons (pe_bltn (v := .ty "int") (by rfl) T.b_int boot_int' rfl) (pa_cons (pe_bltn (v := .ty "str") (by rfl) T.b_str boot_str' rfl) pa_nil))) pa_nil)))) (pss_one (ps_ret (pe_lst (pa_cons (pe_callB call_isi (by rfl) T.b_isinstance boot_isinstance' (pa_cons (pv 0) (pa_cons (pe_bltn (v := .ty "str") (by rfl) T.b_str boot_str' rfl) pa_nil))) (pa_cons (pv 0) pa_nil))))) pss_nil)
      (pss_one (ps_ret pe_str))))), ?_⟩
        refine ⟨_, rfl, by decide, fun p1 n1 => ?_⟩
        refine ⟨_, _, _, _, _, _, rfl, upd_same, clsv2 _ _, dp_ty (dp_same (same_new n1) hd), kitD2 K _ _ _ (by decide) (by decide), _, rfl, iteF ?_⟩
        refine ⟨_, rfl, rfl, _, rfl, iteF ⟨_, rfl, _, _, _, _, _, rfl, .ty _, dp_ty (dp_same (same_new n1) hd), kitD K _ _ (by decide), _, rfl, iteF ?_⟩⟩
        refine ⟨_, rfl, by decide, fun p2 n2 => ?_⟩
        have s2 := (same_new (o := HO.tup [V.ty "tuple", V.ty "list"]) n1).trans (same_new (o := HO.tup [V.ty "int", V.ty "str"]) n2)
        refine ⟨_, _, _, _, _, _, rfl, upd_same, clsv2 _ _, dp_ty (dp_same s2 hd), kitD2 K _ _ _ (by decide) (by decide), _, rfl, iteT ?_⟩
        refine ⟨_, rfl, _, _, _, _, _, rfl, .ty _, dp_ty (dp_same s2 hd), kitD K _ _ (by decide), _, rfl, (show 2 ≤ sizeLine by decide), fun p3 n3 => ?_⟩
        exact k _ _ (s2.trans (same_new n3)) (.lst (SqL.of upd_same) (.cons (.bl _) (.cons (.str _) .nil)))

end
end Q39

/-! # plain mathematics of the machine: no program here -/
namespace M40
open PySem
def g (xs : List Int) (i : Int) : Int := xs.getD i.toNat 0
def put (xs : List Int) (i v : Int) : List Int := xs.set i.toNat v
structure Mc where
  r : List Int
  d : List Int
  t : Int
inductive What where
  | non
  | reg (a o : Int)
  | byt (a o : Int)
  | inp (a o t : Int)
def Byte (x : Int) : Prop := 0 ≤ x ∧ x < 256
def Bytes (xs : List Int) : Prop := ∀ x ∈ xs, Byte x
structure Good (s : Mc) : Prop where
  lr : s.r.length = 5
  ld : s.d.length = 64
  br : Bytes s.r
  bd : Bytes s.d
  t0 : 0 ≤ s.t
theorem byte_mod (x : Int) : Byte (x % 256) := ⟨Int.emod_nonneg _ (by decide), Int.emod_lt_of_pos _ (by decide)⟩
theorem Bytes.g {xs : List Int} (h : Bytes xs) (i : Int) : Byte (g xs i) := by
  unfold M40.g
  rw [List.getD_eq_getElem?_getD]
  cases e : xs[i.toNat]? with
  | none => exact ⟨by decide, by decide⟩
  | some x => exact h x (List.mem_of_getElem? e)
theorem Bytes.put {xs : List Int} (h : Bytes xs) (i : Int) {v : Int} (hv : Byte v) : Bytes (put xs i v) := fun x hx => by
  rcases List.mem_or_eq_of_mem_set hx with hx | rfl
  · exact h x hx
  · exact hv
theorem put_len (xs : List Int) (i v : Int) : (put xs i v).length = xs.length := List.length_set ..
def fop (w : Int) : Int := w / 4096
def fa (w : Int) : Int := w / 1024 % 4
def fb (w : Int) : Int := w / 256 % 4
def fn (w : Int) : Int := w % 256
def results (one two : Int) : List Int := [two, one + two, one - two, Builtin.bitAnd one two, Builtin.bitOr one two, Builtin.bitXor one two, if one < two then 1 else 0, if one = two then 1 else 0, two / 2]
def res (n one two : Int) : Int := g (results one two) n % 256
def setR (s : Mc) (a v pc : Int) : Mc × What := (⟨put (put s.r 4 pc) a v, s.d, s.t⟩, .reg a (g s.r a))
def setD (s : Mc) (a v pc : Int) : Mc × What := (⟨put s.r 4 pc, put s.d a v, s.t⟩, .byt a (g s.d a))
def goTo (s : Mc) (pc : Int) : Mc × What := (⟨put s.r 4 pc, s.d, s.t⟩, .non)
def takeB (s : Mc) (a : Int) (bi : List Int) (pc : Int) : Mc × What :=
  (⟨put (put s.r 4 pc) a (if s.t < bi.length then g bi s.t else 0), s.d, s.t + (if s.t < bi.length then 1 else 0)⟩, .inp a (g s.r a) s.t)
def mv (s : Mc) (op a b n : Int) (bi : List Int) : Mc × What :=
  let pc := (g s.r 4 + 1) % 256
  let one := g s.r a
  let two := g s.r b
  if op = 1 then setR s a n pc else if op = 2 then setR s a (res n one two) pc else if op = 3 then setR s a (g s.d ((two + n) % 64)) pc
  else if op = 4 then setD s ((two + n) % 64) one pc else if op = 5 then setR s a (g s.d (n % 64)) pc else if op = 6 then setD s (n % 64) one pc
  else if op = 7 then goTo s n else if op = 8 then goTo s (if one = 0 then n else pc) else if op = 9 then setR s a pc n else if op = 10 then goTo s one
  else if op = 12 then takeB s a bi pc else goTo s pc
def ends : List Str := ["done", "zero", "index"]
def endOf (op n : Int) : Option Str := if op = 0 then some (if n < 3 then ends.getD n.toNat "" else "wrong") else if 12 < op ∨ (op = 2 ∧ 8 < n) then some "wrong" else none
def wordAt (ws : List Int) (s : Mc) : Int := if g s.r 4 < ws.length then g ws (g s.r 4) else 0
abbrev Row := Int × What
/-- one instruction: the state behind it, what it puts out, the row -/
def nxt (ws : List Int) (s : Mc) (bi : List Int) : Mc × Option Int × Row :=
  let w := wordAt ws s
  let m := mv s (fop w) (fa w) (fb w) (fn w) bi
  (m.1, if fop w = 11 then some (g s.r (fa w)) else none, (g s.r 4, m.2))
def endAt (ws : List Int) (s : Mc) : Option Str := endOf (fop (wordAt ws s)) (fn (wordAt ws s))
structure Res where
  out : List Int
  fin : Str
  st : Mc
  tr : List Row
def run (ws bi : List Int) : Nat → Mc → Res
  | 0, s => ⟨[], "cut", s, []⟩
  | k + 1, s => match endAt ws s with
    | some e => ⟨[], e, s, [(g s.r 4, .non)]⟩
    | none =>
      let z := nxt ws s bi
      let q := run ws bi k z.1
      ⟨z.2.1.toList ++ q.out, q.fin, q.st, z.2.2 :: q.tr⟩
def undo (s : Mc) (w : Row) : Mc :=
  match w.2 with
  | .non => ⟨put s.r 4 w.1, s.d, s.t⟩
  | .reg a o => ⟨put (put s.r a o) 4 w.1, s.d, s.t⟩
  | .byt a o => ⟨put s.r 4 w.1, put s.d a o, s.t⟩
  | .inp a o t => ⟨put (put s.r a o) 4 w.1, s.d, t⟩
def back (s : Mc) (tr : List Row) : Mc := tr.foldr (fun w s => undo s w) s
/-- words that fit -/
def Wds (ws : List Int) : Prop := ∀ w ∈ ws, 0 ≤ w ∧ w ≤ 65535
theorem word_ok {ws : List Int} (h : Wds ws) (s : Mc) : 0 ≤ wordAt ws s ∧ wordAt ws s ≤ 65535 := by
  unfold wordAt
  split
  · unfold g
    rw [List.getD_eq_getElem?_getD]
    cases e : ws[(s.r.getD (4 : Int).toNat 0).toNat]? with
    | none => exact ⟨by decide, by decide⟩
    | some x => exact h x (List.mem_of_getElem? e)
  · exact ⟨by decide, by decide⟩
structure Flds (w : Int) : Prop where
  op : 0 ≤ fop w ∧ fop w < 16
  a : 0 ≤ fa w ∧ fa w < 4
  b : 0 ≤ fb w ∧ fb w < 4
  n : 0 ≤ fn w ∧ fn w < 256
theorem flds {w : Int} (h : 0 ≤ w ∧ w ≤ 65535) : Flds w := by
  constructor
  · unfold fop; omega
  · unfold fa; omega
  · unfold fb; omega
  · unfold fn; omega
theorem put_put {xs : List Int} {a v o b p q : Int} (ha : 0 ≤ a ∧ a < xs.length) (hb : 0 ≤ b ∧ b < xs.length) (ho : o = g xs a) (hq : q = g xs b) (ne : a ≠ b) : put (put (put (put xs b p) a v) a o) b q = xs := by
  unfold put g at *
  refine List.ext_getElem? fun i => ?_
  have la : a.toNat < xs.length := by omega
  have lb : b.toNat < xs.length := by omega
  simp only [List.getElem?_set, List.length_set]
  by_cases h1 : b.toNat = i
  · subst h1
    rw [if_pos rfl, if_pos lb, hq, List.getD_eq_getElem?_getD, List.getElem?_eq_getElem lb]
    rfl
  · rw [if_neg h1]
    by_cases h2 : a.toNat = i
    · subst h2
      rw [if_pos rfl, if_pos la, ho, List.getD_eq_getElem?_getD, List.getElem?_eq_getElem la]
      rfl
    · rw [if_neg h2, if_neg h2, if_neg h1]
theorem put_back {xs : List Int} {b p q : Int} (hb : 0 ≤ b ∧ b < xs.length) (hq : q = g xs b) : put (put xs b p) b q = xs := by
  unfold put g at *
  refine List.ext_getElem? fun i => ?_
  have lb : b.toNat < xs.length := by omega
  simp only [List.getElem?_set, List.length_set]
  by_cases h1 : b.toNat = i
  · subst h1
    rw [if_pos rfl, if_pos lb, hq, List.getD_eq_getElem?_getD, List.getElem?_eq_getElem lb]
    rfl
  · rw [if_neg h1, if_neg h1]
section
variable {s : Mc} {ws bi : List Int}
theorem mc_eta (s : Mc) : (⟨s.r, s.d, s.t⟩ : Mc) = s := rfl
theorem undo_setR (h : Good s) {a v pc : Int} (ha : 0 ≤ a ∧ a < 4) : undo (setR s a v pc).1 (g s.r 4, (setR s a v pc).2) = s := by
  have l := h.lr
  unfold setR undo
  dsimp only
  rw [put_put (by omega) (by omega) rfl rfl (by omega)]
theorem undo_setD (h : Good s) {a v pc : Int} (ha : 0 ≤ a ∧ a < 64) : undo (setD s a v pc).1 (g s.r 4, (setD s a v pc).2) = s := by
  have l := h.lr
  have l2 := h.ld
  unfold setD undo
  dsimp only
  rw [put_back (by omega) rfl, put_back (by omega) rfl]
theorem undo_goTo (h : Good s) {pc : Int} : undo (goTo s pc).1 (g s.r 4, (goTo s pc).2) = s := by
  have l := h.lr
  unfold goTo undo
  dsimp only
  rw [put_back (by omega) rfl]
theorem undo_takeB (h : Good s) {a pc : Int} (ha : 0 ≤ a ∧ a < 4) : undo (takeB s a bi pc).1 (g s.r 4, (takeB s a bi pc).2) = s := by
  have l := h.lr
  unfold takeB undo
  dsimp only
  rw [put_put (by omega) (by omega) rfl rfl (by omega)]
theorem mod64 (x : Int) : 0 ≤ x % 64 ∧ x % 64 < 64 := ⟨Int.emod_nonneg _ (by decide), Int.emod_lt_of_pos _ (by decide)⟩
theorem mv_all {P : Mc × What → Prop} {s : Mc} {op a b n : Int} {bi : List Int} (h0 : P (setR s a n ((g s.r 4 + 1) % 256))) (h1 : P (setR s a (res n (g s.r a) (g s.r b)) ((g s.r 4 + 1) % 256))) (h2 : P (setR s a (g s.d ((g s.r b + n) % 64)) ((g s.r 4 + 1) % 256))) (h3 : P (setD s ((g s.r b + n) % 64) (g s.r a) ((g s.r 4 + 1) % 256))) (h4 : P (setR s a (g s.d (n % 64)) ((g s.r 4 + 1) % 256))) (h5 : P (setD s (n % 64) (g s.r a) ((g s.r 4 + 1) % 256))) (h6 : P (goTo s n)) (h7 : P (goTo s (if g s.r a = 0 then n else ((g s.r 4 + 1) % 256)))) (h8 : P (setR s a ((g s.r 4 + 1) % 256) n)) (h9 : P (goTo s (g s.r a))) (h10 : P (takeB s a bi ((g s.r 4 + 1) % 256))) (hx : P (goTo s ((g s.r 4 + 1) % 256))) : P (mv s op a b n bi) := by
  unfold mv
  dsimp only
  by_cases c0 : op = 1
  · rw [if_pos c0]
    exact h0
  · rw [if_neg c0]
    by_cases c1 : op = 2
    · rw [if_pos c1]
      exact h1
    · rw [if_neg c1]
      by_cases c2 : op = 3
      · rw [if_pos c2]
        exact h2
      · rw [if_neg c2]
        by_cases c3 : op = 4
        · rw [if_pos c3]
          exact h3
        · rw [if_neg c3]
          by_cases c4 : op = 5
          · rw [if_pos c4]
            exact h4
          · rw [if_neg c4]
            by_cases c5 : op = 6
            · rw [if_pos c5]
              exact h5
            · rw [if_neg c5]
              by_cases c6 : op = 7
              · rw [if_pos c6]
                exact h6
              · rw [if_neg c6]
                by_cases c7 : op = 8
                · rw [if_pos c7]
                  exact h7
                · rw [if_neg c7]
                  by_cases c8 : op = 9
                  · rw [if_pos c8]
                    exact h8
                  · rw [if_neg c8]
                    by_cases c9 : op = 10
                    · rw [if_pos c9]
                      exact h9
                    · rw [if_neg c9]
                      by_cases c10 : op = 12
                      · rw [if_pos c10]
                        exact h10
                      · rw [if_neg c10]
                        exact hx
theorem undo_nxt (h : Good s) (hw : Wds ws) : undo (nxt ws s bi).1 (nxt ws s bi).2.2 = s := by
  have F := flds (word_ok hw s)
  unfold nxt
  dsimp only
  generalize wordAt ws s = w at F
  exact mv_all (P := fun m => undo m.1 (g s.r 4, m.2) = s) (undo_setR h F.a) (undo_setR h F.a) (undo_setR h F.a) (undo_setD h (mod64 _)) (undo_setR h F.a) (undo_setD h (mod64 _)) (undo_goTo h) (undo_goTo h) (undo_setR h F.a) (undo_goTo h) (undo_takeB h F.a) (undo_goTo h)
theorem good_setR (h : Good s) {a v pc : Int} (hv : Byte v) (hp : Byte pc) : Good (setR s a v pc).1 := ⟨by unfold setR; simp only [put_len]; exact h.lr, h.ld, (h.br.put _ hp).put _ hv, h.bd, h.t0⟩
theorem good_setD (h : Good s) {a v pc : Int} (hv : Byte v) (hp : Byte pc) : Good (setD s a v pc).1 := ⟨by unfold setD; simp only [put_len]; exact h.lr, by unfold setD; simp only [put_len]; exact h.ld, h.br.put _ hp, h.bd.put _ hv, h.t0⟩
theorem good_goTo (h : Good s) {pc : Int} (hp : Byte pc) : Good (goTo s pc).1 := ⟨by unfold goTo; simp only [put_len]; exact h.lr, h.ld, h.br.put _ hp, h.bd, h.t0⟩
theorem good_takeB (h : Good s) {a pc : Int} (hb : Bytes bi) (hp : Byte pc) : Good (takeB s a bi pc).1 := by
  have t0 := h.t0
  refine ⟨by unfold takeB; simp only [put_len]; exact h.lr, h.ld, (h.br.put _ hp).put _ ?_, h.bd, ?_⟩
  · split
    · exact hb.g _
    · exact ⟨by decide, by decide⟩
  · show 0 ≤ s.t + (if s.t < bi.length then 1 else 0)
    split <;> omega
theorem good_nxt (h : Good s) (hw : Wds ws) (hb : Bytes bi) : Good (nxt ws s bi).1 := by
  have F := flds (word_ok hw s)
  have hp := byte_mod (g s.r 4 + 1)
  unfold nxt
  dsimp only
  generalize wordAt ws s = w at F
  have fnB : Byte (fn w) := F.n
  have h1 := h.br.g (fa w)
  exact mv_all (P := fun m => Good m.1) (good_setR h fnB hp) (good_setR h (byte_mod _) hp) (good_setR h (h.bd.g _) hp) (good_setD h h1 hp) (good_setR h (h.bd.g _) hp) (good_setD h h1 hp) (good_goTo h fnB)
    (good_goTo h (by split <;> assumption)) (good_setR h hp fnB) (good_goTo h h1) (good_takeB h hb hp) (good_goTo h hp)
theorem run_good (hw : Wds ws) (hb : Bytes bi) : ∀ (k : Nat) {s : Mc}, Good s → Good (run ws bi k s).st
  | 0, _, h => h
  | k + 1, s, h => by
    unfold run
    split
    · exact h
    · exact run_good hw hb k (good_nxt h hw hb)
theorem run_back (hw : Wds ws) (hb : Bytes bi) : ∀ (k : Nat) {s : Mc}, Good s → back (run ws bi k s).st (run ws bi k s).tr = s
  | 0, _, _ => rfl
  | k + 1, s, h => by
    have u := undo_nxt (bi := bi) h hw
    have q := run_back hw hb k (good_nxt h hw hb)
    unfold run
    split
    · have l := h.lr
      show undo s (g s.r 4, .non) = s
      unfold undo
      dsimp only
      have e : put s.r 4 (g s.r 4) = s.r := by
        unfold put g
        refine List.ext_getElem? fun i => ?_
        rw [List.getElem?_set]
        split
        · rename_i e
          subst e
          rw [if_pos (show (4 : Int).toNat < s.r.length by omega), List.getD_eq_getElem?_getD, List.getElem?_eq_getElem (show (4 : Int).toNat < s.r.length by omega)]
          rfl
        · rfl
      rw [e]
    · show undo (back _ _) _ = s
      rw [q]
      exact u
/-- a run cut and gone on with -/
theorem run_cut : ∀ (c k : Nat) (s : Mc), (run ws bi c s).fin = "cut" → run ws bi (c + k) s = ⟨(run ws bi c s).out ++ (run ws bi k (run ws bi c s).st).out, (run ws bi k (run ws bi c s).st).fin, (run ws bi k (run ws bi c s).st).st, (run ws bi c s).tr ++ (run ws bi k (run ws bi c s).st).tr⟩
  | 0, k, s, _ => by
    rw [Nat.zero_add]
    rfl
  | c + 1, k, s, h => by
    rw [show c + 1 + k = c + k + 1 by omega]
    cases e : endAt ws s with
    | some z =>
      exfalso
      unfold run at h
      rw [e] at h
      have h : z = "cut" := h
      unfold endAt endOf at e
      split at e
      · cases e
        split at h
        · unfold ends at h
          rename_i a b
          have hn : fn (wordAt ws s) = 0 ∨ fn (wordAt ws s) = 1 ∨ fn (wordAt ws s) = 2 := by
            have : 0 ≤ fn (wordAt ws s) := Int.emod_nonneg _ (by decide)
            omega
          rcases hn with q | q | q <;> rw [q] at h <;> exact absurd h (by decide +kernel)
        · exact absurd h (by decide +kernel)
      · split at e
        · cases e
          exact absurd h (by decide +kernel)
        · cases e
    | none =>
      have h1 : run ws bi (c + 1) s = ⟨(nxt ws s bi).2.1.toList ++ (run ws bi c (nxt ws s bi).1).out, (run ws bi c (nxt ws s bi).1).fin, (run ws bi c (nxt ws s bi).1).st, (nxt ws s bi).2.2 :: (run ws bi c (nxt ws s bi).1).tr⟩ := by
        conv => lhs; unfold run
        rw [e]
      have h2 : run ws bi (c + k + 1) s = ⟨(nxt ws s bi).2.1.toList ++ (run ws bi (c + k) (nxt ws s bi).1).out, (run ws bi (c + k) (nxt ws s bi).1).fin, (run ws bi (c + k) (nxt ws s bi).1).st, (nxt ws s bi).2.2 :: (run ws bi (c + k) (nxt ws s bi).1).tr⟩ := by
        conv => lhs; unfold run
        rw [e]
      rw [h1] at h
      have ih := run_cut c k (nxt ws s bi).1 h
      rw [h2, h1, ih]
      simp
/-- behind its end a run ends at once -/
theorem run_ended : ∀ (k : Nat) (s : Mc), (run ws bi k s).fin ≠ "cut" → ∀ j, run ws bi (j + 1) (run ws bi k s).st = ⟨[], (run ws bi k s).fin, (run ws bi k s).st, [(g (run ws bi k s).st.r 4, .non)]⟩
  | 0, s, h, _ => absurd rfl h
  | k + 1, s, h, j => by
    cases e : endAt ws s with
    | some z =>
      have h1 : run ws bi (k + 1) s = ⟨[], z, s, [(g s.r 4, .non)]⟩ := by
        conv => lhs; unfold run
        rw [e]
      rw [h1]
      show run ws bi (j + 1) s = _
      conv => lhs; unfold run
      rw [e]
    | none =>
      have h1 : run ws bi (k + 1) s = ⟨(nxt ws s bi).2.1.toList ++ (run ws bi k (nxt ws s bi).1).out, (run ws bi k (nxt ws s bi).1).fin, (run ws bi k (nxt ws s bi).1).st, (nxt ws s bi).2.2 :: (run ws bi k (nxt ws s bi).1).tr⟩ := by
        conv => lhs; unfold run
        rw [e]
      rw [h1] at h ⊢
      exact run_ended k _ h j
end
end M40




set_option pp.maxSteps 1500
namespace Q39
open PySem L2 G M40
open C8 (Cal Met Mak pe_c pe_mk pe_mt pe_mt0 pe_gc pss_cut tCut)
def intsD (l : List Int) : List PyData := l.map PyData.int
theorem ints_len (l : List Int) : (intsD l).length = l.length := by simp [intsD]
def byteD : PyData → Bool
  | .int i => decide (0 ≤ i) && decide (i < 256)
  | _ => false
def countD : PyData → Bool
  | .int i => decide (0 ≤ i)
  | _ => false
/-- data of one place -/
def flatD : PyData → Bool
  | .none => true
  | .bool _ => true
  | .int _ => true
  | _ => false
def badW : PyData → PyData
  | .int i => .bool (!(decide (0 ≤ i) && decide (i ≤ 65535)))
  | d => d
theorem dps_bl_of {K : PySem.W.Frag} {H : Hp} : ∀ {bs : List Bool} {vs : List V}, DpAll K H vs (bs.map PyData.bool) → vs = bs.map V.bl
  | [], _, .nil => rfl
  | b :: r, _, .cons h t => by
    cases dp_bl h
    rw [dps_bl_of t]
    rfl
section
variable {P : Program} {w : World} {K : PySem.W.Frag} {mg : Str → Option Value} {base : Heap}
/-! ### is_byte, is_count -/
def spByte (K : PySem.W.Frag) : Sp := fun vs H Q _ => ∃ (v : V) (d : PyData), vs = [v] ∧ Dp K H v d ∧ flatD d = true ∧ Q (.bl (byteD d)) H
theorem ok_byte {f : Addr} {fd : FuncData} (F : Fun K "is_byte" "is_byte" s_is_byte f fd) (T : Txt K mg) : FnOk P w K mg base CX0 1 f fd ["value"] (spByte K) := by
  refine F.ok sc_is_byte (fun vs H Q E h => ?_) (fun cdv A outer s H vs Q E hr h => ?_)
  · obtain ⟨v, d, rfl, _⟩ := h
    rfl
  · obtain ⟨v, d, rfl, hd, hf, k⟩ := h
    obtain ⟨vB, g_BYTE, dB⟩ := T.c_BYTE
    refine ⟨_, (pss_one (ps_ret (pe_and (pe_callB call_isi (by rfl) T.b_isinstance boot_isinstance' (pa_cons (pv 0) (pa_cons (pe_bltn (v := .ty "int") (by rfl) T.b_int boot_int' rfl) pa_nil))) (pe_and (pe_not (pe_callB call_isi (by rfl) T.b_isinstance boot_isinstance' (pa_cons (pv 0) (pa_cons (pe_bltn (v := .ty "bool") (by rfl) T.b_bool boot_bool' rfl) pa_nil)))) (pe_one (pe_chain op_le op_lt pe_int (pv 0) (pe_gc (by rfl) g_BYTE))))))), ?_⟩
    refine ⟨_, rfl, _, _, _, _, _, rfl, .ty _, dp_ty hd, kitD K _ _ (by decide), ?_⟩
    cases dp_int (dB H)
    cases d with
    | none => exact ⟨_, rfl, ifF rfl k⟩
    | bool b =>
      cases dp_bl hd
      refine ⟨_, rfl, ifT rfl ⟨_, rfl, _, _, _, _, _, rfl, .ty _, dp_ty hd, kitD K _ _ (by decide), ?_⟩⟩
      exact ⟨_, rfl, _, rfl, ifF rfl k⟩
    | int i =>
      cases dp_int hd
      refine ⟨_, rfl, ifT rfl ⟨_, rfl, _, _, _, _, _, rfl, .ty _, dp_ty hd, kitD K _ _ (by decide), ?_⟩⟩
      refine ⟨_, rfl, _, rfl, ifT rfl ⟨_, rfl, _, _, rfl, rfl, _, rfl, ?_⟩⟩
      by_cases h : 0 ≤ i
      · refine ifT (decide_eq_true h) ⟨_, _, rfl, rfl, ?_⟩
        have e : byteD (.int i) = decide (i < 256) := by show (decide (0 ≤ i) && decide (i < 256)) = _; rw [decide_eq_true h, Bool.true_and]
        rw [e] at k
        exact k
      · refine ifF (decide_eq_false h) ?_
        have e : byteD (.int i) = false := by show (decide (0 ≤ i) && decide (i < 256)) = _; rw [decide_eq_false h, Bool.false_and]
        rw [e] at k
        exact k
    | str _ => cases hf
    | list _ => cases hf
    | tuple _ => cases hf
    | dict _ => cases hf
def spCount (K : PySem.W.Frag) : Sp := fun vs H Q _ => ∃ (v : V) (d : PyData), vs = [v] ∧ Dp K H v d ∧ flatD d = true ∧ Q (.bl (countD d)) H
theorem ok_count {f : Addr} {fd : FuncData} (F : Fun K "is_count" "is_count" s_is_count f fd) (T : Txt K mg) : FnOk P w K mg base CX0 1 f fd ["value"] (spCount K) := by
  refine F.ok sc_is_count (fun vs H Q E h => ?_) (fun cdv A outer s H vs Q E hr h => ?_)
  · obtain ⟨v, d, rfl, _⟩ := h
    rfl
  · obtain ⟨v, d, rfl, hd, hf, k⟩ := h
    refine ⟨_, (pss_one (ps_ret (pe_and (pe_callB call_isi (by rfl) T.b_isinstance boot_isinstance' (pa_cons (pv 0) (pa_cons (pe_bltn (v := .ty "int") (by rfl) T.b_int boot_int' rfl) pa_nil))) (pe_and (pe_not (pe_callB call_isi (by rfl) T.b_isinstance boot_isinstance' (pa_cons (pv 0) (pa_cons (pe_bltn (v := .ty "bool") (by rfl) T.b_bool boot_bool' rfl) pa_nil)))) (pe_one (pe_cmpR op_ge (pv 0) pe_int (nomark _))))))), ?_⟩
    refine ⟨_, rfl, _, _, _, _, _, rfl, .ty _, dp_ty hd, kitD K _ _ (by decide), ?_⟩
    cases d with
    | none => exact ⟨_, rfl, ifF rfl k⟩
    | bool b =>
      cases dp_bl hd
      refine ⟨_, rfl, ifT rfl ⟨_, rfl, _, _, _, _, _, rfl, .ty _, dp_ty hd, kitD K _ _ (by decide), ?_⟩⟩
      exact ⟨_, rfl, _, rfl, ifF rfl k⟩
    | int i =>
      cases dp_int hd
      refine ⟨_, rfl, ifT rfl ⟨_, rfl, _, _, _, _, _, rfl, .ty _, dp_ty hd, kitD K _ _ (by decide), ?_⟩⟩
      exact ⟨_, rfl, _, rfl, ifT rfl ⟨_, rfl, _, _, rfl, rfl, k⟩⟩
    | str _ => cases hf
    | list _ => cases hf
    | tuple _ => cases hf
    | dict _ => cases hf
/-! ### check_words, fields_of -/
/-- a list or a tuple of ints -/
def Nums (K : PySem.W.Frag) (H : Hp) (v : V) (ns : List Int) : Prop := ∃ a : Addr, v = .ref a ∧ (SqL K H a (ns.map V.int) ∨ SqT K H a (ns.map V.int))
theorem Nums.same {K : PySem.W.Frag} {H H' : Hp} {v : V} {ns : List Int} (s : Same H H') : Nums K H v ns → Nums K H' v ns := fun ⟨a, e, h⟩ => ⟨a, e, h.imp (fun z => s.seq z) (fun z => Same.tup s z)⟩
def wordB (x : Int) : Bool := decide (0 ≤ x) && decide (x ≤ 65535)
def wordsB (ws : List Int) : Bool := decide (ws.length ≤ 256) && ws.all wordB
theorem any_not {α : Type} (p : α → Bool) : ∀ l : List α, ((l.map fun x => !p x).any id) = !l.all p
  | [] => rfl
  | x :: r => by
    rw [List.map_cons, List.any_cons, any_not p r, List.all_cons, Bool.not_and]
    rfl
theorem badW_map (ws : List Int) : (intsD ws).map badW = (ws.map fun x => !wordB x).map PyData.bool := by
  unfold intsD
  rw [List.map_map, List.map_map]
  rfl
def byteB (x : Int) : Bool := decide (0 ≤ x) && decide (x < 256)
theorem byteD_map (ns : List Int) : (intsD ns).map (fun d => PyData.bool (byteD d)) = (ns.map byteB).map PyData.bool := by
  unfold intsD
  rw [List.map_map, List.map_map]
  rfl
def spWords (K : PySem.W.Frag) (C : Addr) : Sp := fun vs H Q E => ∃ (v : V) (ws : List Int), vs = [v] ∧ Nums K H v ws ∧ ws.length ≤ 1000 ∧ (wordsB ws = true → ∀ H', Same H H' → Q .non H') ∧ (wordsB ws = false → RaiseF C "words" H E)
theorem ok_words {C : Addr} {f : Addr} {fd : FuncData} (F : Fun K "check_words" "check_words" s_check_words f fd) (T : Txt K mg) (c_InvalidCode : Erm P w K mg base 1 "InvalidCode" C "what") : FnOk P w K mg base (L2.CX P w) 3 f fd ["words"] (spWords K C) := by
  refine F.okX sc_check_words (fun vs H Q E h => ?_) (fun cdv A outer s H vs Q E hr h => ?_)
  · obtain ⟨v, ws, rfl, _⟩ := h
    rfl
  · obtain ⟨v, ws, rfl, hv, hl, ky, kn⟩ := h
    obtain ⟨v1, g_MOST_WORDS, d1⟩ := T.c_MOST_WORDS
    obtain ⟨v2, g_MOST_WORD, d2⟩ := T.c_MOST_WORD
    obtain ⟨a, rfl, ha⟩ := hv
    rcases ha with ha | ha
    · refine ⟨_, (pss_one (ps_if (PW.pt (pw_or (pt_cmpR op_gt (pe_callB call_len_seq (by rfl) T.b_len boot_len' (pa_cons (pv 0) pa_nil)) (pe_gc (by rfl) g_MOST_WORDS) (nomark _)) (pw_or1 (pt_val (pe_callB (cr_any rfl) (by rfl) T.b_any boot_any' (pa_cons (pe_lc (own := [("word", 1)]) rfl sc_check_words.nd (pi_list (pv 0)) (blkOk_by (own := [("word", 1)]) (N := ["words", "word"]) (sc := defScope s_check_words) (by decide +kernel)) (fun _ _ _ _ _ => (pg_name (i := 1) sc_check_words.nd rfl (Or.inl rfl))) (fun _ _ _ _ _ => pts_nil) (fun _ _ _ _ _ => (pe_not (pe_chain op_le op_le pe_int (pv 1) (pe_gc (by rfl) g_MOST_WORD))))) pa_nil)))))) (pss_one (ps_raise rfl (takes_of rfl rfl rfl rfl) (pmk_e c_InvalidCode hr (by omega) rfl (pa_cons pe_str pa_nil)))) pss_nil)), ?_⟩
      cases dp_int (d1 H)
      cases dp_int (d2 H)
      refine ⟨_, rfl, a, _, rfl, .inl ha, _, _, rfl, rfl, _, rfl, ?_⟩
      rw [List.length_map]
      by_cases hn : ws.length ≤ 256
      · refine ifF (decide_eq_false (by omega)) ?_
        refine ⟨_, rfl, a, rfl, ⟨_, ha⟩, fun D hD => ?_⟩
        refine lc_data (K := K) (a := a) (xs := ws.map V.int) (ds := intsD ws) (fun _ => true) badW ha (dps_ints _) hD (by rw [ints_len]; omega) ?_ ?_
        · intro v d G acc R dm hv sG hG ha2 _ hyes
          obtain ⟨i, hi, rfl⟩ := List.mem_map.mp dm
          cases dp_int hv
          have fin : ∀ b : Bool, b = !wordB i → ∃ acc', upd G D (.lst acc) D = some (.lst acc') ∧ acc'.length < sizeLine ∧ R (upd (upd G D (.lst acc)) D (.lst (acc' ++ [V.bl b]))) := fun b e => ⟨acc, upd_same, ha2, by
            rw [upd_app]
            exact hyes rfl G _ (Same.refl _) hG (by rw [e]; exact .bl _)⟩
          refine ⟨rfl, _, rfl, _, _, rfl, rfl, _, rfl, ?_⟩
          by_cases h0 : 0 ≤ i
          · refine ifT (decide_eq_true h0) ⟨_, _, rfl, rfl, _, rfl, fin _ ?_⟩
            unfold wordB
            rw [decide_eq_true h0, Bool.true_and]
          · refine ifF (decide_eq_false h0) ⟨_, rfl, fin _ ?_⟩
            unfold wordB
            rw [decide_eq_false h0, Bool.false_and]
        intro G ys sG hG hys
        rw [List.filter_eq_self.mpr fun _ _ => rfl, badW_map] at hys
        cases dps_bl_of hys
        have sD : Same H (upd G D (.lst ((ws.map fun x => !wordB x).map V.bl))) := sG.trans (same_new hG)
        refine ⟨D, _, rfl, SqL.of upd_same, _, rfl, ?_⟩
        have e : ((ws.map fun x => !wordB x).any id) = !ws.all wordB := by
          exact any_not wordB ws
        rw [e]
        have ew : wordsB ws = ws.all wordB := by unfold wordsB; rw [decide_eq_true hn, Bool.true_and]
        by_cases ha3 : ws.all wordB = true
        · exact ifF (by rw [ha3]; rfl) (ky (ew.trans ha3) _ sD)
        · have ha3 := Bool.eq_false_iff.mpr ha3
          refine ifT (by rw [ha3]; rfl) ?_
          exact ⟨_, rfl, fun d hd => (kn (ew.trans ha3)).here sD hd⟩
      · refine ifT (decide_eq_true (by omega)) ?_
        exact ⟨_, rfl, fun d hd => (kn (by unfold wordsB; rw [decide_eq_false hn, Bool.false_and])).here (Same.refl _) hd⟩
    · refine ⟨_, (pss_one (ps_if (PW.pt (pw_or (pt_cmpR op_gt (pe_callB call_len_seq (by rfl) T.b_len boot_len' (pa_cons (pv 0) pa_nil)) (pe_gc (by rfl) g_MOST_WORDS) (nomark _)) (pw_or1 (pt_val (pe_callB (cr_any rfl) (by rfl) T.b_any boot_any' (pa_cons (pe_lc (own := [("word", 1)]) rfl sc_check_words.nd (pi_tup (pv 0)) (blkOk_by (own := [("word", 1)]) (N := ["words", "word"]) (sc := defScope s_check_words) (by decide +kernel)) (fun _ _ _ _ _ => (pg_name (i := 1) sc_check_words.nd rfl (Or.inl rfl))) (fun _ _ _ _ _ => pts_nil) (fun _ _ _ _ _ => (pe_not (pe_chain op_le op_le pe_int (pv 1) (pe_gc (by rfl) g_MOST_WORD))))) pa_nil)))))) (pss_one (ps_raise rfl (takes_of rfl rfl rfl rfl) (pmk_e c_InvalidCode hr (by omega) rfl (pa_cons pe_str pa_nil)))) pss_nil)), ?_⟩
      cases dp_int (d1 H)
      cases dp_int (d2 H)
      refine ⟨_, rfl, a, _, rfl, .inr ha, _, _, rfl, rfl, _, rfl, ?_⟩
      rw [List.length_map]
      by_cases hn : ws.length ≤ 256
      · refine ifF (decide_eq_false (by omega)) ?_
        refine ⟨_, rfl, a, rfl, ⟨_, ha⟩, fun D hD => ?_⟩
        refine lc_dataT (K := K) (a := a) (xs := ws.map V.int) (ds := intsD ws) (fun _ => true) badW ha (dps_ints _) hD (by rw [ints_len]; omega) ?_ ?_
        · intro v d G acc R dm hv sG hG ha2 _ hyes
          obtain ⟨i, hi, rfl⟩ := List.mem_map.mp dm
          cases dp_int hv
          have fin : ∀ b : Bool, b = !wordB i → ∃ acc', upd G D (.lst acc) D = some (.lst acc') ∧ acc'.length < sizeLine ∧ R (upd (upd G D (.lst acc)) D (.lst (acc' ++ [V.bl b]))) := fun b e => ⟨acc, upd_same, ha2, by
            rw [upd_app]
            exact hyes rfl G _ (Same.refl _) hG (by rw [e]; exact .bl _)⟩
          refine ⟨rfl, _, rfl, _, _, rfl, rfl, _, rfl, ?_⟩
          by_cases h0 : 0 ≤ i
          · refine ifT (decide_eq_true h0) ⟨_, _, rfl, rfl, _, rfl, fin _ ?_⟩
            unfold wordB
            rw [decide_eq_true h0, Bool.true_and]
          · refine ifF (decide_eq_false h0) ⟨_, rfl, fin _ ?_⟩
            unfold wordB
            rw [decide_eq_false h0, Bool.false_and]
        intro G ys sG hG hys
        rw [List.filter_eq_self.mpr fun _ _ => rfl, badW_map] at hys
        cases dps_bl_of hys
        have sD : Same H (upd G D (.lst ((ws.map fun x => !wordB x).map V.bl))) := sG.trans (same_new hG)
        refine ⟨D, _, rfl, SqL.of upd_same, _, rfl, ?_⟩
        have e : ((ws.map fun x => !wordB x).any id) = !ws.all wordB := by
          exact any_not wordB ws
        rw [e]
        have ew : wordsB ws = ws.all wordB := by unfold wordsB; rw [decide_eq_true hn, Bool.true_and]
        by_cases ha3 : ws.all wordB = true
        · exact ifF (by rw [ha3]; rfl) (ky (ew.trans ha3) _ sD)
        · have ha3 := Bool.eq_false_iff.mpr ha3
          refine ifT (by rw [ha3]; rfl) ?_
          exact ⟨_, rfl, fun d hd => (kn (ew.trans ha3)).here sD hd⟩
      · refine ifT (decide_eq_true (by omega)) ?_
        exact ⟨_, rfl, fun d hd => (kn (by unfold wordsB; rw [decide_eq_false hn, Bool.false_and])).here (Same.refl _) hd⟩
def spFields (K : PySem.W.Frag) : Sp := fun vs H Q _ => ∃ w : Int, vs = [.int w] ∧ wordB w = true ∧ ∀ (t : Addr) (H' : Hp), Same H H' → H' t = some (.tup [.int (fop w), .int (fa w), .int (fb w), .int (fn w)]) → Q (.ref t) H'
theorem ok_fields {C : Addr} {f : Addr} {fd : FuncData} (F : Fun K "fields_of" "fields_of" s_fields_of f fd) (T : Txt K mg) (c_check_words : CalX P w K mg base 3 "check_words" (spWords K C)) : FnOk P w K mg base (L2.CX P w) 4 f fd ["word"] (spFields K) := by
  refine F.okX sc_fields_of (fun vs H Q E h => ?_) (fun cdv A outer s H vs Q E hr h => ?_)
  · obtain ⟨w, rfl, _⟩ := h
    rfl
  · obtain ⟨w, rfl, hw, k⟩ := h
    have hw' := hw
    unfold wordB at hw'
    simp only [Bool.and_eq_true, decide_eq_true_eq] at hw'
    have hok : wordsB [w] = true := by
      unfold wordsB
      rw [List.all_cons, hw]
      rfl
    refine ⟨_, (pss_cons (ps_expr (pe_cx c_check_words hr (by omega) rfl (takes_of rfl rfl rfl rfl) (pa_cons (pe_lst (pa_cons (pv 0) pa_nil)) pa_nil)))
      (pss_one (ps_ret (pe_tup (pa_cons (pe_op op_fdiv (pv 0) pe_int) (pa_cons (pe_op op_mod (pe_op op_fdiv (pv 0) pe_int) pe_int) (pa_cons (pe_op op_mod (pe_op op_fdiv (pv 0) pe_int) pe_int) (pa_cons (pe_op op_mod (pv 0) pe_int) pa_nil)))))))), ?_⟩
    refine ⟨_, rfl, (show 1 ≤ sizeLine by decide), fun q nq => ?_⟩
    have s1 := same_new (o := HO.lst [V.int w]) nq
    refine ⟨.ref q, [w], rfl, ⟨q, rfl, .inl (SqL.of upd_same)⟩, (show 1 ≤ 1000 by decide), fun _ H2 s2 => ?_, fun e => absurd hok (by rw [e]; decide)⟩
    refine ⟨_, rfl, _, _, rfl, rfl, ⟨by decide, by decide⟩, _, rfl, _, _, rfl, rfl, ⟨by decide, by decide⟩, _, _, rfl, rfl, (show (0 : Int) < 4 by decide), _, rfl, _, _, rfl, rfl, ⟨by decide, by decide⟩, _, _, rfl, rfl, (show (0 : Int) < 4 by decide), _, rfl, _, _, rfl, rfl, (show (0 : Int) < 256 by decide), (show 4 ≤ sizeLine by decide), fun t nt => ?_⟩
    exact k t _ ((s1.trans s2).trans (same_new nt)) upd_same
/-! ### check_data -/
def dataB (ns : List Int) : Bool := decide (ns.length = 64) && ns.all fun x => decide (0 ≤ x) && decide (x < 256)
def spData (K : PySem.W.Frag) (C : Addr) : Sp := fun vs H Q E => ∃ (v : V) (ns : List Int), vs = [v] ∧ Nums K H v ns ∧ ns.length ≤ 1000 ∧ (dataB ns = true → ∀ H', Same H H' → Q .non H') ∧ (dataB ns = false → RaiseF C "form" H E)
theorem ok_data {C : Addr} {f : Addr} {fd : FuncData} (F : Fun K "check_data" "check_data" s_check_data f fd) (T : Txt K mg) (c_InvalidState : Erm P w K mg base 1 "InvalidState" C "what") (c_is_byte : Cal P w K mg base 1 "is_byte" (spByte K) []) : FnOk P w K mg base (L2.CX P w) 3 f fd ["data"] (spData K C) := by
  refine F.okX sc_check_data (fun vs H Q E h => ?_) (fun cdv A outer s H vs Q E hr h => ?_)
  · obtain ⟨v, ns, rfl, _⟩ := h
    rfl
  · obtain ⟨v, ns, rfl, hv, hl, ky, kn⟩ := h
    obtain ⟨v1, g_DATA, d1⟩ := T.c_DATA
    obtain ⟨a, rfl, ha⟩ := hv
    rcases ha with ha | ha
    · refine ⟨_, (pss_one (ps_if (PW.pt (pw_or (pt_cmpR op_ne (pe_callB call_len_seq (by rfl) T.b_len boot_len' (pa_cons (pv 0) pa_nil)) (pe_gc (by rfl) g_DATA) (nomark _)) (pw_or1 (pt_not (pt_val (pe_callB (cr_all rfl) (by rfl) T.b_all boot_all' (pa_cons (pe_lc (own := [("value", 1)]) rfl sc_check_data.nd (pi_list (pv 0)) (blkOk_by (own := [("value", 1)]) (N := ["data", "value"]) (sc := defScope s_check_data) (by decide +kernel)) (fun _ _ _ _ _ => (pg_name (i := 1) sc_check_data.nd rfl (Or.inl rfl))) (fun _ _ _ _ _ => pts_nil) (fun _ _ _ _ _ => (pe_c c_is_byte hr (by omega) rfl (pa_cons (pv 1) pa_nil)))) pa_nil))))))) (pss_one (ps_raise rfl (takes_of rfl rfl rfl rfl) (pmk_e c_InvalidState hr (by omega) rfl (pa_cons pe_str pa_nil)))) pss_nil)), ?_⟩
      cases dp_int (d1 H)
      refine ⟨_, rfl, a, _, rfl, .inl ha, rfl, _, rfl, ?_⟩
      rw [List.length_map]
      by_cases hn : ns.length = 64
      · refine ifF (ne_int0 (by omega)) ?_
        refine ⟨_, rfl, a, rfl, ⟨_, ha⟩, fun D hD => ?_⟩
        refine lc_data (K := K) (a := a) (xs := ns.map V.int) (ds := intsD ns) (fun _ => true) (fun d => .bool (byteD d)) ha (dps_ints _) hD (by rw [ints_len]; omega) ?_ ?_
        · intro v d G acc R dm hv sG hG ha2 _ hyes
          obtain ⟨i, hi, rfl⟩ := List.mem_map.mp dm
          cases dp_int hv
          refine ⟨rfl, _, rfl, _, .int i, rfl, .int i, rfl, acc, upd_same, ha2, ?_⟩
          rw [upd_app]
          exact hyes rfl G _ (Same.refl _) hG (.bl _)
        intro G ys sG hG hys
        rw [List.filter_eq_self.mpr fun _ _ => rfl, byteD_map] at hys
        cases dps_bl_of hys
        have sD : Same H (upd G D (.lst ((ns.map byteB).map V.bl))) := sG.trans (same_new hG)
        refine ⟨D, _, rfl, SqL.of upd_same, _, rfl, ?_⟩
        have e : ((ns.map byteB).all id) = ns.all byteB := by
          rw [List.all_map]
          rfl
        rw [e]
        have ew : dataB ns = ns.all byteB := by unfold dataB; rw [decide_eq_true hn, Bool.true_and]; rfl
        by_cases ha3 : ns.all byteB = true
        · exact ifF (by rw [ha3]; rfl) (ky (ew.trans ha3) _ sD)
        · have ha3 := Bool.eq_false_iff.mpr ha3
          refine ifT (by rw [ha3]; rfl) ?_
          exact ⟨_, rfl, fun d hd => (kn (ew.trans ha3)).here sD hd⟩
      · refine ifT (ne_int (by omega)) ?_
        exact ⟨_, rfl, fun d hd => (kn (by unfold dataB; rw [decide_eq_false hn, Bool.false_and])).here (Same.refl _) hd⟩
    · refine ⟨_, (pss_one (ps_if (PW.pt (pw_or (pt_cmpR op_ne (pe_callB call_len_seq (by rfl) T.b_len boot_len' (pa_cons (pv 0) pa_nil)) (pe_gc (by rfl) g_DATA) (nomark _)) (pw_or1 (pt_not (pt_val (pe_callB (cr_all rfl) (by rfl) T.b_all boot_all' (pa_cons (pe_lc (own := [("value", 1)]) rfl sc_check_data.nd (pi_tup (pv 0)) (blkOk_by (own := [("value", 1)]) (N := ["data", "value"]) (sc := defScope s_check_data) (by decide +kernel)) (fun _ _ _ _ _ => (pg_name (i := 1) sc_check_data.nd rfl (Or.inl rfl))) (fun _ _ _ _ _ => pts_nil) (fun _ _ _ _ _ => (pe_c c_is_byte hr (by omega) rfl (pa_cons (pv 1) pa_nil)))) pa_nil))))))) (pss_one (ps_raise rfl (takes_of rfl rfl rfl rfl) (pmk_e c_InvalidState hr (by omega) rfl (pa_cons pe_str pa_nil)))) pss_nil)), ?_⟩
      cases dp_int (d1 H)
      refine ⟨_, rfl, a, _, rfl, .inr ha, rfl, _, rfl, ?_⟩
      rw [List.length_map]
      by_cases hn : ns.length = 64
      · refine ifF (ne_int0 (by omega)) ?_
        refine ⟨_, rfl, a, rfl, ⟨_, ha⟩, fun D hD => ?_⟩
        refine lc_dataT (K := K) (a := a) (xs := ns.map V.int) (ds := intsD ns) (fun _ => true) (fun d => .bool (byteD d)) ha (dps_ints _) hD (by rw [ints_len]; omega) ?_ ?_
        · intro v d G acc R dm hv sG hG ha2 _ hyes
          obtain ⟨i, hi, rfl⟩ := List.mem_map.mp dm
          cases dp_int hv
          refine ⟨rfl, _, rfl, _, .int i, rfl, .int i, rfl, acc, upd_same, ha2, ?_⟩
          rw [upd_app]
          exact hyes rfl G _ (Same.refl _) hG (.bl _)
        intro G ys sG hG hys
        rw [List.filter_eq_self.mpr fun _ _ => rfl, byteD_map] at hys
        cases dps_bl_of hys
        have sD : Same H (upd G D (.lst ((ns.map byteB).map V.bl))) := sG.trans (same_new hG)
        refine ⟨D, _, rfl, SqL.of upd_same, _, rfl, ?_⟩
        have e : ((ns.map byteB).all id) = ns.all byteB := by
          rw [List.all_map]
          rfl
        rw [e]
        have ew : dataB ns = ns.all byteB := by unfold dataB; rw [decide_eq_true hn, Bool.true_and]; rfl
        by_cases ha3 : ns.all byteB = true
        · exact ifF (by rw [ha3]; rfl) (ky (ew.trans ha3) _ sD)
        · have ha3 := Bool.eq_false_iff.mpr ha3
          refine ifT (by rw [ha3]; rfl) ?_
          exact ⟨_, rfl, fun d hd => (kn (ew.trans ha3)).here sD hd⟩
      · refine ifT (ne_int (by omega)) ?_
        exact ⟨_, rfl, fun d hd => (kn (by unfold dataB; rw [decide_eq_false hn, Bool.false_and])).here (Same.refl _) hd⟩
/-! ### first_state, replaced, result_of -/
def stD (s : Mc) : PyData := .tuple [.tuple (intsD s.r), .tuple (intsD s.d), .int s.t]
def spFirst (K : PySem.W.Frag) : Sp := fun vs H Q _ => ∃ (v : V) (ns : List Int), vs = [v] ∧ Nums K H v ns ∧ dataB ns = true ∧ ∀ (u : V) (H' : Hp), Same H H' → Dp K H' u (stD ⟨[0, 0, 0, 0, 0], ns, 0⟩) → Q u H'
theorem ok_first {C : Addr} {f : Addr} {fd : FuncData} (F : Fun K "first_state" "first_state" s_first_state f fd) (T : Txt K mg) (c_check_data : CalX P w K mg base 3 "check_data" (spData K C)) : FnOk P w K mg base (L2.CX P w) 4 f fd ["data"] (spFirst K) := by
  refine F.okX sc_first_state (fun vs H Q E h => ?_) (fun cdv A outer s H vs Q E hr h => ?_)
  · obtain ⟨v, ns, rfl, _⟩ := h
    rfl
  · obtain ⟨v, ns, rfl, hv, hd, k⟩ := h
    have hl : ns.length = 64 := by
      unfold dataB at hd
      simp only [Bool.and_eq_true, decide_eq_true_eq] at hd
      exact hd.1
    refine ⟨_, (pss_cons (ps_expr (pe_cx c_check_data hr (by omega) rfl (takes_of rfl rfl rfl rfl) (pa_cons (pv 0) pa_nil)))
      (pss_one (ps_ret (pe_tup (pa_cons (pe_tup (pa_cons pe_int (pa_cons pe_int (pa_cons pe_int (pa_cons pe_int (pa_cons pe_int pa_nil)))))) (pa_cons (pe_callTy call_tuple_of (by rfl) T.b_tuple boot_tuple' (pa_cons (pv 0) pa_nil)) (pa_cons pe_int pa_nil))))))), ?_⟩
    refine ⟨_, rfl, v, ns, rfl, hv, by omega, fun _ H1 s1 => ?_, fun e => absurd hd (by rw [e]; decide)⟩
    obtain ⟨a, rfl, ha⟩ := Nums.same s1 hv
    refine ⟨(show 5 ≤ sizeLine by decide), fun t1 n1 => ?_⟩
    have x1 := same_new (o := HO.tup [V.int 0, V.int 0, V.int 0, V.int 0, V.int 0]) n1
    have fin : ∀ (u : V) (H2 : Hp), Same (upd H1 t1 (.tup [V.int 0, V.int 0, V.int 0, V.int 0, V.int 0])) H2 → Dp K H2 u (.tuple (intsD ns)) → (3 ≤ sizeLine ∧ ∀ p, H2 p = none → Q (.ref p) (upd H2 p (.tup [.ref t1, u, .int 0]))) := fun u H2 s2 du =>
      ⟨(show 3 ≤ sizeLine by decide), fun p np => k _ _ ((s1.trans x1).trans (s2.trans (same_new np))) (.tup (SqT.of upd_same) (.cons (.tup (SqT.of ((s2.trans (same_new np)) _ _ upd_same)) (dps_ints [0, 0, 0, 0, 0])) (.cons (dp_same (same_new np) du) (.cons (.int _) .nil))))⟩
    refine ⟨_, rfl, a, ns.map V.int, rfl, ?_⟩
    rcases ha with ha | ha
    · refine .inl ⟨x1.seq ha, fun t2 n2 => ?_⟩
      exact fin (.ref t2) _ (same_new n2) (.tup (SqT.of upd_same) (dps_ints _))
    · refine .inr ⟨Same.tup x1 ha, ?_⟩
      exact fin (.ref a) _ (Same.refl _) (.tup (Same.tup x1 ha) (dps_ints _))
theorem take_set {α : Type} (xs : List α) {i : Nat} (x : α) (h : i < xs.length) : xs.take i ++ [x] ++ xs.drop (i + 1) = xs.set i x := by
  refine List.ext_getElem? fun j => ?_
  rw [List.getElem?_set, List.append_assoc, List.getElem?_append, List.length_take, Nat.min_eq_left (by omega)]
  by_cases h1 : j < i
  · rw [if_pos h1, if_neg (by omega), List.getElem?_take, if_pos h1]
  · rw [if_neg h1]
    by_cases h2 : i = j
    · subst h2
      rw [if_pos rfl, if_pos h, Nat.sub_self]
      rfl
    · rw [if_neg h2, List.getElem?_append, if_neg (by simp only [List.length_singleton]; omega), List.length_singleton, List.getElem?_drop]
      congr 1
      omega
def spRepl (K : PySem.W.Frag) : Sp := fun vs H Q _ => ∃ (v : V) (xs : List Int) (i x : Int), vs = [v, .int i, .int x] ∧ Dp K H v (.tuple (intsD xs)) ∧ 0 ≤ i ∧ i < xs.length ∧ xs.length ≤ 1000 ∧ ∀ (u : V) (H' : Hp), Same H H' → Dp K H' u (.tuple (intsD (put xs i x))) → Q u H'
theorem ok_repl {f : Addr} {fd : FuncData} (F : Fun K "replaced" "replaced" s_replaced f fd) (T : Txt K mg) : FnOk P w K mg base CX0 1 f fd ["row", "at", "value"] (spRepl K) := by
  refine F.ok sc_replaced (fun vs H Q E h => ?_) (fun cdv A outer s H vs Q E hr h => ?_)
  · obtain ⟨v, xs, i, x, rfl, _⟩ := h
    rfl
  · obtain ⟨v, xs, i, x, rfl, hv, i0, i1, hl, k⟩ := h
    obtain ⟨a, ys, rfl, ha, hys⟩ := dp_tup hv
    cases dps_ints_of hys
    obtain ⟨j, rfl⟩ := Int.eq_ofNat_of_zero_le i0
    refine ⟨_, (pss_one (ps_ret (pe_op op_catA (pe_op op_catA (pe_slice sl_tupA (pv 0) po_none (po_some (pv 1))) (pe_tup (pa_cons (pv 2) pa_nil))) (pe_slice sl_tupA (pv 0) (po_some (pe_op op_add (pv 1) pe_int)) po_none)))), ?_⟩
    refine ⟨_, rfl, ?_⟩
    unfold tNoPart
    refine ⟨_, rfl, _, rfl, ?_⟩
    refine slA_new ha fun b1 H1 s1 h1 => ?_
    rw [cut_to (by rw [List.length_map]; omega), ← List.map_take] at h1
    refine ⟨_, rfl, (show 1 ≤ sizeLine by decide), fun t1 n1 => ?_⟩
    have x1 := same_new (o := HO.tup [V.int x]) n1
    refine catD (ds := intsD (xs.take j)) (es := [.int x]) (.tup (Same.tup x1 h1) (dps_ints _)) (.tup (SqT.of upd_same) (.cons (.int _) .nil)) (by rw [ints_len, List.length_take]; simp only [List.length_singleton]; omega) fun z1 H2 s2 d2 => ?_
    refine ⟨_, rfl, _, rfl, _, _, rfl, rfl, _, rfl, ?_⟩
    refine slA_new (Same.tup ((s1.trans x1).trans s2) ha) fun b2 H3 s3 h3 => ?_
    rw [show ((j : Int) + 1) = ((j + 1 : Nat) : Int) by omega, cut_from (by rw [List.length_map]; omega), ← List.map_drop] at h3
    refine catD (es := intsD (xs.drop (j + 1))) (dp_same s3 d2) (.tup h3 (dps_ints _)) (by rw [List.length_append, ints_len, ints_len, List.length_take, List.length_drop]; simp only [List.length_singleton]; omega) fun z2 H4 s4 d4 => ?_
    refine k z2 H4 ((((s1.trans x1).trans s2).trans s3).trans s4) ?_
    have e : intsD (xs.take j) ++ [.int x] ++ intsD (xs.drop (j + 1)) = intsD (put xs (j : Int) x) := by
      unfold put intsD
      rw [Int.toNat_natCast, ← take_set xs x (by omega), List.map_append, List.map_append]
      rfl
    rw [← e]
    exact d4
def spRes : Sp := fun vs H Q _ => ∃ n one two : Int, vs = [.int n, .int one, .int two] ∧ 0 ≤ n ∧ n ≤ 8 ∧ ∀ H', Same H H' → Q (.int (res n one two)) H'
theorem ok_res {f : Addr} {fd : FuncData} (F : Fun K "result_of" "result_of" s_result_of f fd) (T : Txt K mg) : FnOk P w K mg base CX0 1 f fd ["n", "one", "two"] spRes := by
  refine F.ok sc_result_of (fun vs H Q E h => ?_) (fun cdv A outer s H vs Q E hr h => ?_)
  · obtain ⟨n, one, two, rfl, _⟩ := h
    rfl
  · obtain ⟨n, one, two, rfl, n0, n1, k⟩ := h
    obtain ⟨v1, g_BYTE, d1⟩ := T.c_BYTE
    refine ⟨_, (pss_cons (ps_set (i := 3) sc_result_of.nd rfl (Or.inl rfl) (pe_tup (pa_cons (pv 2) (pa_cons (pe_op op_add (pv 1) (pv 2)) (pa_cons (pe_op op_sub (pv 1) (pv 2)) (pa_cons (pe_op op_and (pv 1) (pv 2)) (pa_cons (pe_op op_or (pv 1) (pv 2)) (pa_cons (pe_op op_xor (pv 1) (pv 2)) (pa_cons (pe_callTy call_int1 (by rfl) T.b_int boot_int' (pa_cons (pe_cmpR op_lt (pv 1) (pv 2) (nomark _)) pa_nil)) (pa_cons (pe_callTy call_int1 (by rfl) T.b_int boot_int' (pa_cons (pe_cmpR op_eq (pv 1) (pv 2) (nomark _)) pa_nil)) (pa_cons (pe_op op_shr (pv 2) pe_int) pa_nil)))))))))))
      (pss_one (ps_ret (pe_op op_mod (pe_ix ix_tup (pv 3) (pv 0) (fun _ _ => rfl)) (pe_gc (by rfl) g_BYTE))))), ?_⟩
    cases dp_int (d1 H)
    refine ⟨_, rfl, _, rfl, _, rfl, _, _, rfl, rfl, _, rfl, _, rfl, _, _, rfl, rfl, _, rfl, _, rfl, _, _, rfl, rfl, _, rfl, _, rfl, _, _, rfl, rfl, _, rfl, _, rfl, _, _, rfl, rfl, _, rfl, _, rfl, _, _, rfl, rfl, .inr ⟨_, rfl, _, rfl, _, rfl, rfl, .inr ⟨_, rfl, _, rfl, _, _, rfl, rfl, (show (0 : Int) ≤ 1 by decide), (show 9 ≤ sizeLine by decide), fun t nt => ?_⟩⟩⟩
    have at_ : atI [V.int two, V.int (one + two), V.int (one - two), V.int (Builtin.bitAnd one two), V.int (Builtin.bitOr one two), V.int (Builtin.bitXor one two), V.int (if decide (one < two) = true then 1 else 0), V.int (if decide (V.int one = V.int two) = true then 1 else 0), V.int (two / 2 ^ (1 : Int).toNat)] n = some (.int (g (results one two) n)) := by
      have e1 : (if decide (one < two) = true then (1 : Int) else 0) = if one < two then 1 else 0 := by simp
      have e2 : (if decide (V.int one = V.int two) = true then (1 : Int) else 0) = if one = two then 1 else 0 := by simp
      rw [e1, e2]
      have : n = 0 ∨ n = 1 ∨ n = 2 ∨ n = 3 ∨ n = 4 ∨ n = 5 ∨ n = 6 ∨ n = 7 ∨ n = 8 := by omega
      rcases this with rfl | rfl | rfl | rfl | rfl | rfl | rfl | rfl | rfl <;> rfl
    refine ⟨_, rfl, _, rfl, t, _, n, _, rfl, rfl, SqT.of upd_same, at_, _, _, rfl, rfl, (show (0 : Int) < 256 by decide), ?_⟩
    exact k _ (same_new nt)
end
end Q39




set_option pp.maxSteps 1500
namespace Q39
open PySem L2 G M40
open C8 (Cal Met Mak pe_c pe_mk pe_mt pe_mt0 pe_gc pss_cut tCut)
def whatD : What → PyData
  | .non => .tuple []
  | .reg a o => .tuple [.str "r", .int a, .int o]
  | .byt a o => .tuple [.str "b", .int a, .int o]
  | .inp a o t => .tuple [.str "in", .int a, .int o, .int t]
def rowD (r : Row) : PyData := .tuple [.int r.1, whatD r.2]
def stepD (s : Mc) (m : Mc × What) : PyData := .tuple [stD m.1, rowD (g s.r 4, m.2)]
theorem g_at {xs : List Int} {i : Int} (h0 : 0 ≤ i) (h1 : i < xs.length) : atI (xs.map V.int) i = some (.int (g xs i)) := int_atI h0 (by omega)
section
variable {P : Program} {w : World} {K : PySem.W.Frag} {mg : Str → Option Value} {base : Heap}
theorem st_dp {H : Hp} {v : V} {s : Mc} (h : Dp K H v (stD s)) : ∃ a ar ad : Addr, v = .ref a ∧ SqT K H a [.ref ar, .ref ad, .int s.t] ∧ SqT K H ar (s.r.map V.int) ∧ SqT K H ad (s.d.map V.int) := by
  obtain ⟨a, xs, rfl, ha, hxs⟩ := dp_tup h
  cases hxs with
  | cons h1 hxs =>
    cases hxs with
    | cons h2 hxs =>
      cases hxs with
      | cons h3 hxs =>
        cases hxs
        obtain ⟨ar, x1, rfl, hr, hx1⟩ := dp_tup h1
        obtain ⟨ad, x2, rfl, hd, hx2⟩ := dp_tup h2
        cases dps_ints_of hx1
        cases dps_ints_of hx2
        cases dp_int h3
        exact ⟨a, ar, ad, rfl, ha, hr, hd⟩
theorem dp_ints {H : Hp} {a : Addr} {xs : List Int} (h : SqT K H a (xs.map V.int)) : Dp K H (.ref a) (.tuple (intsD xs)) := .tup h (dps_ints _)
/-! ### set_register, set_data, go_to, take_byte -/
def Lens (s : Mc) : Prop := s.r.length = 5 ∧ s.d.length = 64
def KStep (K : PySem.W.Frag) (H : Hp) (s : Mc) (m : Mc × What) (Q : VK) : Prop := ∀ (u : V) (H' : Hp), Same H H' → Dp K H' u (stepD s m) → Q u H'
def spSetR (K : PySem.W.Frag) : Sp := fun vs H Q _ => ∃ (v : V) (s : Mc) (a x pc : Int), vs = [v, .int a, .int x, .int pc] ∧ Dp K H v (stD s) ∧ Lens s ∧ 0 ≤ a ∧ a < 5 ∧ KStep K H s (setR s a x pc) Q
theorem ok_setR {f : Addr} {fd : FuncData} (F : Fun K "set_register" "set_register" s_set_register f fd) (T : Txt K mg) (c_replaced : Cal P w K mg base 1 "replaced" (spRepl K) []) : FnOk P w K mg base CX0 2 f fd ["state", "a", "value", "pc"] (spSetR K) := by
  refine F.ok sc_set_register (fun vs H Q E h => ?_) (fun cdv A outer s H vs Q E hr h => ?_)
  · obtain ⟨v, s, a, x, pc, rfl, _⟩ := h
    rfl
  · obtain ⟨v, st, a, x, pc, rfl, hv, ⟨lr, ld⟩, a0, a1, k⟩ := h
    obtain ⟨v1, g_REGISTERS, d1⟩ := T.c_REGISTERS
    obtain ⟨sa, ar, ad, rfl, hs, hr1, hd1⟩ := st_dp hv
    refine ⟨_, (pss_cons (ps_asg (pv 0) (pg_tup rfl (pgs_cons (pg_name (i := 4) sc_set_register.nd rfl (Or.inl rfl)) (pgs_cons (pg_name (i := 5) sc_set_register.nd rfl (Or.inl rfl)) (pgs_cons (pg_name (i := 6) sc_set_register.nd rfl (Or.inl rfl)) pgs_nil)))))
      (pss_cons (ps_set (i := 7) sc_set_register.nd rfl (Or.inl rfl) (pe_tup (pa_cons (pe_ix ix_tup (pv 4) (pe_gc (by rfl) g_REGISTERS) (fun _ _ => rfl)) (pa_cons (pe_tup (pa_cons pe_str (pa_cons (pv 1) (pa_cons (pe_ix ix_tup (pv 4) (pv 1) (fun _ _ => rfl)) pa_nil)))) pa_nil))))
      (pss_one (ps_ret (pe_tup (pa_cons (pe_tup (pa_cons (pe_c c_replaced hr (by omega) rfl (pa_cons (pe_c c_replaced hr (by omega) rfl (pa_cons (pv 4) (pa_cons (pe_gc (by rfl) g_REGISTERS) (pa_cons (pv 3) pa_nil)))) (pa_cons (pv 1) (pa_cons (pv 2) pa_nil)))) (pa_cons (pv 5) (pa_cons (pv 6) pa_nil)))) (pa_cons (pv 7) pa_nil))))))), ?_⟩
    cases dp_int (d1 H)
    refine ⟨_, rfl, sa, _, rfl, hs, rfl, ?_⟩
    refine ⟨_, _, rfl, _, _, rfl, _, _, rfl, rfl, ?_⟩
    refine ⟨_, rfl, ar, _, 4, _, rfl, rfl, hr1, g_at (by decide) (by omega), _, rfl, _, rfl, _, rfl, ar, _, _, _, rfl, rfl, hr1, g_at a0 (by omega), (show 3 ≤ sizeLine by decide), fun t1 n1 => ⟨(show 2 ≤ sizeLine by decide), fun t2 n2 => ?_⟩⟩
    have x1 := same_new (o := HO.tup [V.str "r", V.int a, V.int (g st.r a)]) n1
    have x2 := same_new (o := HO.tup [V.int (g st.r 4), V.ref t1]) n2
    have x12 := x1.trans x2
    refine ⟨_, rfl, _, rfl, .ref ar, st.r, 4, pc, rfl, dp_same x12 (dp_ints hr1), by decide, by omega, by omega, fun u1 H3 s3 d3 => ?_⟩
    refine ⟨_, rfl, _, rfl, u1, put st.r 4 pc, a, x, rfl, d3, a0, by rw [put_len]; omega, by rw [put_len]; omega, fun u2 H4 s4 d4 => ?_⟩
    refine ⟨_, rfl, _, rfl, (show 3 ≤ sizeLine by decide), fun t3 n3 => ⟨_, rfl, (show 2 ≤ sizeLine by decide), fun t4 n4 => ?_⟩⟩
    have x34 := s3.trans s4
    have x5 := same_new (o := HO.tup [u2, V.ref ad, V.int st.t]) n3
    have x6 := same_new (o := HO.tup [V.ref t3, V.ref t2]) n4
    refine k _ _ (((x12.trans x34).trans x5).trans x6) (.tup (SqT.of upd_same) (.cons (.tup (SqT.of (x6 _ _ upd_same)) (.cons (dp_same (x5.trans x6) d4) (.cons (dp_same (((x12.trans x34).trans x5).trans x6) (dp_ints hd1)) (.cons (.int _) .nil)))) (.cons (.tup (SqT.of (((x34.trans x5).trans x6) _ _ upd_same)) (.cons (.int _) (.cons (.tup (SqT.of ((((x2.trans x34).trans x5).trans x6) _ _ upd_same)) (.cons (.str _) (.cons (.int _) (.cons (.int _) .nil)))) .nil))) .nil)))
def spSetD (K : PySem.W.Frag) : Sp := fun vs H Q _ => ∃ (v : V) (s : Mc) (a x pc : Int), vs = [v, .int a, .int x, .int pc] ∧ Dp K H v (stD s) ∧ Lens s ∧ 0 ≤ a ∧ a < 64 ∧ KStep K H s (setD s a x pc) Q
theorem ok_setD {f : Addr} {fd : FuncData} (F : Fun K "set_data" "set_data" s_set_data f fd) (T : Txt K mg) (c_replaced : Cal P w K mg base 1 "replaced" (spRepl K) []) : FnOk P w K mg base CX0 2 f fd ["state", "address", "value", "pc"] (spSetD K) := by
  refine F.ok sc_set_data (fun vs H Q E h => ?_) (fun cdv A outer s H vs Q E hr h => ?_)
  · obtain ⟨v, s, a, x, pc, rfl, _⟩ := h
    rfl
  · obtain ⟨v, st, a, x, pc, rfl, hv, ⟨lr, ld⟩, a0, a1, k⟩ := h
    obtain ⟨v1, g_REGISTERS, d1⟩ := T.c_REGISTERS
    obtain ⟨sa, ar, ad, rfl, hs, hr1, hd1⟩ := st_dp hv
    refine ⟨_, (pss_cons (ps_asg (pv 0) (pg_tup rfl (pgs_cons (pg_name (i := 4) sc_set_data.nd rfl (Or.inl rfl)) (pgs_cons (pg_name (i := 5) sc_set_data.nd rfl (Or.inl rfl)) (pgs_cons (pg_name (i := 6) sc_set_data.nd rfl (Or.inl rfl)) pgs_nil)))))
      (pss_cons (ps_set (i := 7) sc_set_data.nd rfl (Or.inl rfl) (pe_tup (pa_cons (pe_ix ix_tup (pv 4) (pe_gc (by rfl) g_REGISTERS) (fun _ _ => rfl)) (pa_cons (pe_tup (pa_cons pe_str (pa_cons (pv 1) (pa_cons (pe_ix ix_tup (pv 5) (pv 1) (fun _ _ => rfl)) pa_nil)))) pa_nil))))
      (pss_one (ps_ret (pe_tup (pa_cons (pe_tup (pa_cons (pe_c c_replaced hr (by omega) rfl (pa_cons (pv 4) (pa_cons (pe_gc (by rfl) g_REGISTERS) (pa_cons (pv 3) pa_nil)))) (pa_cons (pe_c c_replaced hr (by omega) rfl (pa_cons (pv 5) (pa_cons (pv 1) (pa_cons (pv 2) pa_nil)))) (pa_cons (pv 6) pa_nil)))) (pa_cons (pv 7) pa_nil))))))), ?_⟩
    cases dp_int (d1 H)
    refine ⟨_, rfl, sa, _, rfl, hs, rfl, ?_⟩
    refine ⟨_, _, rfl, _, _, rfl, _, _, rfl, rfl, ?_⟩
    refine ⟨_, rfl, ar, _, 4, _, rfl, rfl, hr1, g_at (by decide) (by omega), _, rfl, _, rfl, _, rfl, ad, _, _, _, rfl, rfl, hd1, g_at a0 (by omega), (show 3 ≤ sizeLine by decide), fun t1 n1 => ⟨(show 2 ≤ sizeLine by decide), fun t2 n2 => ?_⟩⟩
    have x1 := same_new (o := HO.tup [V.str "b", V.int a, V.int (g st.d a)]) n1
    have x2 := same_new (o := HO.tup [V.int (g st.r 4), V.ref t1]) n2
    have x12 := x1.trans x2
    refine ⟨_, rfl, _, rfl, .ref ar, st.r, 4, pc, rfl, dp_same x12 (dp_ints hr1), by decide, by omega, by omega, fun u1 H3 s3 d3 => ?_⟩
    refine ⟨_, rfl, _, rfl, _, rfl, .ref ad, st.d, a, x, rfl, dp_same (x12.trans s3) (dp_ints hd1), a0, by omega, by omega, fun u2 H4 s4 d4 => ?_⟩
    refine ⟨_, rfl, (show 3 ≤ sizeLine by decide), fun t3 n3 => ⟨_, rfl, (show 2 ≤ sizeLine by decide), fun t4 n4 => ?_⟩⟩
    have x34 := s3.trans s4
    have x5 := same_new (o := HO.tup [u1, u2, V.int st.t]) n3
    have x6 := same_new (o := HO.tup [V.ref t3, V.ref t2]) n4
    refine k _ _ (((x12.trans x34).trans x5).trans x6) (.tup (SqT.of upd_same) (.cons (.tup (SqT.of (x6 _ _ upd_same)) (.cons (dp_same ((s4.trans x5).trans x6) d3) (.cons (dp_same (x5.trans x6) d4) (.cons (.int _) .nil)))) (.cons (.tup (SqT.of (((x34.trans x5).trans x6) _ _ upd_same)) (.cons (.int _) (.cons (.tup (SqT.of ((((x2.trans x34).trans x5).trans x6) _ _ upd_same)) (.cons (.str _) (.cons (.int _) (.cons (.int _) .nil)))) .nil))) .nil)))
def spGoTo (K : PySem.W.Frag) : Sp := fun vs H Q _ => ∃ (v : V) (s : Mc) (pc : Int), vs = [v, .int pc] ∧ Dp K H v (stD s) ∧ Lens s ∧ KStep K H s (goTo s pc) Q
theorem ok_goTo {f : Addr} {fd : FuncData} (F : Fun K "go_to" "go_to" s_go_to f fd) (T : Txt K mg) (c_replaced : Cal P w K mg base 1 "replaced" (spRepl K) []) : FnOk P w K mg base CX0 2 f fd ["state", "pc"] (spGoTo K) := by
  refine F.ok sc_go_to (fun vs H Q E h => ?_) (fun cdv A outer s H vs Q E hr h => ?_)
  · obtain ⟨v, s, pc, rfl, _⟩ := h
    rfl
  · obtain ⟨v, st, pc, rfl, hv, ⟨lr, ld⟩, k⟩ := h
    obtain ⟨v1, g_REGISTERS, d1⟩ := T.c_REGISTERS
    obtain ⟨sa, ar, ad, rfl, hs, hr1, hd1⟩ := st_dp hv
    refine ⟨_, (pss_cons (ps_asg (pv 0) (pg_tup rfl (pgs_cons (pg_name (i := 2) sc_go_to.nd rfl (Or.inl rfl)) (pgs_cons (pg_name (i := 3) sc_go_to.nd rfl (Or.inl rfl)) (pgs_cons (pg_name (i := 4) sc_go_to.nd rfl (Or.inl rfl)) pgs_nil)))))
      (pss_one (ps_ret (pe_tup (pa_cons (pe_tup (pa_cons (pe_c c_replaced hr (by omega) rfl (pa_cons (pv 2) (pa_cons (pe_gc (by rfl) g_REGISTERS) (pa_cons (pv 1) pa_nil)))) (pa_cons (pv 3) (pa_cons (pv 4) pa_nil)))) (pa_cons (pe_tup (pa_cons (pe_ix ix_tup (pv 2) (pe_gc (by rfl) g_REGISTERS) (fun _ _ => rfl)) (pa_cons (pe_tup pa_nil) pa_nil))) pa_nil)))))), ?_⟩
    cases dp_int (d1 H)
    refine ⟨_, rfl, sa, _, rfl, hs, rfl, ?_⟩
    refine ⟨_, _, rfl, _, _, rfl, _, _, rfl, rfl, ?_⟩
    refine ⟨_, rfl, _, rfl, .ref ar, st.r, 4, pc, rfl, dp_ints hr1, by decide, by omega, by omega, fun u1 H3 s3 d3 => ?_⟩
    refine ⟨_, rfl, _, rfl, (show 3 ≤ sizeLine by decide), fun t1 n1 => ?_⟩
    have x1 := same_new (o := HO.tup [u1, V.ref ad, V.int st.t]) n1
    refine ⟨_, rfl, ar, _, 4, _, rfl, rfl, Same.tup (s3.trans x1) hr1, g_at (by decide) (by omega), (show 0 ≤ sizeLine by decide), fun t2 n2 => ⟨(show 2 ≤ sizeLine by decide), fun t3 n3 => ⟨(show 2 ≤ sizeLine by decide), fun t4 n4 => ?_⟩⟩⟩
    have x2 := same_new (o := HO.tup []) n2
    have x3 := same_new (o := HO.tup [V.int (g st.r 4), V.ref t2]) n3
    have x4 := same_new (o := HO.tup [V.ref t1, V.ref t3]) n4
    have x24 := (x2.trans x3).trans x4
    refine k _ _ ((s3.trans x1).trans x24) (.tup (SqT.of upd_same) (.cons (.tup (SqT.of (x24 _ _ upd_same)) (.cons (dp_same (x1.trans x24) d3) (.cons (dp_same ((s3.trans x1).trans x24) (dp_ints hd1)) (.cons (.int _) .nil)))) (.cons (.tup (SqT.of (x4 _ _ upd_same)) (.cons (.int _) (.cons (.tup (SqT.of ((x3.trans x4) _ _ upd_same)) .nil) .nil))) .nil)))
def spTakeB (K : PySem.W.Frag) : Sp := fun vs H Q _ => ∃ (v vb : V) (s : Mc) (a pc : Int) (bi : List Int), vs = [v, .int a, vb, .int pc] ∧ Dp K H v (stD s) ∧ Lens s ∧ 0 ≤ a ∧ a < 5 ∧ 0 ≤ s.t ∧ Dp K H vb (.list (intsD bi)) ∧ KStep K H s (takeB s a bi pc) Q
theorem ok_takeB {f : Addr} {fd : FuncData} (F : Fun K "take_byte" "take_byte" s_take_byte f fd) (T : Txt K mg) (c_replaced : Cal P w K mg base 1 "replaced" (spRepl K) []) : FnOk P w K mg base CX0 2 f fd ["state", "a", "bytes_in", "pc"] (spTakeB K) := by
  refine F.ok sc_take_byte (fun vs H Q E h => ?_) (fun cdv A outer s H vs Q E hr h => ?_)
  · obtain ⟨v, vb, s, a, pc, bi, rfl, _⟩ := h
    rfl
  · obtain ⟨v, vb, st, a, pc, bi, rfl, hv, ⟨lr, ld⟩, a0, a1, t0, hb, k⟩ := h
    obtain ⟨v1, g_REGISTERS, d1⟩ := T.c_REGISTERS
    obtain ⟨sa, ar, ad, rfl, hs, hr1, hd1⟩ := st_dp hv
    obtain ⟨ab, xb, rfl, hab, hxb⟩ := dp_lst hb
    cases dps_ints_of hxb
    refine ⟨_, (pss_cons (ps_asg (pv 0) (pg_tup rfl (pgs_cons (pg_name (i := 4) sc_take_byte.nd rfl (Or.inl rfl)) (pgs_cons (pg_name (i := 5) sc_take_byte.nd rfl (Or.inl rfl)) (pgs_cons (pg_name (i := 6) sc_take_byte.nd rfl (Or.inl rfl)) pgs_nil)))))
      (pss_cons (ps_set (i := 7) sc_take_byte.nd rfl (Or.inl rfl) (pe_tup (pa_cons (pe_ix ix_tup (pv 4) (pe_gc (by rfl) g_REGISTERS) (fun _ _ => rfl)) (pa_cons (pe_tup (pa_cons pe_str (pa_cons (pv 1) (pa_cons (pe_ix ix_tup (pv 4) (pv 1) (fun _ _ => rfl)) (pa_cons (pv 6) pa_nil))))) pa_nil))))
      (pss_cons (ps_set (i := 8) sc_take_byte.nd rfl (Or.inl rfl) (pe_ifExp (pt_cmpR op_lt (pv 6) (pe_callB call_len_seq (by rfl) T.b_len boot_len' (pa_cons (pv 2) pa_nil)) (nomark _)) (pe_ix ix_list (pv 2) (pv 6) (fun _ _ => rfl)) pe_int))
      (pss_cons (ps_set (i := 9) sc_take_byte.nd rfl (Or.inl rfl) (pe_c c_replaced hr (by omega) rfl (pa_cons (pe_c c_replaced hr (by omega) rfl (pa_cons (pv 4) (pa_cons (pe_gc (by rfl) g_REGISTERS) (pa_cons (pv 3) pa_nil)))) (pa_cons (pv 1) (pa_cons (pv 8) pa_nil)))))
      (pss_one (ps_ret (pe_tup (pa_cons (pe_tup (pa_cons (pv 9) (pa_cons (pv 5) (pa_cons (pe_op op_add (pv 6) (pe_callTy call_int1 (by rfl) T.b_int boot_int' (pa_cons (pe_cmpR op_lt (pv 6) (pe_callB call_len_seq (by rfl) T.b_len boot_len' (pa_cons (pv 2) pa_nil)) (nomark _)) pa_nil))) pa_nil)))) (pa_cons (pv 7) pa_nil))))))))), ?_⟩
    cases dp_int (d1 H)
    refine ⟨_, rfl, sa, _, rfl, hs, rfl, ?_⟩
    refine ⟨_, _, rfl, _, _, rfl, _, _, rfl, rfl, ?_⟩
    refine ⟨_, rfl, ar, _, 4, _, rfl, rfl, hr1, g_at (by decide) (by omega), _, rfl, _, rfl, _, rfl, ar, _, _, _, rfl, rfl, hr1, g_at a0 (by omega), _, rfl, (show 4 ≤ sizeLine by decide), fun t1 n1 => ⟨(show 2 ≤ sizeLine by decide), fun t2 n2 => ?_⟩⟩
    have x1 := same_new (o := HO.tup [V.str "in", V.int a, V.int (g st.r a), V.int st.t]) n1
    have x2 := same_new (o := HO.tup [V.int (g st.r 4), V.ref t1]) n2
    have x12 := x1.trans x2
    by_cases ht : st.t < bi.length
    · have z0 : True := trivial
      have k : KStep K H st (⟨put (put st.r 4 pc) a (g bi st.t), st.d, st.t + 1⟩, .inp a (g st.r a) st.t) Q := by
        unfold takeB at k
        rw [if_pos ht, if_pos ht] at k
        exact k
      refine ⟨_, rfl, _, rfl, ab, _, rfl, .inl (x12.seq hab), _, _, rfl, rfl, _, rfl, ifT (by rw [List.length_map]; exact decide_eq_true ht) ⟨_, rfl, _, rfl, ab, _, _, _, rfl, rfl, x12.seq hab, g_at t0 ht, ?_⟩⟩
      refine ⟨_, rfl, _, rfl, .ref ar, st.r, 4, pc, rfl, dp_same x12 (dp_ints hr1), by decide, by omega, by omega, fun u1 H3 s3 d3 => ?_⟩
      refine ⟨_, rfl, _, rfl, u1, put st.r 4 pc, a, g bi st.t, rfl, d3, a0, by rw [put_len]; omega, by rw [put_len]; omega, fun u2 H4 s4 d4 => ?_⟩
      have x34 := s3.trans s4
      refine ⟨_, rfl, _, rfl, _, rfl, _, rfl, _, rfl, ab, _, rfl, .inl ((x12.trans x34).seq hab), _, _, rfl, rfl, .inr ⟨_, rfl, _, _, rfl, rfl, (show 3 ≤ sizeLine by decide), fun t3 n3 => ?_⟩⟩
      have et : st.t + (if decide (st.t < ((bi.map V.int).length : Int)) = true then 1 else 0) = st.t + 1 := by rw [List.length_map, decide_eq_true ht]; rfl
      have dt : ∀ Hx : Hp, Dp K Hx (V.int (st.t + (if decide (st.t < ((bi.map V.int).length : Int)) = true then 1 else 0))) (.int (st.t + 1)) := fun _ => by
        rw [et]
        exact .int _
      have x5 := same_new (o := HO.tup [u2, V.ref ad, V.int (st.t + (if decide (st.t < ((bi.map V.int).length : Int)) = true then 1 else 0))]) n3
      refine ⟨_, rfl, (show 2 ≤ sizeLine by decide), fun t4 n4 => ?_⟩
      have x6 := same_new (o := HO.tup [V.ref t3, V.ref t2]) n4
      refine k _ _ (((x12.trans x34).trans x5).trans x6) (.tup (SqT.of upd_same) (.cons (.tup (SqT.of (x6 _ _ upd_same)) (.cons (dp_same (x5.trans x6) d4) (.cons (dp_same (((x12.trans x34).trans x5).trans x6) (dp_ints hd1)) (.cons (dt _) .nil)))) (.cons (.tup (SqT.of (((x34.trans x5).trans x6) _ _ upd_same)) (.cons (.int _) (.cons (.tup (SqT.of ((((x2.trans x34).trans x5).trans x6) _ _ upd_same)) (.cons (.str _) (.cons (.int _) (.cons (.int _) (.cons (.int _) .nil))))) .nil))) .nil)))
    · have z0 : True := trivial
      have k : KStep K H st (⟨put (put st.r 4 pc) a (0), st.d, st.t + 0⟩, .inp a (g st.r a) st.t) Q := by
        unfold takeB at k
        rw [if_neg ht, if_neg ht] at k
        exact k
      refine ⟨_, rfl, _, rfl, ab, _, rfl, .inl (x12.seq hab), _, _, rfl, rfl, _, rfl, ifF (by rw [List.length_map]; exact decide_eq_false ht) ?_⟩
      refine ⟨_, rfl, _, rfl, .ref ar, st.r, 4, pc, rfl, dp_same x12 (dp_ints hr1), by decide, by omega, by omega, fun u1 H3 s3 d3 => ?_⟩
      refine ⟨_, rfl, _, rfl, u1, put st.r 4 pc, a, 0, rfl, d3, a0, by rw [put_len]; omega, by rw [put_len]; omega, fun u2 H4 s4 d4 => ?_⟩
      have x34 := s3.trans s4
      refine ⟨_, rfl, _, rfl, _, rfl, _, rfl, _, rfl, ab, _, rfl, .inl ((x12.trans x34).seq hab), _, _, rfl, rfl, .inr ⟨_, rfl, _, _, rfl, rfl, (show 3 ≤ sizeLine by decide), fun t3 n3 => ?_⟩⟩
      have et : st.t + (if decide (st.t < ((bi.map V.int).length : Int)) = true then 1 else 0) = st.t + 0 := by rw [List.length_map, decide_eq_false ht]; rfl
      have dt : ∀ Hx : Hp, Dp K Hx (V.int (st.t + (if decide (st.t < ((bi.map V.int).length : Int)) = true then 1 else 0))) (.int (st.t + 0)) := fun _ => by
        rw [et]
        exact .int _
      have x5 := same_new (o := HO.tup [u2, V.ref ad, V.int (st.t + (if decide (st.t < ((bi.map V.int).length : Int)) = true then 1 else 0))]) n3
      refine ⟨_, rfl, (show 2 ≤ sizeLine by decide), fun t4 n4 => ?_⟩
      have x6 := same_new (o := HO.tup [V.ref t3, V.ref t2]) n4
      refine k _ _ (((x12.trans x34).trans x5).trans x6) (.tup (SqT.of upd_same) (.cons (.tup (SqT.of (x6 _ _ upd_same)) (.cons (dp_same (x5.trans x6) d4) (.cons (dp_same (((x12.trans x34).trans x5).trans x6) (dp_ints hd1)) (.cons (dt _) .nil)))) (.cons (.tup (SqT.of (((x34.trans x5).trans x6) _ _ upd_same)) (.cons (.int _) (.cons (.tup (SqT.of ((((x2.trans x34).trans x5).trans x6) _ _ upd_same)) (.cons (.str _) (.cons (.int _) (.cons (.int _) (.cons (.int _) .nil))))) .nil))) .nil)))
end
end Q39




set_option pp.maxSteps 1500
namespace Q39
open PySem L2 G M40
open C8 (Cal Met Mak pe_c pe_mk pe_mt pe_mt0 pe_gc pss_cut tCut)
section
variable {P : Program} {w : World} {K : PySem.W.Frag} {mg : Str → Option Value} {base : Heap}
/-! ### moved, end_of -/
structure CalsM (P : Program) (w : World) (K : PySem.W.Frag) (mg : Str → Option Value) (base : Heap) : Prop where
  setR : Cal P w K mg base 2 "set_register" (spSetR K) []
  setD : Cal P w K mg base 2 "set_data" (spSetD K) []
  goTo : Cal P w K mg base 2 "go_to" (spGoTo K) []
  takeB : Cal P w K mg base 2 "take_byte" (spTakeB K) []
  res : Cal P w K mg base 1 "result_of" spRes []
def spMoved (K : PySem.W.Frag) : Sp := fun vs H Q _ => ∃ (v vb : V) (t : Addr) (s : Mc) (op a b n : Int) (bi : List Int), vs = [v, .ref t, vb] ∧ Dp K H v (stD s) ∧ Lens s ∧ 0 ≤ s.t ∧ SqT K H t [.int op, .int a, .int b, .int n] ∧ 0 ≤ a ∧ a < 4 ∧ 0 ≤ b ∧ b < 4 ∧ 0 ≤ n ∧ (op = 2 → n ≤ 8) ∧ Dp K H vb (.list (intsD bi)) ∧ KStep K H s (mv s op a b n bi) Q
theorem ok_moved {f : Addr} {fd : FuncData} (F : Fun K "moved" "moved" s_moved f fd) (T : Txt K mg) (c : CalsM P w K mg base) : FnOk P w K mg base CX0 3 f fd ["state", "fields", "bytes_in"] (spMoved K) := by
  refine F.ok sc_moved (fun vs H Q E h => ?_) (fun cdv A outer s H vs Q E hr h => ?_)
  · obtain ⟨v, vb, t, s, op, a, b, n, bi, rfl, _⟩ := h
    rfl
  · obtain ⟨v, vb, t, st, op, a, b, n, bi, rfl, hv, ⟨lr, ld⟩, t0, ht, a0, a1, b0, b1, n0, n8, hb, k⟩ := h
    have c_set_register := c.setR
    have c_set_data := c.setD
    have c_go_to := c.goTo
    have c_take_byte := c.takeB
    have c_result_of := c.res
    obtain ⟨v1, g_REGISTERS, d1⟩ := T.c_REGISTERS
    obtain ⟨v2, g_DATA, d2⟩ := T.c_DATA
    obtain ⟨v3, g_BYTE, d3⟩ := T.c_BYTE
    obtain ⟨sa, ar, ad, rfl, hs, hr1, hd1⟩ := st_dp hv
    have L : Lens st := ⟨lr, ld⟩
    refine ⟨_, (pss_cons (ps_asg (pv 1) (pg_tup rfl (pgs_cons (pg_name (i := 3) sc_moved.nd rfl (Or.inl rfl)) (pgs_cons (pg_name (i := 4) sc_moved.nd rfl (Or.inl rfl)) (pgs_cons (pg_name (i := 5) sc_moved.nd rfl (Or.inl rfl)) (pgs_cons (pg_name (i := 6) sc_moved.nd rfl (Or.inl rfl)) pgs_nil))))))
      (pss_cons (ps_asg (pv 0) (pg_tup rfl (pgs_cons (pg_name (i := 7) sc_moved.nd rfl (Or.inl rfl)) (pgs_cons (pg_name (i := 8) sc_moved.nd rfl (Or.inl rfl)) (pgs_cons (pg_name (i := 9) sc_moved.nd rfl (Or.inl rfl)) pgs_nil)))))
      (pss_cons (ps_set (i := 10) sc_moved.nd rfl (Or.inl rfl) (pe_op op_mod (pe_op op_add (pe_ix ix_tup (pv 7) (pe_gc (by rfl) g_REGISTERS) (fun _ _ => rfl)) pe_int) (pe_gc (by rfl) g_BYTE)))
      (pss_cut (ps_par (i := 11) (j := 12) (by rfl) sc_moved.nd rfl rfl (by decide) rfl rfl (pa_cons (pe_ix ix_tup (pv 7) (pv 4) (fun _ _ => rfl)) (pa_cons (pe_ix ix_tup (pv 7) (pv 5) (fun _ _ => rfl)) pa_nil)) (by rfl))
      (pss_cons (ps_if (pt_cmpR op_eq (pv 3) pe_int (nomark _)) (pss_one (ps_ret (pe_c c_set_register hr (by omega) rfl (pa_cons (pv 0) (pa_cons (pv 4) (pa_cons (pv 6) (pa_cons (pv 10) pa_nil))))))) pss_nil)
      (pss_cons (ps_if (pt_cmpR op_eq (pv 3) pe_int (nomark _)) (pss_one (ps_ret (pe_c c_set_register hr (by omega) rfl (pa_cons (pv 0) (pa_cons (pv 4) (pa_cons (pe_c c_result_of hr (by omega) rfl (pa_cons (pv 6) (pa_cons (pv 11) (pa_cons (pv 12) pa_nil)))) (pa_cons (pv 10) pa_nil))))))) pss_nil)
      (pss_cons (ps_if (pt_cmpR op_eq (pv 3) pe_int (nomark _)) (pss_one (ps_ret (pe_c c_set_register hr (by omega) rfl (pa_cons (pv 0) (pa_cons (pv 4) (pa_cons (pe_ix ix_tup (pv 8) (pe_op op_mod (pe_op op_add (pv 12) (pv 6)) (pe_gc (by rfl) g_DATA)) (fun _ _ => rfl)) (pa_cons (pv 10) pa_nil))))))) pss_nil)
      (pss_cons (ps_if (pt_cmpR op_eq (pv 3) pe_int (nomark _)) (pss_one (ps_ret (pe_c c_set_data hr (by omega) rfl (pa_cons (pv 0) (pa_cons (pe_op op_mod (pe_op op_add (pv 12) (pv 6)) (pe_gc (by rfl) g_DATA)) (pa_cons (pv 11) (pa_cons (pv 10) pa_nil))))))) pss_nil)
      (pss_cons (ps_if (pt_cmpR op_eq (pv 3) pe_int (nomark _)) (pss_one (ps_ret (pe_c c_set_register hr (by omega) rfl (pa_cons (pv 0) (pa_cons (pv 4) (pa_cons (pe_ix ix_tup (pv 8) (pe_op op_mod (pv 6) (pe_gc (by rfl) g_DATA)) (fun _ _ => rfl)) (pa_cons (pv 10) pa_nil))))))) pss_nil)
      (pss_cons (ps_if (pt_cmpR op_eq (pv 3) pe_int (nomark _)) (pss_one (ps_ret (pe_c c_set_data hr (by omega) rfl (pa_cons (pv 0) (pa_cons (pe_op op_mod (pv 6) (pe_gc (by rfl) g_DATA)) (pa_cons (pv 11) (pa_cons (pv 10) pa_nil))))))) pss_nil)
      (pss_cons (ps_if (pt_cmpR op_eq (pv 3) pe_int (nomark _)) (pss_one (ps_ret (pe_c c_go_to hr (by omega) rfl (pa_cons (pv 0) (pa_cons (pv 6) pa_nil))))) pss_nil)
      (pss_cons (ps_if (pt_cmpR op_eq (pv 3) pe_int (nomark _)) (pss_one (ps_ret (pe_c c_go_to hr (by omega) rfl (pa_cons (pv 0) (pa_cons (pe_ifExp (pt_cmpR op_eq (pv 11) pe_int (nomark _)) (pv 6) (pv 10)) pa_nil))))) pss_nil)
      (pss_cons (ps_if (pt_cmpR op_eq (pv 3) pe_int (nomark _)) (pss_one (ps_ret (pe_c c_set_register hr (by omega) rfl (pa_cons (pv 0) (pa_cons (pv 4) (pa_cons (pv 10) (pa_cons (pv 6) pa_nil))))))) pss_nil)
      (pss_cons (ps_if (pt_cmpR op_eq (pv 3) pe_int (nomark _)) (pss_one (ps_ret (pe_c c_go_to hr (by omega) rfl (pa_cons (pv 0) (pa_cons (pv 11) pa_nil))))) pss_nil)
      (pss_cons (ps_if (pt_cmpR op_eq (pv 3) pe_int (nomark _)) (pss_one (ps_ret (pe_c c_take_byte hr (by omega) rfl (pa_cons (pv 0) (pa_cons (pv 4) (pa_cons (pv 2) (pa_cons (pv 10) pa_nil))))))) pss_nil)
      (pss_one (ps_ret (pe_c c_go_to hr (by omega) rfl (pa_cons (pv 0) (pa_cons (pv 10) pa_nil)))))))))))))))))))), ?_⟩
    cases dp_int (d1 H)
    cases dp_int (d2 H)
    cases dp_int (d3 H)
    refine ⟨_, rfl, t, _, rfl, ht, rfl, ?_⟩
    refine ⟨_, _, rfl, _, _, rfl, _, _, rfl, _, _, rfl, rfl, ?_⟩
    refine ⟨_, rfl, sa, _, rfl, hs, rfl, ?_⟩
    refine ⟨_, _, rfl, _, _, rfl, _, _, rfl, rfl, ?_⟩
    refine ⟨_, rfl, ar, _, 4, _, rfl, rfl, hr1, g_at (by decide) (by omega), _, _, rfl, rfl, _, _, rfl, rfl, (show (0 : Int) < 256 by decide), ?_⟩
    refine ⟨fun σ' H' => σ' = [some (.ref sa), some (.ref t), some vb, some (.int op), some (.int a), some (.int b), some (.int n), some (.ref ar), some (.ref ad), some (.int st.t), some (.int ((g st.r 4 + 1) % 256)), some (.int (g st.r a)), some (.int (g st.r b))] ∧ H' = H, ?_, ?_⟩
    · refine ⟨_, rfl, _, rfl, ar, _, _, _, rfl, rfl, hr1, g_at a0 (by omega), _, rfl, _, rfl, ar, _, _, _, rfl, rfl, hr1, g_at b0 (by omega), _, _, rfl, rfl, rfl⟩
    rintro σ' H' ⟨rfl, rfl⟩
    unfold mv at k
    dsimp only at k
    have hm := mod64 (g st.r b + n)
    have hm2 := mod64 n
    by_cases e0 : op = 1
    · rw [if_pos e0] at k
      refine ⟨_, rfl, rfl, _, rfl, ifT (by rw [e0]; decide) ?_⟩
      refine ⟨_, rfl, _, rfl, _, rfl, _, rfl, .ref sa, st, a, n, _, rfl, hv, L, a0, by omega, k⟩
    · rw [if_neg e0] at k
      refine ⟨_, rfl, rfl, _, rfl, ifF (decide_eq_false fun z => e0 (V.int.inj z)) ?_⟩
      by_cases e1 : op = 2
      · rw [if_pos e1] at k
        refine ⟨_, rfl, rfl, _, rfl, ifT (by rw [e1]; decide) ?_⟩
        refine ⟨_, rfl, _, rfl, _, rfl, _, rfl, _, rfl, n, g st.r a, g st.r b, rfl, n0, n8 e1, fun H2 s2 => ?_⟩
        exact ⟨_, rfl, .ref sa, st, a, _, _, rfl, dp_same s2 hv, L, a0, by omega, fun u H3 s3 d3 => k u H3 (s2.trans s3) d3⟩
      · rw [if_neg e1] at k
        refine ⟨_, rfl, rfl, _, rfl, ifF (decide_eq_false fun z => e1 (V.int.inj z)) ?_⟩
        by_cases e2 : op = 3
        · rw [if_pos e2] at k
          refine ⟨_, rfl, rfl, _, rfl, ifT (by rw [e2]; decide) ?_⟩
          exact ⟨_, rfl, _, rfl, _, rfl, _, rfl, _, rfl, _, _, rfl, rfl, _, _, rfl, rfl, (show (0 : Int) < 64 by decide), ad, _, _, _, rfl, rfl, hd1, g_at hm.1 (by omega), _, rfl, .ref sa, st, a, _, _, rfl, hv, L, a0, by omega, k⟩
        · rw [if_neg e2] at k
          refine ⟨_, rfl, rfl, _, rfl, ifF (decide_eq_false fun z => e2 (V.int.inj z)) ?_⟩
          by_cases e3 : op = 4
          · rw [if_pos e3] at k
            refine ⟨_, rfl, rfl, _, rfl, ifT (by rw [e3]; decide) ?_⟩
            exact ⟨_, rfl, _, rfl, _, rfl, _, _, rfl, rfl, _, _, rfl, rfl, (show (0 : Int) < 64 by decide), _, rfl, _, rfl, .ref sa, st, _, _, _, rfl, hv, L, hm.1, hm.2, k⟩
          · rw [if_neg e3] at k
            refine ⟨_, rfl, rfl, _, rfl, ifF (decide_eq_false fun z => e3 (V.int.inj z)) ?_⟩
            by_cases e4 : op = 5
            · rw [if_pos e4] at k
              refine ⟨_, rfl, rfl, _, rfl, ifT (by rw [e4]; decide) ?_⟩
              exact ⟨_, rfl, _, rfl, _, rfl, _, rfl, _, _, rfl, rfl, (show (0 : Int) < 64 by decide), ad, _, _, _, rfl, rfl, hd1, g_at hm2.1 (by omega), _, rfl, .ref sa, st, a, _, _, rfl, hv, L, a0, by omega, k⟩
            · rw [if_neg e4] at k
              refine ⟨_, rfl, rfl, _, rfl, ifF (decide_eq_false fun z => e4 (V.int.inj z)) ?_⟩
              by_cases e5 : op = 6
              · rw [if_pos e5] at k
                refine ⟨_, rfl, rfl, _, rfl, ifT (by rw [e5]; decide) ?_⟩
                exact ⟨_, rfl, _, rfl, _, _, rfl, rfl, (show (0 : Int) < 64 by decide), _, rfl, _, rfl, .ref sa, st, _, _, _, rfl, hv, L, hm2.1, hm2.2, k⟩
              · rw [if_neg e5] at k
                refine ⟨_, rfl, rfl, _, rfl, ifF (decide_eq_false fun z => e5 (V.int.inj z)) ?_⟩
                by_cases e6 : op = 7
                · rw [if_pos e6] at k
                  refine ⟨_, rfl, rfl, _, rfl, ifT (by rw [e6]; decide) ?_⟩
                  exact ⟨_, rfl, _, rfl, .ref sa, st, _, rfl, hv, L, k⟩
                · rw [if_neg e6] at k
                  refine ⟨_, rfl, rfl, _, rfl, ifF (decide_eq_false fun z => e6 (V.int.inj z)) ?_⟩
                  by_cases e7 : op = 8
                  · rw [if_pos e7] at k
                    refine ⟨_, rfl, rfl, _, rfl, ifT (by rw [e7]; decide) ?_⟩
                    refine ⟨_, rfl, _, rfl, rfl, _, rfl, ?_⟩
                    by_cases ez : g st.r a = 0
                    · rw [if_pos ez] at k
                      exact ifT (by rw [ez]; decide) ⟨_, rfl, .ref sa, st, _, rfl, hv, L, k⟩
                    · rw [if_neg ez] at k
                      exact ifF (decide_eq_false fun z => ez (V.int.inj z)) ⟨_, rfl, .ref sa, st, _, rfl, hv, L, k⟩
                  · rw [if_neg e7] at k
                    refine ⟨_, rfl, rfl, _, rfl, ifF (decide_eq_false fun z => e7 (V.int.inj z)) ?_⟩
                    by_cases e8 : op = 9
                    · rw [if_pos e8] at k
                      refine ⟨_, rfl, rfl, _, rfl, ifT (by rw [e8]; decide) ?_⟩
                      exact ⟨_, rfl, _, rfl, _, rfl, _, rfl, .ref sa, st, a, _, _, rfl, hv, L, a0, by omega, k⟩
                    · rw [if_neg e8] at k
                      refine ⟨_, rfl, rfl, _, rfl, ifF (decide_eq_false fun z => e8 (V.int.inj z)) ?_⟩
                      by_cases e9 : op = 10
                      · rw [if_pos e9] at k
                        refine ⟨_, rfl, rfl, _, rfl, ifT (by rw [e9]; decide) ?_⟩
                        exact ⟨_, rfl, _, rfl, .ref sa, st, _, rfl, hv, L, k⟩
                      · rw [if_neg e9] at k
                        refine ⟨_, rfl, rfl, _, rfl, ifF (decide_eq_false fun z => e9 (V.int.inj z)) ?_⟩
                        by_cases e10 : op = 12
                        · rw [if_pos e10] at k
                          refine ⟨_, rfl, rfl, _, rfl, ifT (by rw [e10]; decide) ?_⟩
                          exact ⟨_, rfl, _, rfl, _, rfl, _, rfl, .ref sa, vb, st, a, _, bi, rfl, hv, L, a0, by omega, t0, hb, k⟩
                        · rw [if_neg e10] at k
                          refine ⟨_, rfl, rfl, _, rfl, ifF (decide_eq_false fun z => e10 (V.int.inj z)) ?_⟩
                          exact ⟨_, rfl, _, rfl, .ref sa, st, _, rfl, hv, L, k⟩
def endV : Option Str → V
  | some e => .str e
  | none => .non
def spEnd (K : PySem.W.Frag) : Sp := fun vs H Q _ => ∃ (t : Addr) (op a b n : Int), vs = [.ref t] ∧ SqT K H t [.int op, .int a, .int b, .int n] ∧ 0 ≤ n ∧ Q (endV (endOf op n)) H
theorem ok_end {f : Addr} {fd : FuncData} (F : Fun K "end_of" "end_of" s_end_of f fd) (T : Txt K mg) : FnOk P w K mg base CX0 1 f fd ["fields"] (spEnd K) := by
  refine F.ok sc_end_of (fun vs H Q E h => ?_) (fun cdv A outer s H vs Q E hr h => ?_)
  · obtain ⟨t, op, a, b, n, rfl, _⟩ := h
    rfl
  · obtain ⟨t, op, a, b, n, rfl, ht, n0, k⟩ := h
    obtain ⟨v1, g_ENDS, d1⟩ := T.c_ENDS
    refine ⟨_, (pss_cons (ps_asg (pv 0) (pg_tup rfl (pgs_cons (pg_name (i := 1) sc_end_of.nd rfl (Or.inl rfl)) (pgs_cons (pg_name (i := 2) sc_end_of.nd rfl (Or.inl rfl)) (pgs_cons (pg_name (i := 2) sc_end_of.nd rfl (Or.inl rfl)) (pgs_cons (pg_name (i := 3) sc_end_of.nd rfl (Or.inl rfl)) pgs_nil))))))
      (pss_cons (ps_if (pt_cmpR op_eq (pv 1) pe_int (nomark _)) (pss_one (ps_ret (pe_ifExp (pt_cmpR op_lt (pv 3) (pe_callB call_len_seq (by rfl) T.b_len boot_len' (pa_cons (pe_gc (by rfl) g_ENDS) pa_nil)) (nomark _)) (pe_ix ix_tup (pe_gc (by rfl) g_ENDS) (pv 3) (fun _ _ => rfl)) pe_str))) pss_nil)
      (pss_cons (ps_if (PW.pt (pw_or (pt_cmpR op_gt (pv 1) pe_int (nomark _)) (pw_or1 (PW.pt (pw_and (pt_cmpR op_eq (pv 1) pe_int (nomark _)) (pw_and1 (pt_cmpR op_gt (pv 3) pe_int (nomark _)))))))) (pss_one (ps_ret pe_str)) pss_nil)
      (pss_one (ps_ret pe_non))))), ?_⟩
    obtain ⟨ea, es, rfl, hea, hes⟩ := dp_tup (d1 H)
    refine ⟨_, rfl, t, _, rfl, ht, rfl, ?_⟩
    refine ⟨_, _, rfl, _, _, rfl, _, _, rfl, _, _, rfl, rfl, ?_⟩
    have e3 : ∃ w0 w1 w2 : V, es = [w0, w1, w2] ∧ w0 = .str "done" ∧ w1 = .str "zero" ∧ w2 = .str "index" := by
      cases hes with
      | cons h0 h => cases h with
        | cons h1 h => cases h with
          | cons h2 h => cases h; exact ⟨_, _, _, rfl, dp_str h0, dp_str h1, dp_str h2⟩
    obtain ⟨_, _, _, rfl, rfl, rfl, rfl⟩ := e3
    unfold endOf at k
    by_cases e0 : op = 0
    · rw [if_pos e0] at k
      refine ⟨_, rfl, rfl, _, rfl, ifT (by rw [e0]; decide) ?_⟩
      refine ⟨_, rfl, ea, _, rfl, .inr hea, _, _, rfl, rfl, _, rfl, ?_⟩
      by_cases hn : n < 3
      · rw [if_pos hn] at k
        have at_ : atI [V.str "done", V.str "zero", V.str "index"] n = some (.str (ends.getD n.toNat "")) := by
          have : n = 0 ∨ n = 1 ∨ n = 2 := by omega
          rcases this with rfl | rfl | rfl <;> rfl
        refine ifT (decide_eq_true (show n < 3 from hn)) ⟨_, rfl, ea, _, n, _, rfl, rfl, hea, at_, k⟩
      · rw [if_neg hn] at k
        exact ifF (decide_eq_false (show ¬ n < 3 from hn)) k
    · rw [if_neg e0] at k
      refine ⟨_, rfl, rfl, _, rfl, ifF (decide_eq_false fun z => e0 (V.int.inj z)) ?_⟩
      refine ⟨_, rfl, _, _, rfl, rfl, _, rfl, ?_⟩
      by_cases e1 : 12 < op
      · rw [if_pos (.inl e1)] at k
        exact ifT (decide_eq_true e1) k
      · refine ifF (decide_eq_false e1) ⟨_, rfl, rfl, _, rfl, ?_⟩
        by_cases e2 : op = 2
        · refine ifT (by rw [e2]; decide) ⟨_, rfl, _, _, rfl, rfl, _, rfl, ?_⟩
          by_cases e4 : 8 < n
          · rw [if_pos (.inr ⟨e2, e4⟩)] at k
            exact ifT (decide_eq_true e4) k
          · rw [if_neg (fun z => z.elim e1 fun z => e4 z.2)] at k
            exact ifF (decide_eq_false e4) k
        · rw [if_neg (fun z => z.elim e1 fun z => e2 z.1)] at k
          exact ifF (decide_eq_false fun z => e2 (V.int.inj z)) k
end
end Q39




set_option pp.maxSteps 1500
namespace Q39
open PySem L2 G M40
open C8 (Cal Met Mak pe_c pe_mk pe_mt pe_mt0 pe_gc pss_cut tCut)
def isTup : PyData → Bool
  | .tuple _ => true
  | _ => false
def seqD (t : Bool) (ds : List PyData) : PyData := if t = true then .tuple ds else .list ds
theorem seqD_dp {K : PySem.W.Frag} {H : Hp} {v : V} {t : Bool} {ds : List PyData} (h : Dp K H v (seqD t ds)) : ∃ (a : Addr) (xs : List V), v = .ref a ∧ (if t = true then SqT K H a xs else SqL K H a xs) ∧ DpAll K H xs ds := by
  cases t with
  | true =>
    obtain ⟨a, xs, rfl, ha, hxs⟩ := dp_tup h
    exact ⟨a, xs, rfl, ha, hxs⟩
  | false =>
    obtain ⟨a, xs, rfl, ha, hxs⟩ := dp_lst h
    exact ⟨a, xs, rfl, ha, hxs⟩
def okS (t0 t1 : Bool) (ds : List PyData) (ns : List Int) (d2 : PyData) : Bool := t0 && t1 && (decide (ds.length = 5) && ds.all byteD && countD d2) && dataB ns
section
variable {P : Program} {w : World} {K : PySem.W.Frag} {mg : Str → Option Value} {base : Heap}
/-! ### check_state -/
def spState (K : PySem.W.Frag) (C : Addr) : Sp := fun vs H Q E => ∃ (v : V) (t0 t1 : Bool) (ds : List PyData) (ns : List Int) (d2 : PyData), vs = [v] ∧ Dp K H v (.tuple [seqD t0 ds, seqD t1 (intsD ns), d2]) ∧ (∀ d ∈ ds, flatD d = true) ∧ flatD d2 = true ∧ ds.length ≤ 1000 ∧ ns.length ≤ 1000 ∧
  (okS t0 t1 ds ns d2 = true → ∀ H', Same H H' → Q .non H') ∧ (okS t0 t1 ds ns d2 = false → RaiseF C "form" H E)
theorem ok_state {C : Addr} {f : Addr} {fd : FuncData} (F : Fun K "check_state" "check_state" s_check_state f fd) (T : Txt K mg) (c_InvalidState : Erm P w K mg base 1 "InvalidState" C "what") (c_is_byte : Cal P w K mg base 1 "is_byte" (spByte K) []) (c_is_count : Cal P w K mg base 1 "is_count" (spCount K) []) (c_check_data : CalX P w K mg base 3 "check_data" (spData K C)) :
    FnOk P w K mg base (L2.CX P w) 4 f fd ["state"] (spState K C) := by
  refine F.okX sc_check_state (fun vs H Q E h => ?_) (fun cdv A outer s H vs Q E hr h => ?_)
  · obtain ⟨v, t0, t1, ds, ns, d2, rfl, _⟩ := h
    rfl
  · obtain ⟨v, t0, t1, ds, ns, d2, rfl, hv, hf, hf2, hl, hl2, ky, kn⟩ := h
    obtain ⟨v1, g_REGISTERS, dR⟩ := T.c_REGISTERS
    obtain ⟨a, xs, rfl, ha, hxs⟩ := dp_tup hv
    cases hxs with
    | cons h0 hxs =>
      cases hxs with
      | cons h1 hxs =>
        cases hxs with
        | cons h2 hxs =>
          cases hxs
          rename_i x0 x1 x2
          refine ⟨_, (pss_cons (ps_if (PW.pt (pw_or (pt_not (pt_val (pe_callB call_isi (by rfl) T.b_isinstance boot_isinstance' (pa_cons (pv 0) (pa_cons (pe_bltn (v := .ty "tuple") (by rfl) T.b_tuple boot_tuple' rfl) pa_nil))))) (pw_or1 (pt_cmpR op_ne (pe_callB call_len_seq (by rfl) T.b_len boot_len' (pa_cons (pv 0) pa_nil)) pe_int (nomark _))))) (pss_one (ps_raise rfl (takes_of rfl rfl rfl rfl) (pmk_e c_InvalidState hr (by omega) rfl (pa_cons pe_str pa_nil)))) pss_nil)
      (pss_cons (ps_if (PW.pt (pw_or (pt_not (pt_val (pe_callB call_isi (by rfl) T.b_isinstance boot_isinstance' (pa_cons (pe_ix ix_tup (pv 0) pe_int (fun _ _ => rfl)) (pa_cons (pe_bltn (v := .ty "tuple") (by rfl) T.b_tuple boot_tuple' rfl) pa_nil))))) (pw_or1 (pt_not (pt_val (pe_callB call_isi (by rfl) T.b_isinstance boot_isinstance' (pa_cons (pe_ix ix_tup (pv 0) pe_int (fun _ _ => rfl)) (pa_cons (pe_bltn (v := .ty "tuple") (by rfl) T.b_tuple boot_tuple' rfl) pa_nil)))))))) (pss_one (ps_raise rfl (takes_of rfl rfl rfl rfl) (pmk_e c_InvalidState hr (by omega) rfl (pa_cons pe_str pa_nil)))) pss_nil)
      (pss_cons (ps_if (PW.pt (pw_or (pt_cmpR op_ne (pe_callB call_len_seq (by rfl) T.b_len boot_len' (pa_cons (pe_ix ix_tup (pv 0) pe_int (fun _ _ => rfl)) pa_nil)) (pe_op op_add (pe_gc (by rfl) g_REGISTERS) pe_int) (nomark _)) (pw_or (pt_not (pt_val (pe_callB (cr_all rfl) (by rfl) T.b_all boot_all' (pa_cons (pe_lc (own := [("value", 1)]) rfl sc_check_state.nd (pi_tup (pe_ix ix_tup (pv 0) pe_int (fun _ _ => rfl))) (blkOk_by (own := [("value", 1)]) (N := ["state", "value"]) (sc := defScope s_check_state) (by decide +kernel)) (fun _ _ _ _ _ => (pg_name (i := 1) sc_check_state.nd rfl (Or.inl rfl))) (fun _ _ _ _ _ => pts_nil) (fun _ _ _ _ _ => (pe_c c_is_byte hr (by omega) rfl (pa_cons (pv 1) pa_nil)))) pa_nil)))) (pw_or1 (pt_not (pt_val (pe_c c_is_count hr (by omega) rfl (pa_cons (pe_ix ix_tup (pv 0) pe_int (fun _ _ => rfl)) pa_nil)))))))) (pss_one (ps_raise rfl (takes_of rfl rfl rfl rfl) (pmk_e c_InvalidState hr (by omega) rfl (pa_cons pe_str pa_nil)))) pss_nil)
      (pss_one (ps_expr (pe_cx c_check_data hr (by omega) rfl (takes_of rfl rfl rfl rfl) (pa_cons (pe_ix ix_tup (pv 0) pe_int (fun _ _ => rfl)) pa_nil))))))), ?_⟩
          cases dp_int (dR H)
          refine ⟨_, rfl, _, _, _, _, _, rfl, .ty _, dp_ty hv, kitD K _ _ (by decide), _, rfl, ?_⟩
          refine iteF ?_
          refine ⟨_, rfl, a, _, rfl, .inr ha, rfl, _, rfl, ?_⟩
          refine ifF (ne_int0 rfl) ?_
          refine ⟨_, rfl, a, _, 0, _, rfl, rfl, ha, atI_nat (j := 0) rfl, _, _, _, _, _, rfl, .ty _, dp_ty h0, kitD K _ _ (by decide), _, rfl, ?_⟩
          cases t0 with
          | false =>
            refine iteT ?_
            exact ⟨_, rfl, fun d hd => (kn rfl).here (Same.refl _) hd⟩
          | true =>
            refine iteF ?_
            refine ⟨_, rfl, a, _, 1, _, rfl, rfl, ha, atI_nat (j := 1) rfl, _, _, _, _, _, rfl, .ty _, dp_ty h1, kitD K _ _ (by decide), _, rfl, ?_⟩
            cases t1 with
            | false =>
              refine iteT ?_
              exact ⟨_, rfl, fun d hd => (kn rfl).here (Same.refl _) hd⟩
            | true =>
              refine iteF ?_
              obtain ⟨b0, ys0, rfl, hb0, hys0⟩ := dp_tup h0
              obtain ⟨b1, ys1, rfl, hb1, hys1⟩ := dp_tup h1
              cases dps_ints_of hys1
              have yl := dps_len hys0
              have ok : okS true true ds ns d2 = ((decide (ds.length = 5) && ds.all byteD && countD d2) && dataB ns) := rfl
              rw [ok] at ky kn
              refine ⟨_, rfl, a, _, 0, _, rfl, rfl, ha, atI_nat (j := 0) rfl, b0, _, rfl, .inr hb0, ?_⟩
              refine ⟨_, _, rfl, rfl, rfl, _, rfl, ?_⟩
              rw [yl]
              by_cases hn : ds.length = 5
              · refine ifF (ne_int0 (by omega)) ?_
                refine ⟨_, rfl, a, _, 0, _, rfl, rfl, ha, atI_nat (j := 0) rfl, b0, rfl, ⟨_, hb0⟩, fun D hD => ?_⟩
                refine lc_dataT (K := K) (a := b0) (xs := ys0) (ds := ds) (fun _ => true) (fun d => .bool (byteD d)) hb0 hys0 hD (by omega) ?_ ?_
                · intro v d G acc R dm hv sG hG ha2 _ hyes
                  refine ⟨rfl, _, rfl, v, d, rfl, dp_same (same_new hG) hv, hf d dm, acc, upd_same, ha2, ?_⟩
                  rw [upd_app]
                  exact hyes rfl G _ (Same.refl _) hG (.bl _)
                intro G ys sG hG hys
                rw [List.filter_eq_self.mpr fun _ _ => rfl, show ds.map (fun d => PyData.bool (byteD d)) = (ds.map byteD).map PyData.bool by rw [List.map_map]; rfl] at hys
                cases dps_bl_of hys
                have sD : Same H (upd G D (.lst ((ds.map byteD).map V.bl))) := sG.trans (same_new hG)
                refine ⟨D, _, rfl, SqL.of upd_same, _, rfl, ?_⟩
                have e : ((ds.map byteD).all id) = ds.all byteD := by
                  rw [List.all_map]
                  rfl
                rw [e]
                rw [decide_eq_true hn, Bool.true_and] at ky kn
                by_cases ha3 : ds.all byteD = true
                · rw [ha3, Bool.true_and] at ky kn
                  refine ifF (by rw [ha3]; rfl) ?_
                  refine ⟨_, rfl, a, _, 2, _, rfl, rfl, Same.tup sD ha, atI_nat (j := 2) rfl, x2, d2, rfl, dp_same sD h2, hf2, ?_⟩
                  by_cases hc : countD d2 = true
                  · rw [hc, Bool.true_and] at ky kn
                    refine ⟨_, rfl, ifF (show (!countD d2) = false by rw [hc]; rfl) ?_⟩
                    refine ⟨_, rfl, a, _, 1, _, rfl, rfl, Same.tup sD ha, atI_nat (j := 1) rfl, .ref b1, ns, rfl, ⟨b1, rfl, .inr (Same.tup sD hb1)⟩, hl2, fun e H' s' => ky e _ (sD.trans s'), fun e => (kn e).later sD⟩
                  · have hc := Bool.eq_false_iff.mpr hc
                    rw [hc, Bool.false_and] at kn
                    refine ⟨_, rfl, ifT (show (!countD d2) = true by rw [hc]; rfl) ?_⟩
                    exact ⟨_, rfl, fun d hd => (kn rfl).here sD hd⟩
                · have ha3 := Bool.eq_false_iff.mpr ha3
                  rw [ha3, Bool.false_and, Bool.false_and] at kn
                  refine ifT (by rw [ha3]; rfl) ?_
                  exact ⟨_, rfl, fun d hd => (kn rfl).here sD hd⟩
              · refine ifT (ne_int (by omega)) ?_
                rw [decide_eq_false hn, Bool.false_and, Bool.false_and, Bool.false_and] at kn
                exact ⟨_, rfl, fun d hd => (kn rfl).here (Same.refl _) hd⟩
end
end Q39




set_option pp.maxSteps 1500
namespace Q39
open PySem L2 G M40
open C8 (Cal Met Mak pe_c pe_mk pe_mt pe_mt0 pe_gc pss_cut tCut)
def optI : Option Int → PyData
  | some i => .int i
  | none => .none
def onceD (ws : List Int) (s : Mc) (bi : List Int) : PyData :=
  match endAt ws s with
  | some e => .tuple [stD s, .none, .str e, rowD (g s.r 4, .non)]
  | none => .tuple [stD (nxt ws s bi).1, optI (nxt ws s bi).2.1, .none, rowD (nxt ws s bi).2.2]
theorem wordB_ok {x : Int} (h : 0 ≤ x ∧ x ≤ 65535) : wordB x = true := by
  unfold wordB
  rw [decide_eq_true h.1, decide_eq_true h.2]
  rfl
section
variable {P : Program} {w : World} {K : PySem.W.Frag} {mg : Str → Option Value} {base : Heap}
theorem nums_ix {H : Hp} {a : Addr} {ws : List Int} {i : Int} {Q : VK} (h : SqL K H a (ws.map V.int) ∨ SqT K H a (ws.map V.int)) (h0 : 0 ≤ i) (h1 : i < ws.length) (q : Q (.int (g ws i)) H) : rIx K (.ref a) (.int i) H Q := by
  rcases h with h | h
  · exact .inl ⟨a, _, i, _, rfl, rfl, h, g_at h0 h1, q⟩
  · exact .inr (.inl ⟨a, _, i, _, rfl, rfl, h, g_at h0 h1, q⟩)
/-! ### once -/
structure CalsO (P : Program) (w : World) (K : PySem.W.Frag) (mg : Str → Option Value) (base : Heap) : Prop where
  fields : CalX P w K mg base 4 "fields_of" (spFields K)
  endOf : Cal P w K mg base 1 "end_of" (spEnd K) []
  moved : Cal P w K mg base 3 "moved" (spMoved K) []
def spOnce (K : PySem.W.Frag) : Sp := fun vs H Q _ => ∃ (vw v vb : V) (ws bi : List Int) (s : Mc), vs = [vw, v, vb] ∧ Nums K H vw ws ∧ Wds ws ∧ Dp K H v (stD s) ∧ Good s ∧ Dp K H vb (.list (intsD bi)) ∧ ∀ (u : V) (H' : Hp), Same H H' → Dp K H' u (onceD ws s bi) → Q u H'
theorem ok_once {f : Addr} {fd : FuncData} (F : Fun K "once" "once" s_once f fd) (T : Txt K mg) (c : CalsO P w K mg base) :
    FnOk P w K mg base (L2.CX P w) 5 f fd ["words", "state", "bytes_in"] (spOnce K) := by
  refine F.okX sc_once (fun vs H Q E h => ?_) (fun cdv A outer s H vs Q E hr h => ?_)
  · obtain ⟨vw, v, vb, ws, bi, s, rfl, _⟩ := h
    rfl
  · obtain ⟨vw, v, vb, ws, bi, st, rfl, hw, wd, hv, hg, hb, k⟩ := h
    obtain ⟨v1, g_REGISTERS, dR⟩ := T.c_REGISTERS
    have c_fields_of := c.fields
    have c_end_of := c.endOf
    have c_moved := c.moved
    obtain ⟨sa, ar, ad, rfl, hs, hr1, hd1⟩ := st_dp hv
    obtain ⟨aw, rfl, haw⟩ := hw
    have lr := hg.lr
    refine ⟨_, (pss_cons (ps_set (i := 3) sc_once.nd rfl (Or.inl rfl) (pe_ix ix_tup (pe_ix ix_tup (pv 1) pe_int (fun _ _ => rfl)) (pe_gc (by rfl) g_REGISTERS) (fun _ _ => rfl)))
      (pss_cons (ps_set (i := 4) sc_once.nd rfl (Or.inl rfl) (pe_cx c_fields_of hr (by omega) rfl (takes_of rfl rfl rfl rfl) (pa_cons (pe_ifExp (pt_cmpR op_lt (pv 3) (pe_callB call_len_seq (by rfl) T.b_len boot_len' (pa_cons (pv 0) pa_nil)) (nomark _)) (pe_ix ix_seq (pv 0) (pv 3) (fun _ _ => rfl)) pe_int) pa_nil)))
      (pss_cons (ps_set (i := 5) sc_once.nd rfl (Or.inl rfl) (pe_c c_end_of hr (by omega) rfl (pa_cons (pv 4) pa_nil)))
      (pss_cons (ps_if (pt_cmpR op_notN (pv 5) pe_non (nomark _)) (pss_one (ps_ret (pe_tup (pa_cons (pv 1) (pa_cons pe_non (pa_cons (pv 5) (pa_cons (pe_tup (pa_cons (pv 3) (pa_cons (pe_tup pa_nil) pa_nil))) pa_nil))))))) pss_nil)
      (pss_cons (ps_asg (pe_c c_moved hr (by omega) rfl (pa_cons (pv 1) (pa_cons (pv 4) (pa_cons (pv 2) pa_nil)))) (pg_tup rfl (pgs_cons (pg_name (i := 6) sc_once.nd rfl (Or.inl rfl)) (pgs_cons (pg_name (i := 7) sc_once.nd rfl (Or.inl rfl)) pgs_nil))))
      (pss_one (ps_ret (pe_tup (pa_cons (pv 6) (pa_cons (pe_ifExp (pt_cmpR op_eq (pe_ix ix_tup (pv 4) pe_int (fun _ _ => rfl)) pe_int (nomark _)) (pe_ix ix_tup (pe_ix ix_tup (pv 1) pe_int (fun _ _ => rfl)) (pe_ix ix_tup (pv 4) pe_int (fun _ _ => rfl)) (fun _ _ => rfl)) pe_non) (pa_cons pe_non (pa_cons (pv 7) pa_nil)))))))))))), ?_⟩
    cases dp_int (dR H)
    refine ⟨_, rfl, sa, _, 0, _, rfl, rfl, hs, atI_nat (j := 0) rfl, ar, _, 4, _, rfl, rfl, hr1, g_at (by decide) (by omega), ?_⟩
    have hwd : wordB (wordAt ws st) = true := wordB_ok (word_ok wd st)
    have F := flds (word_ok wd st)
    have g0 : 0 ≤ g st.r 4 := (hg.br.g 4).1
    refine ⟨_, rfl, _, rfl, aw, _, rfl, haw, _, _, rfl, rfl, _, rfl, ?_⟩
    rw [List.length_map]
    by_cases hlt : g st.r 4 < ws.length
    · have ew : wordAt ws st = g ws (g st.r 4) := if_pos hlt
      refine ifT (decide_eq_true hlt) ⟨_, rfl, _, rfl, nums_ix haw g0 hlt ?_⟩
      refine ⟨wordAt ws st, by rw [ew], hwd, fun t H1 s1 ht => ?_⟩
      clear ew
      refine ⟨_, rfl, t, _, _, _, _, rfl, SqT.of ht, F.n.1, ?_⟩
      refine ⟨_, rfl, rfl, _, rfl, ?_⟩
      have ee : endOf (fop (wordAt ws st)) (fn (wordAt ws st)) = endAt ws st := rfl
      rw [ee]
      unfold onceD at k
      cases e : endAt ws st with
      | some z =>
        rw [e] at k
        refine ifT rfl ?_
        refine ⟨_, rfl, _, rfl, _, rfl, (show 0 ≤ sizeLine by decide), fun t1 n1 => ⟨(show 2 ≤ sizeLine by decide), fun t2 n2 => ⟨(show 4 ≤ sizeLine by decide), fun t3 n3 => ?_⟩⟩⟩
        have x1 := same_new (o := HO.tup []) n1
        have x2 := same_new (o := HO.tup [V.int (g st.r 4), V.ref t1]) n2
        have x3 := same_new (o := HO.tup [V.ref sa, .non, .str z, V.ref t2]) n3
        refine k _ _ (((s1.trans x1).trans x2).trans x3) (.tup (SqT.of upd_same) (.cons (dp_same (((s1.trans x1).trans x2).trans x3) hv) (.cons .non (.cons (.str _) (.cons (.tup (SqT.of (x3 _ _ upd_same)) (.cons (.int _) (.cons (.tup (SqT.of ((x2.trans x3) _ _ upd_same)) .nil) .nil))) .nil)))))
      | none =>
        rw [e] at k
        refine ifF rfl ?_
        have n8 : fop (wordAt ws st) = 2 → fn (wordAt ws st) ≤ 8 := fun e2 => by
          unfold endAt endOf at e
          rw [if_neg (by omega)] at e
          by_cases q : 8 < fn (wordAt ws st)
          · rw [if_pos (.inr ⟨e2, q⟩)] at e
            cases e
          · omega
        refine ⟨_, rfl, _, rfl, _, rfl, .ref sa, vb, t, st, _, _, _, _, bi, rfl, dp_same s1 hv, ⟨hg.lr, hg.ld⟩, hg.t0, SqT.of ht, F.a.1, F.a.2, F.b.1, F.b.2, F.n.1, n8, dp_same s1 hb, fun u H2 s2 d2 => ?_⟩
        obtain ⟨z, xs, rfl, hz, hxs⟩ := dp_tup d2
        cases hxs with
        | cons q1 hxs => cases hxs with
          | cons q2 hxs =>
            cases hxs
            rename_i y1 y2
            refine ⟨z, _, rfl, hz, rfl, ?_⟩
            refine ⟨_, _, rfl, _, _, rfl, rfl, ?_⟩
            have ht2 := SqT.of (K := K) (s2 _ _ ht)
            refine ⟨_, rfl, _, rfl, t, _, 0, _, rfl, rfl, ht2, atI_nat (j := 0) rfl, rfl, _, rfl, ?_⟩
            by_cases e11 : fop (wordAt ws st) = 11
            · refine ifT (by rw [e11]; decide) ?_
              refine ⟨_, rfl, sa, _, 0, _, rfl, rfl, Same.tup (s1.trans s2) hs, atI_nat (j := 0) rfl, _, rfl, t, _, 1, _, rfl, rfl, ht2, atI_nat (j := 1) rfl, ar, _, _, _, rfl, rfl, Same.tup (s1.trans s2) hr1, g_at F.a.1 (by have := F.a.2; omega), _, rfl, (show 4 ≤ sizeLine by decide), fun t3 n3 => ?_⟩
              have x3 := same_new (o := HO.tup [y1, V.int (g st.r (fa (wordAt ws st))), V.non, y2]) n3
              refine k _ _ ((s1.trans s2).trans x3) (.tup (SqT.of upd_same) (.cons (dp_same x3 q1) (.cons ?_ (.cons .non (.cons (dp_same x3 q2) .nil)))))
              unfold nxt
              dsimp only
              rw [if_pos e11]
              exact .int _
            · refine ifF (decide_eq_false fun z => e11 (V.int.inj z)) ?_
              refine ⟨_, rfl, (show 4 ≤ sizeLine by decide), fun t3 n3 => ?_⟩
              have x3 := same_new (o := HO.tup [y1, V.non, V.non, y2]) n3
              refine k _ _ ((s1.trans s2).trans x3) (.tup (SqT.of upd_same) (.cons (dp_same x3 q1) (.cons ?_ (.cons .non (.cons (dp_same x3 q2) .nil)))))
              unfold nxt
              dsimp only
              rw [if_neg e11]
              exact .non
    · have ew : wordAt ws st = 0 := if_neg hlt
      refine ifF (decide_eq_false hlt) ?_
      refine ⟨wordAt ws st, by rw [ew], hwd, fun t H1 s1 ht => ?_⟩
      clear ew
      refine ⟨_, rfl, t, _, _, _, _, rfl, SqT.of ht, F.n.1, ?_⟩
      refine ⟨_, rfl, rfl, _, rfl, ?_⟩
      have ee : endOf (fop (wordAt ws st)) (fn (wordAt ws st)) = endAt ws st := rfl
      rw [ee]
      unfold onceD at k
      cases e : endAt ws st with
      | some z =>
        rw [e] at k
        refine ifT rfl ?_
        refine ⟨_, rfl, _, rfl, _, rfl, (show 0 ≤ sizeLine by decide), fun t1 n1 => ⟨(show 2 ≤ sizeLine by decide), fun t2 n2 => ⟨(show 4 ≤ sizeLine by decide), fun t3 n3 => ?_⟩⟩⟩
        have x1 := same_new (o := HO.tup []) n1
        have x2 := same_new (o := HO.tup [V.int (g st.r 4), V.ref t1]) n2
        have x3 := same_new (o := HO.tup [V.ref sa, .non, .str z, V.ref t2]) n3
        refine k _ _ (((s1.trans x1).trans x2).trans x3) (.tup (SqT.of upd_same) (.cons (dp_same (((s1.trans x1).trans x2).trans x3) hv) (.cons .non (.cons (.str _) (.cons (.tup (SqT.of (x3 _ _ upd_same)) (.cons (.int _) (.cons (.tup (SqT.of ((x2.trans x3) _ _ upd_same)) .nil) .nil))) .nil)))))
      | none =>
        rw [e] at k
        refine ifF rfl ?_
        have n8 : fop (wordAt ws st) = 2 → fn (wordAt ws st) ≤ 8 := fun e2 => by
          unfold endAt endOf at e
          rw [if_neg (by omega)] at e
          by_cases q : 8 < fn (wordAt ws st)
          · rw [if_pos (.inr ⟨e2, q⟩)] at e
            cases e
          · omega
        refine ⟨_, rfl, _, rfl, _, rfl, .ref sa, vb, t, st, _, _, _, _, bi, rfl, dp_same s1 hv, ⟨hg.lr, hg.ld⟩, hg.t0, SqT.of ht, F.a.1, F.a.2, F.b.1, F.b.2, F.n.1, n8, dp_same s1 hb, fun u H2 s2 d2 => ?_⟩
        obtain ⟨z, xs, rfl, hz, hxs⟩ := dp_tup d2
        cases hxs with
        | cons q1 hxs => cases hxs with
          | cons q2 hxs =>
            cases hxs
            rename_i y1 y2
            refine ⟨z, _, rfl, hz, rfl, ?_⟩
            refine ⟨_, _, rfl, _, _, rfl, rfl, ?_⟩
            have ht2 := SqT.of (K := K) (s2 _ _ ht)
            refine ⟨_, rfl, _, rfl, t, _, 0, _, rfl, rfl, ht2, atI_nat (j := 0) rfl, rfl, _, rfl, ?_⟩
            by_cases e11 : fop (wordAt ws st) = 11
            · refine ifT (by rw [e11]; decide) ?_
              refine ⟨_, rfl, sa, _, 0, _, rfl, rfl, Same.tup (s1.trans s2) hs, atI_nat (j := 0) rfl, _, rfl, t, _, 1, _, rfl, rfl, ht2, atI_nat (j := 1) rfl, ar, _, _, _, rfl, rfl, Same.tup (s1.trans s2) hr1, g_at F.a.1 (by have := F.a.2; omega), _, rfl, (show 4 ≤ sizeLine by decide), fun t3 n3 => ?_⟩
              have x3 := same_new (o := HO.tup [y1, V.int (g st.r (fa (wordAt ws st))), V.non, y2]) n3
              refine k _ _ ((s1.trans s2).trans x3) (.tup (SqT.of upd_same) (.cons (dp_same x3 q1) (.cons ?_ (.cons .non (.cons (dp_same x3 q2) .nil)))))
              unfold nxt
              dsimp only
              rw [if_pos e11]
              exact .int _
            · refine ifF (decide_eq_false fun z => e11 (V.int.inj z)) ?_
              refine ⟨_, rfl, (show 4 ≤ sizeLine by decide), fun t3 n3 => ?_⟩
              have x3 := same_new (o := HO.tup [y1, V.non, V.non, y2]) n3
              refine k _ _ ((s1.trans s2).trans x3) (.tup (SqT.of upd_same) (.cons (dp_same x3 q1) (.cons ?_ (.cons .non (.cons (dp_same x3 q2) .nil)))))
              unfold nxt
              dsimp only
              rw [if_neg e11]
              exact .non
end
end Q39




set_option pp.maxSteps 1500
namespace Q39
open PySem L2 G M40
open C8 (Cal Met Mak pe_c pe_mk pe_mt pe_mt0 pe_gc pss_cut tCut)
theorem wordsB_ok {ws : List Int} (h : wordsB ws = true) : ws.length ≤ 256 ∧ Wds ws := by
  unfold wordsB at h
  simp only [Bool.and_eq_true, decide_eq_true_eq] at h
  refine ⟨h.1, fun x hx => ?_⟩
  have := List.all_eq_true.mp h.2 x hx
  unfold wordB at this
  simpa using this
theorem all_byte {xs : List Int} (h : Bytes xs) : (intsD xs).all byteD = true := by
  unfold intsD
  rw [List.all_map, List.all_eq_true]
  intro x hx
  have := h x hx
  show (decide (0 ≤ x) && decide (x < 256)) = true
  rw [decide_eq_true this.1, decide_eq_true this.2]
  rfl
theorem good_okS {s : Mc} (h : Good s) : okS true true (intsD s.r) s.d (.int s.t) = true := by
  unfold okS
  rw [all_byte h.br, ints_len, decide_eq_true h.lr, show countD (.int s.t) = decide (0 ≤ s.t) from rfl, decide_eq_true h.t0]
  show dataB s.d = true
  unfold dataB
  rw [decide_eq_true h.ld, Bool.true_and, List.all_eq_true]
  intro x hx
  have := h.bd x hx
  rw [decide_eq_true this.1, decide_eq_true this.2]
  rfl
theorem flat_ints {xs : List Int} : ∀ d ∈ intsD xs, flatD d = true := fun d hd => by
  obtain ⟨x, _, rfl⟩ := List.mem_map.mp hd
  rfl
theorem noL_ints (xs : List Int) : noLs (intsD xs) = true := noLs_map fun _ _ => rfl
theorem noL_st (s : Mc) : noL (stD s) = true := by
  unfold stD
  simp [noL, noLs, noL_ints]
theorem noL_row (r : Row) : noL (rowD r) = true := by
  obtain ⟨i, w⟩ := r
  cases w <;> rfl
theorem noL_rows (l : List Row) : noLs (l.map rowD) = true := noLs_map fun r _ => noL_row r
def runD (r : Res) : PyData := .tuple [.list (intsD r.out), .str r.fin, stD r.st, .list (r.tr.map rowD)]
theorem run_len {ws bi : List Int} : ∀ (k : Nat) (s : Mc), (M40.run ws bi k s).out.length ≤ k ∧ (M40.run ws bi k s).tr.length ≤ k
  | 0, _ => ⟨Nat.le_refl _, Nat.le_refl _⟩
  | k + 1, s => by
    unfold M40.run
    cases endAt ws s with
    | some z => exact ⟨Nat.zero_le _, by simp⟩
    | none =>
      have := run_len (ws := ws) (bi := bi) k (nxt ws s bi).1
      dsimp only
      refine ⟨?_, by simp only [List.length_cons]; omega⟩
      rw [List.length_append]
      have : (nxt ws s bi).2.1.toList.length ≤ 1 := by cases (nxt ws s bi).2.1 <;> simp
      omega
theorem run_step {ws bi : List Int} {i : Nat} {s : Mc} (h : (M40.run ws bi i s).fin = "cut") (e : endAt ws (M40.run ws bi i s).st = none) : M40.run ws bi (i + 1) s = ⟨(M40.run ws bi i s).out ++ (nxt ws (M40.run ws bi i s).st bi).2.1.toList, "cut", (nxt ws (M40.run ws bi i s).st bi).1, (M40.run ws bi i s).tr ++ [(nxt ws (M40.run ws bi i s).st bi).2.2]⟩ := by
  have q : M40.run ws bi 1 (M40.run ws bi i s).st = ⟨(nxt ws (M40.run ws bi i s).st bi).2.1.toList ++ [], "cut", (nxt ws (M40.run ws bi i s).st bi).1, [(nxt ws (M40.run ws bi i s).st bi).2.2]⟩ := by
    conv => lhs; unfold M40.run
    rw [e]
    rfl
  rw [run_cut i 1 s h, q, List.append_nil]
theorem run_stop {ws bi : List Int} {i k : Nat} {s : Mc} {z : Str} (h : (M40.run ws bi i s).fin = "cut") (e : endAt ws (M40.run ws bi i s).st = some z) : M40.run ws bi (i + (k + 1)) s = ⟨(M40.run ws bi i s).out, z, (M40.run ws bi i s).st, (M40.run ws bi i s).tr ++ [(g (M40.run ws bi i s).st.r 4, .non)]⟩ := by
  have q : M40.run ws bi (k + 1) (M40.run ws bi i s).st = ⟨[], z, (M40.run ws bi i s).st, [(g (M40.run ws bi i s).st.r 4, .non)]⟩ := by
    conv => lhs; unfold M40.run
    rw [e]
  rw [run_cut i (k + 1) s h, q, List.append_nil]
section
variable {P : Program} {w : World} {K : PySem.W.Frag} {mg : Str → Option Value} {base : Heap}
theorem dps4 {H : Hp} {vs : List V} {a b c d : PyData} (h : DpAll K H vs [a, b, c, d]) : ∃ y1 y2 y3 y4, vs = [y1, y2, y3, y4] ∧ Dp K H y1 a ∧ Dp K H y2 b ∧ Dp K H y3 c ∧ Dp K H y4 d := by
  cases h with
  | cons h1 h => cases h with
    | cons h2 h => cases h with
      | cons h3 h => cases h with
        | cons h4 h =>
          cases h
          exact ⟨_, _, _, _, rfl, h1, h2, h3, h4⟩
/-- the result of a run: its lists are new -/
def KRun (K : PySem.W.Frag) (H : Hp) (r : Res) (Q : VK) : Prop := ∀ (u ao at_ : Addr) (vs : V) (xt : List V) (H' : Hp), Same H H' → H ao = none → H at_ = none → ao ≠ at_ → SqT K H' u [.ref ao, .str r.fin, vs, .ref at_] → H' ao = some (.lst (r.out.map V.int)) → H' at_ = some (.lst xt) → DpAll K H' xt (r.tr.map rowD) → Dp K H' vs (stD r.st) → Q (.ref u) H'
end
end Q39

namespace Q39
open PySem L2 G M40
/-! # the law's machine: plain lemmas and its four lists -/
def fin1 (r d : List Int) (t : Int) (v : Option Int) (goal a one : Int) (wh : What) : Mc × What :=
  match v with
  | none => (⟨put r 4 (goal % 256), d, t⟩, wh)
  | some x => (⟨put (put r a (x % 256)) 4 (goal % 256), d, t⟩, .reg a one)
theorem put_comm {r : List Int} {a p v : Int} (h0 : 0 ≤ a) (h : a < 4) : put (put r 4 p) a v = put (put r a v) 4 p := by
  unfold put
  rw [List.set_comm _ _ (by omega)]
section
variable {s : Mc} {op a b n : Int} {bi : List Int} {wh : What}
theorem fin_setR {v p x goal : Int} (h0 : 0 ≤ a) (h : a < 4) (hv : v = x % 256) (hp : p = goal % 256) : setR s a v p = fin1 s.r s.d s.t (some x) goal a (g s.r a) wh := by
  unfold setR fin1
  dsimp only
  rw [put_comm h0 h, hv, hp]
theorem fin_setD {v p ad goal one : Int} (hp : p = goal % 256) : setD s ad v p = fin1 s.r (put s.d ad v) s.t none goal a one (.byt ad (g s.d ad)) := by
  unfold setD fin1
  dsimp only
  rw [hp]
theorem fin_goTo {p goal one : Int} (hp : p = goal % 256) : goTo s p = fin1 s.r s.d s.t none goal a one .non := by
  unfold goTo fin1
  dsimp only
  rw [hp]
theorem fin_takeB {p goal one : Int} (h0 : 0 ≤ a) (h : a < 4) (hp : p = goal % 256) : takeB s a bi p = fin1 (put s.r a (if s.t < bi.length then g bi s.t else 0)) s.d (s.t + (if s.t < bi.length then 1 else 0)) none goal a one (.inp a (g s.r a) s.t) := by
  unfold takeB fin1
  dsimp only
  rw [put_comm h0 h, hp]
theorem mv1 (h : op = 1) : mv s op a b n bi = setR s a n ((g s.r 4 + 1) % 256) := by subst h; rfl
theorem mv2 (h : op = 2) : mv s op a b n bi = setR s a (res n (g s.r a) (g s.r b)) ((g s.r 4 + 1) % 256) := by subst h; rfl
theorem mv3 (h : op = 3) : mv s op a b n bi = setR s a (g s.d ((g s.r b + n) % 64)) ((g s.r 4 + 1) % 256) := by subst h; rfl
theorem mv4 (h : op = 4) : mv s op a b n bi = setD s ((g s.r b + n) % 64) (g s.r a) ((g s.r 4 + 1) % 256) := by subst h; rfl
theorem mv5 (h : op = 5) : mv s op a b n bi = setR s a (g s.d (n % 64)) ((g s.r 4 + 1) % 256) := by subst h; rfl
theorem mv6 (h : op = 6) : mv s op a b n bi = setD s (n % 64) (g s.r a) ((g s.r 4 + 1) % 256) := by subst h; rfl
theorem mv7 (h : op = 7) : mv s op a b n bi = goTo s n := by subst h; rfl
theorem mv8 (h : op = 8) : mv s op a b n bi = goTo s (if g s.r a = 0 then n else (g s.r 4 + 1) % 256) := by subst h; rfl
theorem mv9 (h : op = 9) : mv s op a b n bi = setR s a ((g s.r 4 + 1) % 256) n := by subst h; rfl
theorem mv10 (h : op = 10) : mv s op a b n bi = goTo s (g s.r a) := by subst h; rfl
theorem mv11 (h : op = 11) : mv s op a b n bi = goTo s ((g s.r 4 + 1) % 256) := by subst h; rfl
theorem mv12 (h : op = 12) : mv s op a b n bi = takeB s a bi ((g s.r 4 + 1) % 256) := by subst h; rfl
end
/-- the list of the law's machine -/
theorem res_at (n one two : Int) (h0 : 0 ≤ n) (h1 : n ≤ 8) : ∃ x, atI [V.int two, V.int (one + two), V.int (one - two + 256), V.int (Builtin.bitAnd one two), V.int (Builtin.bitOr one two), V.int (Builtin.bitXor one two), V.int (if decide (one < two) = true then 1 else 0), V.int (if decide (V.int one = V.int two) = true then 1 else 0), V.int (two / 2)] n = some (.int x) ∧ res n one two = x % 256 := by
  have e1 : (if decide (one < two) = true then (1 : Int) else 0) = if one < two then 1 else 0 := by simp
  have e2 : (if decide (V.int one = V.int two) = true then (1 : Int) else 0) = if one = two then 1 else 0 := by simp
  rw [e1, e2]
  have : n = 0 ∨ n = 1 ∨ n = 2 ∨ n = 3 ∨ n = 4 ∨ n = 5 ∨ n = 6 ∨ n = 7 ∨ n = 8 := by omega
  rcases this with rfl | rfl | rfl | rfl | rfl | rfl | rfl | rfl | rfl
  · exact ⟨_, rfl, rfl⟩
  · exact ⟨_, rfl, rfl⟩
  · refine ⟨_, rfl, ?_⟩
    show (one - two) % 256 = (one - two + 256) % 256
    omega
  all_goals exact ⟨_, rfl, rfl⟩
theorem end_at {op n : Int} (h : op = 0) (h0 : 0 ≤ n) : ∃ z, endOf op n = some z ∧ atI [V.str "done", V.str "zero", V.str "index", V.str "wrong"] (if 3 < n then 3 else n) = some (.str z) := by
  unfold endOf
  rw [if_pos h]
  refine ⟨_, rfl, ?_⟩
  by_cases c : n < 3
  · rw [if_pos c, if_neg (by omega)]
    have : n = 0 ∨ n = 1 ∨ n = 2 := by omega
    rcases this with rfl | rfl | rfl <;> rfl
  · rw [if_neg c]
    by_cases d : 3 < n
    · rw [if_pos d]
      rfl
    · have : n = 3 := by omega
      rw [if_neg d, this]
      rfl
theorem four_six (t : Int) : ([PyData.int 4, .int 6].any fun z => PyData.eqv z (.int t)) = (decide (t = 4) || decide (t = 6)) := by
  have h : ∀ x : Int, PyData.eqv (.int x) (.int t) = decide (t = x) := fun x => by
    show decide (x = t) = decide (t = x)
    exact decide_eq_decide.mpr ⟨Eq.symm, Eq.symm⟩
  rw [List.any_cons, List.any_cons, List.any_nil, h, h, Bool.or_false]
theorem ixN_of {n : Nat} {k : Int} (h0 : 0 ≤ k) (h : k < n) : ixN n k = some k.toNat := by
  obtain ⟨j, rfl⟩ := Int.eq_ofNat_of_zero_le h0
  exact ixN_at (by omega)
theorem noL_what (w : What) : noL (whatD w) = true := by cases w <;> rfl
def optV : Option Int → V
  | none => .non
  | some x => .int x
theorem out_no {l : List Int} {op x : Int} (h : op ≠ 11) : l = l ++ (if op = 11 then some x else none).toList := by
  rw [if_neg h]
  exact (List.append_nil l).symm
theorem good_mv {s : Mc} {op a b m : Int} {bi : List Int} (h : Good s) (a0 : 0 ≤ a) (a1 : a < 4) : (mv s op a b m bi).1.r.length = 5 := by
  have l := h.lr
  exact mv_all (P := fun m => m.1.r.length = 5) (by simp [setR, put_len, l]) (by simp [setR, put_len, l]) (by simp [setR, put_len, l]) (by simp [setD, put_len, l]) (by simp [setR, put_len, l]) (by simp [setD, put_len, l]) (by simp [goTo, put_len, l]) (by simp [goTo, put_len, l]) (by simp [setR, put_len, l]) (by simp [goTo, put_len, l]) (by simp [takeB, put_len, l]) (by simp [goTo, put_len, l])
/-- where the machine's four lists lie -/
structure Plc (H : Hp) (pr pd po pt : Addr) : Prop where
  r0 : H pr = none
  d0 : H pd = none
  o0 : H po = none
  t0 : H pt = none
  rd : pr ≠ pd
  ro : pr ≠ po
  rt : pr ≠ pt
  od : pd ≠ po
  dt : pd ≠ pt
  ot : po ≠ pt
/-- the machine's four lists -/
structure Mst (K : PySem.W.Frag) (H : Hp) (pr pd po pt : Addr) (xt : List V) (rr dd oo : List Int) (tr : List Row) (H' : Hp) : Prop where
  sH : Same H H'
  r : H' pr = some (.lst (rr.map V.int))
  d : H' pd = some (.lst (dd.map V.int))
  o : H' po = some (.lst (oo.map V.int))
  t : H' pt = some (.lst xt)
  x : DpAll K H' xt (tr.map rowD)
section
variable {K : PySem.W.Frag} {H H' H2 : Hp} {pr pd po pt : Addr} {xt : List V} {rr dd oo : List Int} {tr : List Row}
theorem Mst.same (M : Mst K H pr pd po pt xt rr dd oo tr H') (s : Same H' H2) : Mst K H pr pd po pt xt rr dd oo tr H2 :=
  ⟨M.sH.trans s, s _ _ M.r, s _ _ M.d, s _ _ M.o, s _ _ M.t, dps_same s M.x⟩
theorem Mst.as {R : Res} {z : Str} {t : Int} (M : Mst K H pr pd po pt xt rr dd oo tr H') (e : R = ⟨oo, z, ⟨rr, dd, t⟩, tr⟩) : Mst K H pr pd po pt xt R.st.r R.st.d R.out R.tr H' := by
  subst e
  exact M
theorem Mst.setR (C : Plc H pr pd po pt) (M : Mst K H pr pd po pt xt rr dd oo tr H') (a v : Int) : Mst K H pr pd po pt xt (put rr a v) dd oo tr (upd H' pr (.lst ((rr.map V.int).set a.toNat (V.int v)))) :=
  ⟨same_mut M.sH C.r0, by rw [upd_same, ← List.map_set]; rfl, by rw [upd_ne (Ne.symm C.rd)]; exact M.d, by rw [upd_ne (Ne.symm C.ro)]; exact M.o, by rw [upd_ne (Ne.symm C.rt)]; exact M.t, dps_keep (KeepT.mut (H := H) M.r) (noL_rows _) M.x⟩
theorem Mst.setD (C : Plc H pr pd po pt) (M : Mst K H pr pd po pt xt rr dd oo tr H') (a v : Int) : Mst K H pr pd po pt xt rr (put dd a v) oo tr (upd H' pd (.lst ((dd.map V.int).set a.toNat (V.int v)))) :=
  ⟨same_mut M.sH C.d0, by rw [upd_ne C.rd]; exact M.r, by rw [upd_same, ← List.map_set]; rfl, by rw [upd_ne (Ne.symm C.od)]; exact M.o, by rw [upd_ne (Ne.symm C.dt)]; exact M.t, dps_keep (KeepT.mut (H := H) M.d) (noL_rows _) M.x⟩
theorem Mst.addO (C : Plc H pr pd po pt) (M : Mst K H pr pd po pt xt rr dd oo tr H') (v : Int) : Mst K H pr pd po pt xt rr dd (oo ++ [v]) tr (upd H' po (.lst (oo.map V.int ++ [V.int v]))) :=
  ⟨same_mut M.sH C.o0, by rw [upd_ne C.ro]; exact M.r, by rw [upd_ne C.od]; exact M.d, by rw [upd_same, List.map_append]; rfl, by rw [upd_ne (Ne.symm C.ot)]; exact M.t, dps_keep (KeepT.mut (H := H) M.o) (noL_rows _) M.x⟩
theorem Mst.addT (C : Plc H pr pd po pt) (M : Mst K H pr pd po pt xt rr dd oo tr H') {v : V} {w : Row} (h : Dp K H' v (rowD w)) : Mst K H pr pd po pt (xt ++ [v]) rr dd oo (tr ++ [w]) (upd H' pt (.lst (xt ++ [v]))) :=
  ⟨same_mut M.sH C.t0, by rw [upd_ne C.rt]; exact M.r, by rw [upd_ne C.dt]; exact M.d, by rw [upd_ne C.ot]; exact M.o, upd_same, by
    rw [List.map_append]
    exact dps_snoc (dps_keep (KeepT.mut (H := H) M.t) (noL_rows _) M.x) (dp_keep (KeepT.mut (H := H) M.t) (noL_row _) h)⟩
/-- the result's tuples -/
theorem Mst.fin {l1 l2 t3 t4 : Addr} {t : Int} {z : Str} (M : Mst K H pr pd po pt xt rr dd oo tr H') (n1 : H' l1 = none) (n2 : upd H' l1 (.tup (rr.map V.int)) l2 = none)
    (n3 : upd (upd H' l1 (.tup (rr.map V.int))) l2 (.tup (dd.map V.int)) t3 = none) (n4 : upd (upd (upd H' l1 (.tup (rr.map V.int))) l2 (.tup (dd.map V.int))) t3 (.tup [.ref l1, .ref l2, .int t]) t4 = none) :
    Same H (upd (upd (upd (upd H' l1 (.tup (rr.map V.int))) l2 (.tup (dd.map V.int))) t3 (.tup [.ref l1, .ref l2, .int t])) t4 (.tup [.ref po, .str z, .ref t3, .ref pt])) ∧
    SqT K (upd (upd (upd (upd H' l1 (.tup (rr.map V.int))) l2 (.tup (dd.map V.int))) t3 (.tup [.ref l1, .ref l2, .int t])) t4 (.tup [.ref po, .str z, .ref t3, .ref pt])) t4 [.ref po, .str z, .ref t3, .ref pt] ∧ (upd (upd (upd (upd H' l1 (.tup (rr.map V.int))) l2 (.tup (dd.map V.int))) t3 (.tup [.ref l1, .ref l2, .int t])) t4 (.tup [.ref po, .str z, .ref t3, .ref pt])) po = some (.lst (oo.map V.int)) ∧ (upd (upd (upd (upd H' l1 (.tup (rr.map V.int))) l2 (.tup (dd.map V.int))) t3 (.tup [.ref l1, .ref l2, .int t])) t4 (.tup [.ref po, .str z, .ref t3, .ref pt])) pt = some (.lst xt) ∧ DpAll K (upd (upd (upd (upd H' l1 (.tup (rr.map V.int))) l2 (.tup (dd.map V.int))) t3 (.tup [.ref l1, .ref l2, .int t])) t4 (.tup [.ref po, .str z, .ref t3, .ref pt])) xt (tr.map rowD) ∧ Dp K (upd (upd (upd (upd H' l1 (.tup (rr.map V.int))) l2 (.tup (dd.map V.int))) t3 (.tup [.ref l1, .ref l2, .int t])) t4 (.tup [.ref po, .str z, .ref t3, .ref pt])) (.ref t3) (stD ⟨rr, dd, t⟩) := by
  have x1 := same_new (o := HO.tup (rr.map V.int)) n1
  have x2 := same_new (o := HO.tup (dd.map V.int)) n2
  have x3 := same_new (o := HO.tup [V.ref l1, V.ref l2, V.int t]) n3
  have x4 := same_new (o := HO.tup [V.ref po, V.str z, V.ref t3, V.ref pt]) n4
  have M4 := M.same (((x1.trans x2).trans x3).trans x4)
  exact ⟨M4.sH, SqT.of upd_same, M4.o, M4.t, M4.x, .tup (SqT.of (x4 _ _ upd_same)) (.cons (.tup (SqT.of (((x2.trans x3).trans x4) _ _ upd_same)) (dps_ints _)) (.cons (.tup (SqT.of ((x3.trans x4) _ _ upd_same)) (dps_ints _)) (.cons (.int _) .nil)))⟩
end
end Q39




set_option pp.maxSteps 2500
namespace Q39
open PySem L2 G M40
open C8 (Cal Met Mak pe_c pe_mk pe_mt pe_mt0 pe_gc pss_cut tCut)
section
variable {P : Program} {w : World} {K : PySem.W.Frag} {mg : Str → Option Value} {base : Heap}
/-! ### _law_machine -/
def spMach (K : PySem.W.Frag) : Sp := fun vs H Q _ => ∃ (vw vr vd vb : V) (ws bi : List Int) (s : Mc) (n : Nat), vs = [vw, vr, vd, .int s.t, vb, .int n] ∧ Dp K H vw (.list (intsD ws)) ∧ Dp K H vr (.tuple (intsD s.r)) ∧ Dp K H vd (.tuple (intsD s.d)) ∧ Dp K H vb (.list (intsD bi)) ∧ ws.length ≤ 1000 ∧ Wds ws ∧ Good s ∧ Bytes bi ∧ n ≤ 1000 ∧ KRun K H (M40.run ws bi n s) Q
theorem ok_mach {f : Addr} {fd : FuncData} (F : Fun K "_law_machine" "_law_machine" s__law_machine f fd) (T : Txt K mg) :
    FnOk P w K mg base CX0 2 f fd ["words", "registers", "data", "taken", "bytes_in", "most"] (spMach K) := by
  refine F.ok sc__law_machine (fun vs H Q E h => ?_) (fun cdv A outer s H vs Q E hr h => ?_)
  · obtain ⟨vw, vr, vd, vb, ws, bi, s, n, rfl, _⟩ := h
    rfl
  · obtain ⟨vw, vr, vd, vb, ws, bi, st, n, rfl, hw, hrr, hdd, hb, wl, wd, hg, hbb, hn, k⟩ := h
    have hu65 := hu65_of hr
    obtain ⟨aw, xw, rfl, haw, hxw⟩ := dp_lst hw
    obtain ⟨ar, xr, rfl, har, hxr⟩ := dp_tup hrr
    obtain ⟨ad, xd, rfl, had, hxd⟩ := dp_tup hdd
    obtain ⟨ab, xb, rfl, hab, hxb⟩ := dp_lst hb
    cases dps_ints_of hxw
    cases dps_ints_of hxr
    cases dps_ints_of hxd
    cases dps_ints_of hxb
    refine ⟨_, (pss_cons (ps_set (i := 6) sc__law_machine.nd rfl (Or.inl rfl) (pe_callTy call_list_of (by rfl) T.b_list boot_list' (pa_cons (pv 1) pa_nil)))
      (pss_cons (ps_set (i := 2) sc__law_machine.nd rfl (Or.inl rfl) (pe_callTy call_list_of (by rfl) T.b_list boot_list' (pa_cons (pv 2) pa_nil)))
      (pss_cons (ps_set (i := 7) sc__law_machine.nd rfl (Or.inl rfl) (pe_lst pa_nil))
      (pss_cons (ps_set (i := 8) sc__law_machine.nd rfl (Or.inl rfl) (pe_lst pa_nil))
      (pss_cons (ps_for PassesOwn.never rfl (pi_range1 (by rfl) T.b_range (pa_cons (pv 5) pa_nil)) (pg_name (i := 9) sc__law_machine.nd rfl (Or.inl rfl)) (pss_cons (ps_set (i := 10) sc__law_machine.nd rfl (Or.inl rfl) (pe_ix ix_list (pv 6) pe_int (fun _ _ => rfl)))
      (pss_cut (ps_set (i := 11) sc__law_machine.nd rfl (Or.inl rfl) (pe_ifExp (pt_cmpR op_lt (pv 10) (pe_callB call_len_seq (by rfl) T.b_len boot_len' (pa_cons (pv 0) pa_nil)) (nomark _)) (pe_ix ix_list (pv 0) (pv 10) (fun _ _ => rfl)) pe_int))
      (pss_cons (ps_asg (pe_tup (pa_cons (pe_op op_fdiv (pv 11) pe_int) (pa_cons (pe_op op_sub (pe_op op_fdiv (pv 11) pe_int) (pe_op op_mul (pe_op op_fdiv (pv 11) pe_int) pe_int)) (pa_cons (pe_op op_sub (pe_op op_fdiv (pv 11) pe_int) (pe_op op_mul (pe_op op_fdiv (pv 11) pe_int) pe_int)) (pa_cons (pe_op op_sub (pv 11) (pe_op op_mul (pe_op op_fdiv (pv 11) pe_int) pe_int)) pa_nil))))) (pg_tup rfl (pgs_cons (pg_name (i := 12) sc__law_machine.nd rfl (Or.inl rfl)) (pgs_cons (pg_name (i := 13) sc__law_machine.nd rfl (Or.inl rfl)) (pgs_cons (pg_name (i := 14) sc__law_machine.nd rfl (Or.inl rfl)) (pgs_cons (pg_name (i := 15) sc__law_machine.nd rfl (Or.inl rfl)) pgs_nil))))))
      (pss_cons (ps_set (i := 16) sc__law_machine.nd rfl (Or.inl rfl) (pe_tup pa_nil))
      (pss_cut (ps_set (i := 17) sc__law_machine.nd rfl (Or.inl rfl) (pe_op op_add (pv 10) pe_int))
      (pss_cut (ps_if (PW.pt (pw_or (pt_cmpR op_eq (pv 12) pe_int (nomark _)) (pw_or (pt_cmpR op_gt (pv 12) pe_int (nomark _)) (pw_or1 (PW.pt (pw_and (pt_cmpR op_eq (pv 12) pe_int (nomark _)) (pw_and1 (pt_cmpR op_gt (pv 15) pe_int (nomark _))))))))) (pss_cons (ps_expr (pe_bm PySem.F.plainAttrs_list PySem.F.slot_list_append PySem.F.type_list_append mt_append (pv 8) (pa_cons (pe_tup (pa_cons (pv 10) (pa_cons (pe_tup pa_nil) pa_nil))) pa_nil)))
      (pss_cons (ps_set (i := 18) sc__law_machine.nd rfl (Or.inl rfl) (pe_ix ix_list (pe_lst (pa_cons pe_str (pa_cons pe_str (pa_cons pe_str (pa_cons pe_str pa_nil))))) (pe_ifExp (pt_cmpR op_eq (pv 12) pe_int (nomark _)) (pe_callB (call_min2 rfl) (by rfl) T.b_min boot_min' (pa_cons (pv 15) (pa_cons pe_int pa_nil))) pe_int) (fun _ _ => rfl)))
      (pss_one (ps_ret (pe_tup (pa_cons (pv 7) (pa_cons (pv 18) (pa_cons (pe_tup (pa_cons (pe_callTy call_tuple_of (by rfl) T.b_tuple boot_tuple' (pa_cons (pv 6) pa_nil)) (pa_cons (pe_callTy call_tuple_of (by rfl) T.b_tuple boot_tuple' (pa_cons (pv 2) pa_nil)) (pa_cons (pv 3) pa_nil)))) (pa_cons (pv 8) pa_nil))))))))) pss_nil)
      (pss_cut (ps_par (i := 19) (j := 20) (by rfl) sc__law_machine.nd rfl rfl (by decide) rfl rfl (pa_cons (pe_ix ix_list (pv 6) (pv 13) (fun _ _ => rfl)) (pa_cons (pe_ix ix_list (pv 6) (pv 14) (fun _ _ => rfl)) pa_nil)) (by rfl))
      (pss_cons (ps_set (i := 21) sc__law_machine.nd rfl (Or.inl rfl) pe_non)
      (pss_cut (ps_if (pt_cmpR op_eq (pv 12) pe_int (nomark _)) (pss_one (ps_set (i := 21) sc__law_machine.nd rfl (Or.inl rfl) (pv 15))) (pss_one (ps_if (pt_cmpR op_eq (pv 12) pe_int (nomark _)) (pss_one (ps_set (i := 21) sc__law_machine.nd rfl (Or.inl rfl) (pe_ix ix_list (pe_lst (pa_cons (pv 20) (pa_cons (pe_op op_add (pv 19) (pv 20)) (pa_cons (pe_op op_add (pe_op op_sub (pv 19) (pv 20)) pe_int) (pa_cons (pe_op op_and (pv 19) (pv 20)) (pa_cons (pe_op op_or (pv 19) (pv 20)) (pa_cons (pe_op op_xor (pv 19) (pv 20)) (pa_cons (pe_callTy call_int1 (by rfl) T.b_int boot_int' (pa_cons (pe_cmpR op_lt (pv 19) (pv 20) (nomark _)) pa_nil)) (pa_cons (pe_callTy call_int1 (by rfl) T.b_int boot_int' (pa_cons (pe_cmpR op_eq (pv 19) (pv 20) (nomark _)) pa_nil)) (pa_cons (pe_op op_fdiv (pv 20) pe_int) pa_nil)))))))))) (pv 15) (fun _ _ => rfl)))) (pss_one (ps_if (pt_cmpR op_eq (pv 12) pe_int (nomark _)) (pss_one (ps_set (i := 21) sc__law_machine.nd rfl (Or.inl rfl) (pe_ix ix_list (pv 2) (pe_op op_sub (pe_op op_add (pv 20) (pv 15)) (pe_op op_mul (pe_op op_fdiv (pe_op op_add (pv 20) (pv 15)) pe_int) pe_int)) (fun _ _ => rfl)))) (pss_one (ps_if (pt_cmpR (op_inT hu65) (pv 12) (pe_tup (pa_cons pe_int (pa_cons pe_int pa_nil))) rfl) (pss_cons (ps_set (i := 22) sc__law_machine.nd rfl (Or.inl rfl) (pe_ifExp (pt_cmpR op_eq (pv 12) pe_int (nomark _)) (pe_op op_add (pv 20) (pv 15)) (pv 15)))
      (pss_cons (ps_set (i := 22) sc__law_machine.nd rfl (Or.inl rfl) (pe_op op_sub (pv 22) (pe_op op_mul (pe_op op_fdiv (pv 22) pe_int) pe_int)))
      (pss_cons (ps_set (i := 16) sc__law_machine.nd rfl (Or.inl rfl) (pe_tup (pa_cons pe_str (pa_cons (pv 22) (pa_cons (pe_ix ix_list (pv 2) (pv 22) (fun _ _ => rfl)) pa_nil)))))
      (pss_one (ps_asg (pv 19) (pg_sub (pv 2) (pv 22) set_list)))))) (pss_one (ps_if (pt_cmpR op_eq (pv 12) pe_int (nomark _)) (pss_one (ps_set (i := 21) sc__law_machine.nd rfl (Or.inl rfl) (pe_ix ix_list (pv 2) (pe_op op_sub (pv 15) (pe_op op_mul (pe_op op_fdiv (pv 15) pe_int) pe_int)) (fun _ _ => rfl)))) (pss_one (ps_if (PW.pt (pw_or (pt_cmpR op_eq (pv 12) pe_int (nomark _)) (pw_or1 (PW.pt (pw_and (pt_cmpR op_eq (pv 12) pe_int (nomark _)) (pw_and1 (pt_cmpR op_eq (pv 19) pe_int (nomark _)))))))) (pss_one (ps_set (i := 17) sc__law_machine.nd rfl (Or.inl rfl) (pv 15))) (pss_one (ps_if (pt_cmpR op_eq (pv 12) pe_int (nomark _)) (pss_cons (ps_set (i := 21) sc__law_machine.nd rfl (Or.inl rfl) (pe_op op_add (pv 10) pe_int))
      (pss_one (ps_set (i := 17) sc__law_machine.nd rfl (Or.inl rfl) (pv 15)))) (pss_one (ps_if (pt_cmpR op_eq (pv 12) pe_int (nomark _)) (pss_one (ps_set (i := 17) sc__law_machine.nd rfl (Or.inl rfl) (pv 19))) (pss_one (ps_if (pt_cmpR op_eq (pv 12) pe_int (nomark _)) (pss_one (ps_expr (pe_bm PySem.F.plainAttrs_list PySem.F.slot_list_append PySem.F.type_list_append mt_append (pv 7) (pa_cons (pv 19) pa_nil)))) (pss_one (ps_if (pt_cmpR op_eq (pv 12) pe_int (nomark _)) (pss_cons (ps_set (i := 16) sc__law_machine.nd rfl (Or.inl rfl) (pe_tup (pa_cons pe_str (pa_cons (pv 13) (pa_cons (pv 19) (pa_cons (pv 3) pa_nil))))))
      (pss_cons (ps_asg (pe_ifExp (pt_cmpR op_lt (pv 3) (pe_callB call_len_seq (by rfl) T.b_len boot_len' (pa_cons (pv 4) pa_nil)) (nomark _)) (pe_ix ix_list (pv 4) (pv 3) (fun _ _ => rfl)) pe_int) (pg_sub (pv 6) (pv 13) set_list))
      (pss_one (ps_set (i := 3) sc__law_machine.nd rfl (Or.inl rfl) (pe_op op_add (pv 3) (pe_callTy call_int1 (by rfl) T.b_int boot_int' (pa_cons (pe_cmpR op_lt (pv 3) (pe_callB call_len_seq (by rfl) T.b_len boot_len' (pa_cons (pv 4) pa_nil)) (nomark _)) pa_nil))))))) pss_nil)))))))))))))))))))
      (pss_cut (ps_if (pt_cmpR op_notN (pv 21) pe_non (nomark _)) (pss_cons (ps_set (i := 16) sc__law_machine.nd rfl (Or.inl rfl) (pe_tup (pa_cons pe_str (pa_cons (pv 13) (pa_cons (pv 19) pa_nil)))))
      (pss_one (ps_asg (pe_op op_sub (pv 21) (pe_op op_mul (pe_op op_fdiv (pv 21) pe_int) pe_int)) (pg_sub (pv 6) (pv 13) set_list)))) pss_nil)
      (pss_cons (ps_asg (pe_op op_sub (pv 17) (pe_op op_mul (pe_op op_fdiv (pv 17) pe_int) pe_int)) (pg_sub (pv 6) pe_int set_list))
      (pss_one (ps_expr (pe_bm PySem.F.plainAttrs_list PySem.F.slot_list_append PySem.F.type_list_append mt_append (pv 8) (pa_cons (pe_tup (pa_cons (pv 10) (pa_cons (pv 16) pa_nil))) pa_nil))))))))))))))))
      (pss_one (ps_ret (pe_tup (pa_cons (pv 7) (pa_cons pe_str (pa_cons (pe_tup (pa_cons (pe_callTy call_tuple_of (by rfl) T.b_tuple boot_tuple' (pa_cons (pv 6) pa_nil)) (pa_cons (pe_callTy call_tuple_of (by rfl) T.b_tuple boot_tuple' (pa_cons (pv 2) pa_nil)) (pa_cons (pv 3) pa_nil)))) (pa_cons (pv 8) pa_nil)))))))))))), ?_⟩
    refine ⟨_, rfl, ar, _, rfl, .inr har, fun pr npr => ?_⟩
    refine ⟨_, rfl, ad, _, rfl, .inr (Same.tup (same_new npr) had), fun pd npd => ?_⟩
    refine ⟨Nat.zero_le _, fun po npo => ⟨Nat.zero_le _, fun pt npt => ?_⟩⟩
    have xr1 := same_new (o := HO.lst (st.r.map V.int)) npr
    have xd1 := same_new (o := HO.lst (st.d.map V.int)) npd
    have xo1 := same_new (o := HO.lst []) npo
    have xt1 := same_new (o := HO.lst []) npt
    have C : Plc H pr pd po pt := ⟨npr, none_of_same xr1 npd, none_of_same (xr1.trans xd1) npo, none_of_same ((xr1.trans xd1).trans xo1) npt, (fun z => by rw [← z, upd_same] at npd; cases npd), (fun z => by rw [← z, xd1 _ _ upd_same] at npo; cases npo),
      (fun z => by rw [← z, (xd1.trans xo1) _ _ upd_same] at npt; cases npt), (fun z => by rw [← z, upd_same] at npo; cases npo), (fun z => by rw [← z, xo1 _ _ upd_same] at npt; cases npt), (fun z => by rw [← z, upd_same] at npt; cases npt)⟩
    refine ⟨_, rfl, n, rfl, by omega, by omega, for_range (lo := 0) (n := ((n : Nat) : Int).toNat) (fun i σ H' => ∃ (xt : List V) (o9 o10 o11 o12 o13 o14 o15 o16 o17 o18 o19 o20 o21 o22 : Option V), σ = [some (.ref aw), some (.ref ar), some (.ref pd), some (.int (M40.run ws bi i st).st.t), some (.ref ab), some (.int n), some (.ref pr), some (.ref po), some (.ref pt), o9, o10, o11, o12, o13, o14, o15, o16, o17, o18, o19, o20, o21, o22] ∧ Mst K H pr pd po pt xt (M40.run ws bi i st).st.r (M40.run ws bi i st).st.d (M40.run ws bi i st).out (M40.run ws bi i st).tr H' ∧ (M40.run ws bi i st).fin = "cut")
      ⟨[], none, none, none, none, none, none, none, none, none, none, none, none, none, none, rfl, ⟨((xr1.trans xd1).trans xo1).trans xt1, ((xd1.trans xo1).trans xt1) _ _ upd_same, (xo1.trans xt1) _ _ upd_same, xt1 _ _ upd_same, upd_same, .nil⟩, rfl⟩ ?_ ?_⟩
    · rintro i σ H' hi ⟨xt, o9, o10, o11, o12, o13, o14, o15, o16, o17, o18, o19, o20, o21, o22, rfl, M, hcut⟩
      have hin : i < n := by omega
      have gi := run_good wd hbb i hg
      have li := run_len (ws := ws) (bi := bi) i st
      have lr := gi.lr
      have ld := gi.ld
      have bp := gi.br.g 4
      have hwd := word_ok wd (M40.run ws bi i st).st
      have FL := flds hwd
      refine ⟨_, rfl, pr, _, 4, _, rfl, rfl, SqL.of M.r, g_at (by decide) (by omega), ?_⟩
      refine ⟨fun σ' H'' => σ' = [some (.ref aw), some (.ref ar), some (.ref pd), some (.int (M40.run ws bi i st).st.t), some (.ref ab), some (.int n), some (.ref pr), some (.ref po), some (.ref pt), some (.int (0 + (i : Int))), some (.int (g (M40.run ws bi i st).st.r 4)), some (.int (wordAt ws (M40.run ws bi i st).st)), o12, o13, o14, o15, o16, o17, o18, o19, o20, o21, o22] ∧ H'' = H', ?_, ?_⟩
      · by_cases hlt : g (M40.run ws bi i st).st.r 4 < ws.length
        · refine ⟨_, rfl, _, rfl, aw, _, rfl, .inl (M.sH.seq haw), _, _, rfl, rfl, _, rfl, ifT (by rw [List.length_map]; exact decide_eq_true hlt) ⟨_, rfl, _, rfl, aw, _, _, _, rfl, rfl, M.sH.seq haw, g_at bp.1 hlt, ?_⟩⟩
          refine ⟨?_, rfl⟩
          unfold wordAt
          rw [if_pos hlt]
          rfl
        · refine ⟨_, rfl, _, rfl, aw, _, rfl, .inl (M.sH.seq haw), _, _, rfl, rfl, _, rfl, ifF (by rw [List.length_map]; exact decide_eq_false hlt) ?_⟩
          refine ⟨?_, rfl⟩
          unfold wordAt
          rw [if_neg hlt]
          rfl
      · rintro σ' H'' ⟨rfl, rfl⟩
        have eend : endAt ws (M40.run ws bi i st).st = endOf (fop (wordAt ws (M40.run ws bi i st).st)) (fn (wordAt ws (M40.run ws bi i st).st)) := rfl
        have enx : (nxt ws (M40.run ws bi i st).st bi) = ((mv (M40.run ws bi i st).st (fop (wordAt ws (M40.run ws bi i st).st)) (fa (wordAt ws (M40.run ws bi i st).st)) (fb (wordAt ws (M40.run ws bi i st).st)) (fn (wordAt ws (M40.run ws bi i st).st)) bi).1, (if fop (wordAt ws (M40.run ws bi i st).st) = 11 then some (g (M40.run ws bi i st).st.r (fa (wordAt ws (M40.run ws bi i st).st))) else none), (g (M40.run ws bi i st).st.r 4, (mv (M40.run ws bi i st).st (fop (wordAt ws (M40.run ws bi i st).st)) (fa (wordAt ws (M40.run ws bi i st).st)) (fb (wordAt ws (M40.run ws bi i st).st)) (fn (wordAt ws (M40.run ws bi i st).st)) bi).2)) := rfl
        have rstop := fun kk z => run_stop (ws := ws) (bi := bi) (k := kk) (z := z) hcut
        have rstep := run_step (ws := ws) (bi := bi) hcut
        rw [enx] at rstep
        rw [eend] at rstop rstep
        generalize eR : M40.run ws bi i st = R at *
        generalize wordAt ws R.st = wd' at *
        refine ⟨_, rfl, _, _, rfl, rfl, ⟨by decide, by decide⟩, _, rfl, _, _, rfl, rfl, ⟨by decide, by decide⟩, _, rfl, _, _, rfl, rfl, ⟨by decide, by decide⟩, _, _, rfl, rfl, .inr (by decide), _, _, rfl, rfl, _, rfl, _, _, rfl, rfl, ⟨by decide, by decide⟩, _, rfl, _, _, rfl, rfl, ⟨by decide, by decide⟩, _, _, rfl, rfl, .inr (by decide), _, _, rfl, rfl, _, rfl, _, rfl, _, _, rfl, rfl, ⟨by decide, by decide⟩, _, _, rfl, rfl, .inr (by decide), _, _, rfl, rfl, (show 4 ≤ sizeLine by decide), fun t1 n1 => ?_⟩
        refine ⟨t1, _, rfl, SqT.of upd_same, rfl, _, _, rfl, _, _, rfl, _, _, rfl, _, _, rfl, rfl, ?_⟩
        have M1 := M.same (same_new (o := HO.tup [V.int (wd' / 4096), V.int (wd' / 1024 - wd' / 4096 * 4), V.int (wd' / 256 - wd' / 1024 * 4), V.int (wd' - wd' / 256 * 256)]) n1)
        clear M
        clear n1
        generalize upd H'' t1 (HO.tup [V.int (wd' / 4096), V.int (wd' / 1024 - wd' / 4096 * 4), V.int (wd' / 256 - wd' / 1024 * 4), V.int (wd' - wd' / 256 * 256)]) = H1 at M1 ⊢
        refine ⟨(show 0 ≤ sizeLine by decide), fun t2 n2 => ?_⟩
        have M2 := M1.same (same_new (o := HO.tup []) n2)
        clear M1
        refine ⟨fun σ' H' => ∃ op a b m : Int, σ' = [some (.ref aw), some (.ref ar), some (.ref pd), some (.int R.st.t), some (.ref ab), some (.int n), some (.ref pr), some (.ref po), some (.ref pt), some (.int (0 + (i : Int))), some (.int (g R.st.r 4)), some (.int wd'), some (.int op), some (.int a), some (.int b), some (.int m), some (.ref t2), some (.int (g R.st.r 4 + 1)), o18, o19, o20, o21, o22] ∧ op = fop wd' ∧ a = fa wd' ∧ b = fb wd' ∧ m = fn wd' ∧ H' = upd H1 t2 (.tup []), ?_, ?_⟩
        · refine ⟨_, rfl, _, _, rfl, rfl, _, _, _, _, rfl, rfl, ?_, ?_, ?_, rfl⟩
          · unfold fa; omega
          · unfold fb; omega
          · unfold fn; omega
        rintro σ' H' ⟨op, a, b, m, rfl, eop, ea, eb, em, rfl⟩
        rw [← eop, ← ea, ← eb, ← em] at rstep
        rw [← eop, ← em] at rstop
        obtain ⟨⟨op0, op1⟩, ⟨a0, a1⟩, ⟨b0, b1⟩, ⟨m0, m1⟩⟩ := FL
        rw [← eop] at op0 op1
        rw [← ea] at a0 a1
        rw [← eb] at b0 b1
        rw [← em] at m0 m1
        have dw : Dp K (upd H1 t2 (.tup [])) (.ref t2) (whatD .non) := .tup (SqT.of upd_same) .nil
        clear eop ea eb em
        generalize upd H1 t2 (.tup []) = H2 at M2 dw
        clear n2
        have trl : xt.length ≤ 1000 := by rw [dps_len M2.x, List.length_map]; omega
        have sc0 : Plc H pr pd po pt := C
        refine ⟨fun σ' H' => (σ' = [some (.ref aw), some (.ref ar), some (.ref pd), some (.int R.st.t), some (.ref ab), some (.int n), some (.ref pr), some (.ref po), some (.ref pt), some (.int (0 + (i : Int))), some (.int (g R.st.r 4)), some (.int wd'), some (.int op), some (.int a), some (.int b), some (.int m), some (.ref t2), some (.int (g R.st.r 4 + 1)), o18, o19, o20, o21, o22] ∧ H' = H2) ∧ op ≠ 0 ∧ op ≤ 12 ∧ (op = 2 → m ≤ 8), ?_, ?_⟩
        · by_cases e0 : op = 0
          · obtain ⟨z, ez, at_⟩ := end_at e0 m0
            refine ⟨_, rfl, rfl, _, rfl, ifT (by rw [e0]; decide) ?_⟩
            refine ifT rfl ?_
            refine ⟨_, rfl, .inl ⟨rfl, _, SqL.of M2.t⟩, _, rfl, (show 0 ≤ sizeLine by decide), fun t3 n3 => ⟨(show 2 ≤ sizeLine by decide), fun t4 n4 => ?_⟩⟩
            have M3 := M2.same ((same_new (o := HO.tup []) n3).trans (same_new (o := HO.tup [V.int (g R.st.r 4), V.ref t3]) n4))
            have d4 : Dp K (upd (upd H2 t3 (.tup [])) t4 (.tup [.int (g R.st.r 4), .ref t3])) (.ref t4) (rowD (g R.st.r 4, .non)) := .tup (SqT.of upd_same) (.cons (.int _) (.cons (.tup (SqT.of (same_new n4 _ _ upd_same)) .nil) .nil))
            have M4 := M3.addT C d4
            refine ⟨_, _, _, rfl, rfl, M3.t, size_lt (by omega), ?_⟩
            refine ⟨(show 4 ≤ sizeLine by decide), fun tl nl => ?_⟩
            have M5 := M4.same (same_new (o := HO.lst [V.str "done", V.str "zero", V.str "index", V.str "wrong"]) nl)
            refine ⟨_, rfl, rfl, _, rfl, ifT (by rw [e0]; decide) ⟨_, rfl, _, _, rfl, tl, _, _, _, rfl, rfl, SqL.of upd_same, at_, ?_⟩⟩
            refine ⟨_, rfl, _, rfl, _, rfl, pr, _, rfl, .inl ⟨SqL.of M5.r, fun l1 n1 => ?_⟩⟩
            have y1 := same_new (o := HO.tup (R.st.r.map V.int)) n1
            refine ⟨_, rfl, pd, _, rfl, .inl ⟨SqL.of (M5.same y1).d, fun l2 n2 => ?_⟩⟩
            refine ⟨_, rfl, (show 3 ≤ sizeLine by decide), fun t5 n5 => ⟨_, rfl, (show 4 ≤ sizeLine by decide), fun t6 n6 => ?_⟩⟩
            obtain ⟨sf, df⟩ := M5.fin (z := z) n1 n2 n5 n6
            obtain ⟨kk, rfl⟩ : ∃ kk, n = i + (kk + 1) := ⟨n - i - 1, by omega⟩
            rw [rstop kk (z) ez] at k
            exact k _ po pt _ _ _ sf C.o0 C.t0 C.ot df.1 df.2.1 df.2.2.1 df.2.2.2.1 df.2.2.2.2
          · refine ⟨_, rfl, rfl, _, rfl, ifF (decide_eq_false fun z => e0 (V.int.inj z)) ⟨_, rfl, _, _, rfl, rfl, _, rfl, ?_⟩⟩
            by_cases e1 : 12 < op
            · have ez : endOf op m = some ("wrong" : Str) := by unfold endOf; rw [if_neg e0, if_pos (.inl e1)]
              refine ifT (decide_eq_true e1) (ifT rfl ?_)
              refine ⟨_, rfl, .inl ⟨rfl, _, SqL.of M2.t⟩, _, rfl, (show 0 ≤ sizeLine by decide), fun t3 n3 => ⟨(show 2 ≤ sizeLine by decide), fun t4 n4 => ?_⟩⟩
              have M3 := M2.same ((same_new (o := HO.tup []) n3).trans (same_new (o := HO.tup [V.int (g R.st.r 4), V.ref t3]) n4))
              have d4 : Dp K (upd (upd H2 t3 (.tup [])) t4 (.tup [.int (g R.st.r 4), .ref t3])) (.ref t4) (rowD (g R.st.r 4, .non)) := .tup (SqT.of upd_same) (.cons (.int _) (.cons (.tup (SqT.of (same_new n4 _ _ upd_same)) .nil) .nil))
              have M4 := M3.addT C d4
              refine ⟨_, _, _, rfl, rfl, M3.t, size_lt (by omega), ?_⟩
              refine ⟨(show 4 ≤ sizeLine by decide), fun tl nl => ?_⟩
              have M5 := M4.same (same_new (o := HO.lst [V.str "done", V.str "zero", V.str "index", V.str "wrong"]) nl)
              refine ⟨_, rfl, rfl, _, rfl, ifF (decide_eq_false fun z => e0 (V.int.inj z)) ⟨tl, _, 3, V.str "wrong", rfl, rfl, SqL.of upd_same, rfl, ?_⟩⟩
              refine ⟨_, rfl, _, rfl, _, rfl, pr, _, rfl, .inl ⟨SqL.of M5.r, fun l1 n1 => ?_⟩⟩
              have y1 := same_new (o := HO.tup (R.st.r.map V.int)) n1
              refine ⟨_, rfl, pd, _, rfl, .inl ⟨SqL.of (M5.same y1).d, fun l2 n2 => ?_⟩⟩
              refine ⟨_, rfl, (show 3 ≤ sizeLine by decide), fun t5 n5 => ⟨_, rfl, (show 4 ≤ sizeLine by decide), fun t6 n6 => ?_⟩⟩
              obtain ⟨sf, df⟩ := M5.fin (z := "wrong") n1 n2 n5 n6
              obtain ⟨kk, rfl⟩ : ∃ kk, n = i + (kk + 1) := ⟨n - i - 1, by omega⟩
              rw [rstop kk ("wrong") ez] at k
              exact k _ po pt _ _ _ sf C.o0 C.t0 C.ot df.1 df.2.1 df.2.2.1 df.2.2.2.1 df.2.2.2.2
            · refine ifF (decide_eq_false e1) ⟨_, rfl, rfl, _, rfl, ?_⟩
              by_cases e2 : op = 2
              · refine ifT (by rw [e2]; decide) ⟨_, rfl, _, _, rfl, rfl, _, rfl, ?_⟩
                by_cases e4 : 8 < m
                · have ez : endOf op m = some ("wrong" : Str) := by unfold endOf; rw [if_neg e0, if_pos (.inr ⟨e2, e4⟩)]
                  refine ifT (decide_eq_true e4) ?_
                  refine ⟨_, rfl, .inl ⟨rfl, _, SqL.of M2.t⟩, _, rfl, (show 0 ≤ sizeLine by decide), fun t3 n3 => ⟨(show 2 ≤ sizeLine by decide), fun t4 n4 => ?_⟩⟩
                  have M3 := M2.same ((same_new (o := HO.tup []) n3).trans (same_new (o := HO.tup [V.int (g R.st.r 4), V.ref t3]) n4))
                  have d4 : Dp K (upd (upd H2 t3 (.tup [])) t4 (.tup [.int (g R.st.r 4), .ref t3])) (.ref t4) (rowD (g R.st.r 4, .non)) := .tup (SqT.of upd_same) (.cons (.int _) (.cons (.tup (SqT.of (same_new n4 _ _ upd_same)) .nil) .nil))
                  have M4 := M3.addT C d4
                  refine ⟨_, _, _, rfl, rfl, M3.t, size_lt (by omega), ?_⟩
                  refine ⟨(show 4 ≤ sizeLine by decide), fun tl nl => ?_⟩
                  have M5 := M4.same (same_new (o := HO.lst [V.str "done", V.str "zero", V.str "index", V.str "wrong"]) nl)
                  refine ⟨_, rfl, rfl, _, rfl, ifF (decide_eq_false fun z => e0 (V.int.inj z)) ⟨tl, _, 3, V.str "wrong", rfl, rfl, SqL.of upd_same, rfl, ?_⟩⟩
                  refine ⟨_, rfl, _, rfl, _, rfl, pr, _, rfl, .inl ⟨SqL.of M5.r, fun l1 n1 => ?_⟩⟩
                  have y1 := same_new (o := HO.tup (R.st.r.map V.int)) n1
                  refine ⟨_, rfl, pd, _, rfl, .inl ⟨SqL.of (M5.same y1).d, fun l2 n2 => ?_⟩⟩
                  refine ⟨_, rfl, (show 3 ≤ sizeLine by decide), fun t5 n5 => ⟨_, rfl, (show 4 ≤ sizeLine by decide), fun t6 n6 => ?_⟩⟩
                  obtain ⟨sf, df⟩ := M5.fin (z := "wrong") n1 n2 n5 n6
                  obtain ⟨kk, rfl⟩ : ∃ kk, n = i + (kk + 1) := ⟨n - i - 1, by omega⟩
                  rw [rstop kk ("wrong") ez] at k
                  exact k _ po pt _ _ _ sf C.o0 C.t0 C.ot df.1 df.2.1 df.2.2.1 df.2.2.2.1 df.2.2.2.2
                · exact ifF (decide_eq_false e4) ⟨⟨rfl, rfl⟩, e0, by omega, fun _ => by omega⟩
              · exact ifF (decide_eq_false fun z => e2 (V.int.inj z)) (ifF rfl ⟨⟨rfl, rfl⟩, e0, by omega, fun z => absurd z e2⟩)
        rintro σ' H' ⟨⟨rfl, rfl⟩, e0, e12, e28⟩
        have enone : endOf op m = none := by
          unfold endOf
          rw [if_neg e0, if_neg (fun z => z.elim (fun z => by omega) fun z => by have := e28 z.1; omega)]
        have es := rstep enone
        clear rstep rstop
        refine ⟨fun σ' H9 => σ' = [some (.ref aw), some (.ref ar), some (.ref pd), some (.int R.st.t), some (.ref ab), some (.int n), some (.ref pr), some (.ref po), some (.ref pt), some (.int (0 + (i : Int))), some (.int (g R.st.r 4)), some (.int wd'), some (.int op), some (.int a), some (.int b), some (.int m), some (.ref t2), some (.int (g R.st.r 4 + 1)), o18, some (.int (g R.st.r a)), some (.int (g R.st.r b)), o21, o22] ∧ H9 = H', ?_, ?_⟩
        · exact ⟨_, rfl, _, rfl, pr, _, _, _, rfl, rfl, SqL.of M2.r, g_at a0 (by omega), _, rfl, _, rfl, pr, _, _, _, rfl, rfl, SqL.of M2.r, g_at b0 (by omega), _, _, rfl, rfl, rfl⟩
        rintro σ' H' ⟨rfl, rfl⟩
        have ob := gi.br.g a
        have tb := gi.br.g b
        refine ⟨fun σ' H' => ∃ (v : Option Int) (gl t' : Int) (rr dd oo : List Int) (wh : What) (tw : Addr) (p22 : Option V), σ' = [some (.ref aw), some (.ref ar), some (.ref pd), some (.int t'), some (.ref ab), some (.int n), some (.ref pr), some (.ref po), some (.ref pt), some (.int (0 + (i : Int))), some (.int (g R.st.r 4)), some (.int wd'), some (.int op), some (.int a), some (.int b), some (.int m), some (.ref tw), some (.int gl), o18, some (.int (g R.st.r a)), some (.int (g R.st.r b)), some (optV v), p22] ∧ Mst K H pr pd po pt xt rr dd oo R.tr H' ∧ Dp K H' (.ref tw) (whatD wh) ∧ mv R.st op a b m bi = fin1 rr dd t' v gl a (g R.st.r a) wh ∧ oo = R.out ++ (if op = 11 then some (g R.st.r a) else none).toList, ?_, ?_⟩
        · skip
          by_cases e1 : op = 1
          · refine ⟨_, rfl, rfl, _, rfl, ifT (by rw [e1]; decide) ?_⟩
            exact ⟨_, rfl, some m, _, _, _, _, _, _, _, _, rfl, M2, dw, (mv1 e1).trans (fin_setR a0 a1 (by omega) rfl), out_no (by omega)⟩
          · refine ⟨_, rfl, rfl, _, rfl, ifF (decide_eq_false fun z => e1 (V.int.inj z)) ?_⟩
            by_cases e2 : op = 2
            · refine ⟨_, rfl, rfl, _, rfl, ifT (by rw [e2]; decide) ?_⟩
              obtain ⟨x, at_, ex⟩ := res_at m (g R.st.r a) (g R.st.r b) m0 (e28 e2)
              refine ⟨_, rfl, _, rfl, _, rfl, _, _, rfl, rfl, _, rfl, _, rfl, _, _, rfl, rfl, _, _, rfl, rfl, _, rfl, _, rfl, _, _, rfl, rfl, _, rfl, _, rfl, _, _, rfl, rfl, _, rfl, _, rfl, _, _, rfl, rfl, _, rfl, _, rfl, _, _, rfl, rfl, .inr ⟨_, rfl, _, rfl, _, rfl, rfl, .inr ⟨_, rfl, _, rfl, _, _, rfl, rfl, ⟨by decide, by decide⟩, (show 9 ≤ sizeLine by decide), fun tl nl => ?_⟩⟩⟩
              refine ⟨_, rfl, tl, _, m, _, rfl, rfl, SqL.of upd_same, at_, ?_⟩
              exact ⟨some x, _, _, _, _, _, _, _, _, rfl, M2.same (same_new nl), dp_same (same_new nl) dw, (mv2 e2).trans (fin_setR a0 a1 ex rfl), out_no (by omega)⟩
            · refine ⟨_, rfl, rfl, _, rfl, ifF (decide_eq_false fun z => e2 (V.int.inj z)) ?_⟩
              by_cases e3 : op = 3
              · refine ⟨_, rfl, rfl, _, rfl, ifT (by rw [e3]; decide) ?_⟩
                have e64 : (g R.st.r b) + m - ((g R.st.r b) + m) / 64 * 64 = ((g R.st.r b) + m) % 64 := by omega
                have h64 := mod64 ((g R.st.r b) + m)
                obtain ⟨bd1, bd2⟩ := gi.bd.g (((g R.st.r b) + m) % 64)
                refine ⟨_, rfl, _, rfl, _, rfl, _, _, rfl, rfl, _, rfl, _, rfl, _, _, rfl, rfl, _, _, rfl, rfl, ⟨by decide, by decide⟩, _, _, rfl, rfl, .inr (by decide), _, _, rfl, rfl, pd, _, _, _, rfl, rfl, SqL.of M2.d, by rw [e64]; exact g_at (xs := R.st.d) h64.1 (by omega), ?_⟩
                exact ⟨some _, _, _, _, _, _, _, _, _, rfl, M2, dw, (mv3 e3).trans (fin_setR a0 a1 (by omega) rfl), out_no (by omega)⟩
              · refine ⟨_, rfl, rfl, _, rfl, ifF (decide_eq_false fun z => e3 (V.int.inj z)) ?_⟩
                refine ⟨_, rfl, (show 2 ≤ sizeLine by decide), fun tq nq => ⟨.int op, [.int 4, .int 6], .int _, .tup (SqT.of upd_same) (.cons (.int _) (.cons (.int _) .nil)), rfl, rfl, _, rfl, ?_⟩⟩
                have M3 := M2.same (same_new (o := HO.tup [V.int 4, V.int 6]) nq)
                have dw3 := dp_same (same_new (o := HO.tup [V.int 4, V.int 6]) nq) dw
                rw [four_six]
                by_cases e46 : op = 4 ∨ op = 6
                · refine ifT (by rcases e46 with z | z <;> rw [z] <;> rfl) ?_
                  by_cases e4 : op = 4
                  · refine ⟨_, rfl, rfl, _, rfl, ifT (by rw [e4]; decide) ⟨_, rfl, _, rfl, _, _, rfl, rfl, ?_⟩⟩
                    have e64 : ((g R.st.r b) + m) - ((g R.st.r b) + m) / 64 * 64 = (((g R.st.r b) + m)) % 64 := by omega
                    have h64 := mod64 (((g R.st.r b) + m))
                    refine ⟨_, rfl, _, rfl, _, _, rfl, rfl, ⟨by decide, by decide⟩, _, _, rfl, rfl, .inr (by decide), _, _, rfl, rfl, ?_⟩
                    refine ⟨_, rfl, _, rfl, _, rfl, pd, _, _, _, rfl, rfl, SqL.of M3.d, g_at (by omega) (by omega), (show 3 ≤ sizeLine by decide), fun tw nw => ?_⟩
                    have s4 := same_new (o := HO.tup [V.str "b", V.int (((g R.st.r b) + m) - ((g R.st.r b) + m) / 64 * 64), V.int (g R.st.d (((g R.st.r b) + m) - ((g R.st.r b) + m) / 64 * 64))]) nw
                    have M4 := M3.same s4
                    have M5 := M4.setD C (((g R.st.r b) + m) - ((g R.st.r b) + m) / 64 * 64) (g R.st.r a)
                    refine ⟨_, rfl, _, rfl, _, rfl, pd, _, _, _, rfl, rfl, M4.d, ixN_of (by omega) (by rw [List.length_map]; omega), ?_⟩
                    refine ⟨none, _, _, _, _, _, _, _, _, rfl, M5, dp_keep (KeepT.mut (H := H) M4.d) (noL_what (.byt _ _)) (.tup (SqT.of upd_same) (.cons (.str _) (.cons (.int _) (.cons (.int _) .nil)))), ?_, out_no (by omega)⟩
                    rw [e64]
                    exact (mv4 e4).trans (fin_setD rfl)
                  · have e6 : op = 6 := by omega
                    refine ⟨_, rfl, rfl, _, rfl, ifF (decide_eq_false fun z => e4 (V.int.inj z)) ⟨_, rfl, ?_⟩⟩
                    have e64 : m - m / 64 * 64 = (m) % 64 := by omega
                    have h64 := mod64 (m)
                    refine ⟨_, rfl, _, rfl, _, _, rfl, rfl, ⟨by decide, by decide⟩, _, _, rfl, rfl, .inr (by decide), _, _, rfl, rfl, ?_⟩
                    refine ⟨_, rfl, _, rfl, _, rfl, pd, _, _, _, rfl, rfl, SqL.of M3.d, g_at (by omega) (by omega), (show 3 ≤ sizeLine by decide), fun tw nw => ?_⟩
                    have s4 := same_new (o := HO.tup [V.str "b", V.int (m - m / 64 * 64), V.int (g R.st.d (m - m / 64 * 64))]) nw
                    have M4 := M3.same s4
                    have M5 := M4.setD C (m - m / 64 * 64) (g R.st.r a)
                    refine ⟨_, rfl, _, rfl, _, rfl, pd, _, _, _, rfl, rfl, M4.d, ixN_of (by omega) (by rw [List.length_map]; omega), ?_⟩
                    refine ⟨none, _, _, _, _, _, _, _, _, rfl, M5, dp_keep (KeepT.mut (H := H) M4.d) (noL_what (.byt _ _)) (.tup (SqT.of upd_same) (.cons (.str _) (.cons (.int _) (.cons (.int _) .nil)))), ?_, out_no (by omega)⟩
                    rw [e64]
                    exact (mv6 e6).trans (fin_setD rfl)
                · refine ifF (by rw [decide_eq_false (fun z => e46 (.inl z)), decide_eq_false (fun z => e46 (.inr z))]; rfl) ?_
                  by_cases e5 : op = 5
                  · refine ⟨_, rfl, rfl, _, rfl, ifT (by rw [e5]; decide) ?_⟩
                    have e64 : m - m / 64 * 64 = m % 64 := by omega
                    have h64 := mod64 m
                    obtain ⟨bd1, bd2⟩ := gi.bd.g (m % 64)
                    refine ⟨_, rfl, _, rfl, _, rfl, _, _, rfl, rfl, ⟨by decide, by decide⟩, _, _, rfl, rfl, .inr (by decide), _, _, rfl, rfl, pd, _, _, _, rfl, rfl, SqL.of M3.d, by rw [e64]; exact g_at (xs := R.st.d) h64.1 (by omega), ?_⟩
                    exact ⟨some _, _, _, _, _, _, _, _, _, rfl, M3, dw3, (mv5 e5).trans (fin_setR a0 a1 (by omega) rfl), out_no (by omega)⟩
                  · refine ⟨_, rfl, rfl, _, rfl, ifF (decide_eq_false fun z => e5 (V.int.inj z)) ?_⟩
                    by_cases e7 : op = 7
                    · refine ⟨_, rfl, rfl, _, rfl, ifT (by rw [e7]; decide) (ifT rfl ?_)⟩
                      exact ⟨_, rfl, none, _, _, _, _, _, _, _, _, rfl, M3, dw3, (mv7 e7).trans (fin_goTo (by omega)), out_no (by omega)⟩
                    · refine ⟨_, rfl, rfl, _, rfl, ifF (decide_eq_false fun z => e7 (V.int.inj z)) ⟨_, rfl, rfl, _, rfl, ?_⟩⟩
                      by_cases e8 : op = 8
                      · refine ifT (by rw [e8]; decide) ⟨_, rfl, rfl, _, rfl, ?_⟩
                        by_cases ez : (g R.st.r a) = 0
                        · refine ifT (by rw [ez]; decide) ?_
                          exact ⟨_, rfl, none, _, _, _, _, _, _, _, _, rfl, M3, dw3, (mv8 e8).trans (by rw [if_pos ez]; exact fin_goTo (by omega)), out_no (by omega)⟩
                        · refine ifF (decide_eq_false fun z => ez (V.int.inj z)) ?_
                          refine ⟨_, rfl, rfl, _, rfl, ifF (decide_eq_false fun z => absurd (V.int.inj z) (by omega)) ?_⟩
                          refine ⟨_, rfl, rfl, _, rfl, ifF (decide_eq_false fun z => absurd (V.int.inj z) (by omega)) ?_⟩
                          refine ⟨_, rfl, rfl, _, rfl, ifF (decide_eq_false fun z => absurd (V.int.inj z) (by omega)) ?_⟩
                          refine ⟨_, rfl, rfl, _, rfl, ifF (decide_eq_false fun z => absurd (V.int.inj z) (by omega)) ?_⟩
                          exact ⟨none, _, _, _, _, _, _, _, _, rfl, M3, dw3, (mv8 e8).trans (by rw [if_neg ez]; exact fin_goTo rfl), out_no (by omega)⟩
                      · refine ifF (decide_eq_false fun z => e8 (V.int.inj z)) (ifF rfl ?_)
                        by_cases e9 : op = 9
                        · refine ⟨_, rfl, rfl, _, rfl, ifT (by rw [e9]; decide) ?_⟩
                          exact ⟨_, rfl, _, _, rfl, rfl, _, rfl, some _, _, _, _, _, _, _, _, _, rfl, M3, dw3, (mv9 e9).trans (fin_setR a0 a1 rfl (by omega)), out_no (by omega)⟩
                        · refine ⟨_, rfl, rfl, _, rfl, ifF (decide_eq_false fun z => e9 (V.int.inj z)) ?_⟩
                          by_cases e10 : op = 10
                          · refine ⟨_, rfl, rfl, _, rfl, ifT (by rw [e10]; decide) ?_⟩
                            have ob2 : Byte (g R.st.r a) := ob
                            obtain ⟨z1, z2⟩ := ob2
                            exact ⟨_, rfl, none, _, _, _, _, _, _, _, _, rfl, M3, dw3, (mv10 e10).trans (fin_goTo (by omega)), out_no (by omega)⟩
                          · refine ⟨_, rfl, rfl, _, rfl, ifF (decide_eq_false fun z => e10 (V.int.inj z)) ?_⟩
                            by_cases e11 : op = 11
                            · refine ⟨_, rfl, rfl, _, rfl, ifT (by rw [e11]; decide) ?_⟩
                              refine ⟨_, rfl, .inl ⟨rfl, _, SqL.of M3.o⟩, _, rfl, _, _, _, rfl, rfl, M3.o, size_lt (by rw [List.length_map]; omega), ?_⟩
                              exact ⟨none, _, _, _, _, _, _, _, _, rfl, M3.addO C (g R.st.r a), dp_keep (KeepT.mut (H := H) M3.o) (noL_what .non) dw3, (mv11 e11).trans (fin_goTo rfl), by rw [if_pos e11]; rfl⟩
                            · refine ⟨_, rfl, rfl, _, rfl, ifF (decide_eq_false fun z => e11 (V.int.inj z)) ?_⟩
                              have e12' : op = 12 := by omega
                              refine ⟨_, rfl, rfl, _, rfl, ifT (by rw [e12']; decide) ?_⟩
                              refine ⟨_, rfl, _, rfl, _, rfl, (show 4 ≤ sizeLine by decide), fun tw nw => ?_⟩
                              have s4 := same_new (o := HO.tup [V.str "in", V.int a, V.int (g R.st.r a), V.int R.st.t]) nw
                              have M4 := M3.same s4
                              have dw4 : Dp K (upd (upd H' tq (.tup [.int 4, .int 6])) tw (.tup [.str "in", .int a, .int (g R.st.r a), .int R.st.t])) (.ref tw) (whatD (.inp a (g R.st.r a) R.st.t)) := .tup (SqT.of upd_same) (.cons (.str _) (.cons (.int _) (.cons (.int _) (.cons (.int _) .nil))))
                              by_cases ht : R.st.t < bi.length
                              · refine ⟨_, rfl, _, rfl, ab, _, rfl, .inl (M4.sH.seq hab), _, _, rfl, rfl, _, rfl, ifT (by rw [List.length_map]; exact decide_eq_true ht) ⟨_, rfl, _, rfl, ab, _, _, _, rfl, rfl, M4.sH.seq hab, g_at gi.t0 ht, ?_⟩⟩
                                have M5 := M4.setR C a (g bi R.st.t)
                                refine ⟨_, rfl, _, rfl, pr, _, _, _, rfl, rfl, M4.r, ixN_of a0 (by rw [List.length_map]; omega), ?_⟩
                                refine ⟨_, rfl, _, rfl, _, rfl, ab, _, rfl, .inl (M5.sH.seq hab), _, _, rfl, rfl, .inr ⟨_, rfl, _, _, rfl, rfl, ?_⟩⟩
                                refine ⟨none, _, _, _, _, _, _, _, _, rfl, M5, dp_keep (KeepT.mut (H := H) M4.r) (noL_what (.inp _ _ _)) dw4, ?_, out_no (by omega)⟩
                                rw [mv12 e12', fin_takeB (goal := g R.st.r 4 + 1) (one := (g R.st.r a)) a0 a1 rfl, if_pos ht, if_pos ht, List.length_map, decide_eq_true ht]
                                rfl
                              · refine ⟨_, rfl, _, rfl, ab, _, rfl, .inl (M4.sH.seq hab), _, _, rfl, rfl, _, rfl, ifF (by rw [List.length_map]; exact decide_eq_false ht) ?_⟩
                                have M5 := M4.setR C a 0
                                refine ⟨_, rfl, _, rfl, pr, _, _, _, rfl, rfl, M4.r, ixN_of a0 (by rw [List.length_map]; omega), ?_⟩
                                refine ⟨_, rfl, _, rfl, _, rfl, ab, _, rfl, .inl (M5.sH.seq hab), _, _, rfl, rfl, .inr ⟨_, rfl, _, _, rfl, rfl, ?_⟩⟩
                                refine ⟨none, _, _, _, _, _, _, _, _, rfl, M5, dp_keep (KeepT.mut (H := H) M4.r) (noL_what (.inp _ _ _)) dw4, ?_, out_no (by omega)⟩
                                rw [mv12 e12', fin_takeB (goal := g R.st.r 4 + 1) (one := (g R.st.r a)) a0 a1 rfl, if_neg ht, if_neg ht, List.length_map, decide_eq_false ht]
                                rfl
        rintro σ' H' ⟨v, gl, t', rr, dd, oo, wh, tw, p22, rfl, M3, dw3, emv, rfl⟩
        refine ⟨fun σ' H' => ∃ (rr : List Int) (wh : What) (tw : Addr), σ' = [some (.ref aw), some (.ref ar), some (.ref pd), some (.int t'), some (.ref ab), some (.int n), some (.ref pr), some (.ref po), some (.ref pt), some (.int (0 + (i : Int))), some (.int (g R.st.r 4)), some (.int wd'), some (.int op), some (.int a), some (.int b), some (.int m), some (.ref tw), some (.int gl), o18, some (.int (g R.st.r a)), some (.int (g R.st.r b)), some (optV v), p22] ∧ Mst K H pr pd po pt xt rr dd (R.out ++ (if op = 11 then some (g R.st.r a) else none).toList) R.tr H' ∧ Dp K H' (.ref tw) (whatD wh) ∧ rr.length = 5 ∧ mv R.st op a b m bi = (⟨put rr 4 (gl % 256), dd, t'⟩, wh), ?_, ?_⟩
        · have rl5 : rr.length = 5 := by
            have := (good_mv gi a0 a1 (op := op) (b := b) (m := m) (bi := bi))
            rw [emv] at this
            cases v <;> simpa [fin1, put_len] using this
          cases v with
          | none => exact ⟨_, rfl, rfl, _, rfl, ifF rfl ⟨_, _, _, rfl, M3, dw3, rl5, emv⟩⟩
          | some x =>
            refine ⟨_, rfl, rfl, _, rfl, ifT rfl ⟨_, rfl, _, rfl, (show 3 ≤ sizeLine by decide), fun t5 n5 => ?_⟩⟩
            have s4 := same_new (o := HO.tup [V.str "r", V.int a, V.int (g R.st.r a)]) n5
            have M4 := M3.same s4
            have M5 := M4.setR C a (x - x / 256 * 256)
            refine ⟨_, rfl, _, rfl, _, _, rfl, rfl, ⟨by decide, by decide⟩, _, _, rfl, rfl, .inr (by decide), _, _, rfl, rfl, _, rfl, _, rfl, pr, _, _, _, rfl, rfl, M4.r, ixN_of a0 (by rw [List.length_map]; omega), ?_⟩
            refine ⟨_, .reg a (g R.st.r a), _, rfl, M5, dp_keep (KeepT.mut (H := H) M4.r) (noL_what (.reg _ _)) (.tup (SqT.of upd_same) (.cons (.str _) (.cons (.int _) (.cons (.int _) .nil)))), by rw [put_len]; exact rl5, ?_⟩
            rw [show x - x / 256 * 256 = x % 256 by omega]
            exact emv
        rintro σ' H' ⟨rr, wh, tw, rfl, M4, dw4, rl5, emv⟩
        have M5 := M4.setR C 4 (gl - gl / 256 * 256)
        refine ⟨_, rfl, _, rfl, _, _, rfl, rfl, ⟨by decide, by decide⟩, _, _, rfl, rfl, .inr (by decide), _, _, rfl, rfl, _, rfl, pr, _, 4, _, rfl, rfl, M4.r, ixN_of (by decide) (by rw [List.length_map]; omega), ?_⟩
        have dw5 := dp_keep (KeepT.mut (H := H) (ys := (rr.map V.int).set (4 : Int).toNat (V.int (gl - gl / 256 * 256))) M4.r) (noL_what wh) dw4
        refine ⟨_, rfl, .inl ⟨rfl, _, SqL.of M5.t⟩, _, rfl, _, rfl, (show 2 ≤ sizeLine by decide), fun t6 n6 => ?_⟩
        have s6 := same_new (o := HO.tup [V.int (g R.st.r 4), V.ref tw]) n6
        have M6 := M5.same s6
        have M7 := M6.addT C (w := (g R.st.r 4, wh)) (.tup (SqT.of upd_same) (.cons (.int _) (.cons (dp_same s6 dw5) .nil)))
        refine ⟨_, _, _, rfl, rfl, M6.t, size_lt (by omega), ?_⟩
        rw [emv] at es
        rw [show gl - gl / 256 * 256 = gl % 256 by omega] at M7
        have ef : (M40.run ws bi (i + 1) st).fin = "cut" := by rw [es]
        have M8 := M7.as es
        have et : (M40.run ws bi (i + 1) st).st.t = t' := by rw [es]
        clear es emv
        subst et
        exact ⟨_, _, _, _, _, _, _, _, _, _, _, _, _, _, _, rfl, M8, ef⟩
    · rintro σ H' ⟨xt, o9, o10, o11, o12, o13, o14, o15, o16, o17, o18, o19, o20, o21, o22, rfl, M, hcut⟩
      rw [Int.toNat_natCast] at M hcut ⊢
      refine ⟨_, rfl, _, rfl, pr, _, rfl, .inl ⟨SqL.of M.r, fun l1 n1 => ?_⟩⟩
      have x1 := same_new (o := HO.tup ((M40.run ws bi n st).st.r.map V.int)) n1
      refine ⟨_, rfl, pd, _, rfl, .inl ⟨SqL.of ((M.same x1).d), fun l2 n2 => ?_⟩⟩
      refine ⟨_, rfl, (show 3 ≤ sizeLine by decide), fun t3 n3 => ⟨_, rfl, (show 4 ≤ sizeLine by decide), fun t4 n4 => ?_⟩⟩
      obtain ⟨sf, df⟩ := M.fin (z := "cut") n1 n2 n3 n4
      exact k _ po pt _ _ _ sf C.o0 C.t0 C.ot (by rw [hcut]; exact df.1) df.2.1 df.2.2.1 df.2.2.2.1 df.2.2.2.2
end
end Q39




set_option pp.maxSteps 1500
namespace Q39
open PySem L2 G M40
open C8 (Cal Met Mak pe_c pe_mk pe_mt pe_mt0 pe_gc pss_cut tCut)
/-! ### draws in a comprehension -/
def DrawP (dk D : Addr) (H1 : Hp) (m : Int) (i : Nat) (H : Hp) : Prop := ∃ rs : List Int, rs.length = i ∧ (∀ r ∈ rs, 0 ≤ r ∧ r < m) ∧ But dk H1 H ∧ H D = some (.lst (rs.map V.int)) ∧ Deck H dk
theorem draw0 {dk D : Addr} {H1 : Hp} {m : Int} (hD : H1 D = none) (hk : Deck H1 dk) : DrawP dk D H1 m 0 (upd H1 D (.lst [])) :=
  ⟨[], rfl, (fun _ h => by cases h), But.of (same_new hD), upd_same, hk.same (same_new hD)⟩
theorem draw_keep {dk D : Addr} {H1 H H' : Hp} {m : Int} {i : Nat} (hD : H1 D = none) (hk : Deck H1 dk) (p : DrawP dk D H1 m i H) (b : But dk H H') (k : Deck H' dk) : DrawP dk D H1 m i H' := by
  obtain ⟨rs, hl, hr, b1, hd, _⟩ := p
  exact ⟨rs, hl, hr, b1.trans b, b _ _ (Deck.ne hk hD) hd, k⟩
theorem draw_put {dk D : Addr} {H1 H : Hp} {m r : Int} {i : Nat} (hD : H1 D = none) (hk : Deck H1 dk) (p : DrawP dk D H1 m i H) (r0 : 0 ≤ r) (r1 : r < m) (hi : i < 100000) :
    ∃ acc, H D = some (.lst acc) ∧ acc.length < sizeLine ∧ DrawP dk D H1 m (i + 1) (upd H D (.lst (acc ++ [.int r]))) := by
  obtain ⟨rs, hl, hr, b1, hd, k⟩ := p
  have ne := Deck.ne hk hD
  refine ⟨_, hd, size_lt (by rw [List.length_map]; omega), rs ++ [r], by rw [List.length_append, hl]; rfl, fun x hx => ?_, but_mut b1 hD, by rw [upd_same, List.map_append]; rfl, ?_⟩
  · rcases List.mem_append.mp hx with hx | hx
    · exact hr x hx
    · rw [List.mem_singleton.mp hx]
      exact ⟨r0, r1⟩
  · obtain ⟨ds, h1, h2⟩ := k
    exact ⟨ds, h1, by rw [upd_ne (Ne.symm ne)]; exact h2⟩
theorem draw_next {dk D : Addr} {H1 H : Hp} {m : Int} {i : Nat} {E : XK} (hD : H1 D = none) (hk : Deck H1 dk) (hm : 0 < m) (hi : i < 100000) (p : DrawP dk D H1 m i H) :
    spTake [.ref dk, .int m] H (fun y H4 => ∃ acc, H4 D = some (.lst acc) ∧ acc.length < sizeLine ∧ DrawP dk D H1 m (i + 1) (upd H4 D (.lst (acc ++ [y])))) E :=
  ⟨dk, m, rfl, hm, p.choose_spec.2.2.2.2, fun _ _ r0 r1 b2 k2 => draw_put hD hk (draw_keep hD hk p b2 k2) r0 r1 hi⟩
section
variable {P : Program} {w : World} {K : PySem.W.Frag} {mg : Str → Option Value} {base : Heap}
/-! ### _law_state, _law_drawn_word -/
def spLState (K : PySem.W.Frag) : Sp := fun vs H Q _ => ∃ dk : Addr, vs = [.ref dk] ∧ Deck H dk ∧ ∀ (v : V) (s : Mc) (H' : Hp), Good s → But dk H H' → Deck H' dk → Dp K H' v (stD s) → Q v H'
theorem ok_lstate {f : Addr} {fd : FuncData} (F : Fun K "_law_state" "_law_state" s__law_state f fd) (T : Txt K mg) (c__law_take : Cal P w K mg base 1 "_law_take" spTake []) :
    FnOk P w K mg base CX0 2 f fd ["deck"] (spLState K) := by
  refine F.ok sc__law_state (fun vs H Q E h => ?_) (fun cdv A outer s H vs Q E hr h => ?_)
  · obtain ⟨dk, rfl, _⟩ := h
    rfl
  · obtain ⟨dk, rfl, hk, k⟩ := h
    refine ⟨_, (pss_cons (ps_set (i := 1) sc__law_state.nd rfl (Or.inl rfl) (pe_op op_catA (pe_callTy call_tuple_of (by rfl) T.b_tuple boot_tuple' (pa_cons (pe_lc (own := [("turn", 2)]) rfl sc__law_state.nd (pi_range1 (by rfl) T.b_range (pa_cons pe_int pa_nil)) (blkOk_by (own := [("turn", 2)]) (N := ["deck", "registers", "turn"]) (sc := defScope s__law_state) (by decide +kernel)) (fun _ _ _ _ _ => (pg_name (i := 2) sc__law_state.nd rfl (Or.inl rfl))) (fun _ _ _ _ _ => pts_nil) (fun _ _ _ _ _ => (pe_ix (ix_listK (K := K) rfl) (pe_lst (pa_cons (pe_c c__law_take hr (by omega) rfl (pa_cons (pv 0) (pa_cons pe_int pa_nil))) (pa_cons (pe_c c__law_take hr (by omega) rfl (pa_cons (pv 0) (pa_cons pe_int pa_nil))) pa_nil))) (pe_c c__law_take hr (by omega) rfl (pa_cons (pv 0) (pa_cons pe_int pa_nil))) (fun _ _ => rfl)))) pa_nil)) (pe_tup (pa_cons (pe_c c__law_take hr (by omega) rfl (pa_cons (pv 0) (pa_cons pe_int pa_nil))) pa_nil))))
      (pss_one (ps_ret (pe_tup (pa_cons (pv 1) (pa_cons (pe_callTy call_tuple_of (by rfl) T.b_tuple boot_tuple' (pa_cons (pe_lc (own := [("turn", 2)]) rfl sc__law_state.nd (pi_range1 (by rfl) T.b_range (pa_cons pe_int pa_nil)) (blkOk_by (own := [("turn", 2)]) (N := ["deck", "registers", "turn"]) (sc := defScope s__law_state) (by decide +kernel)) (fun _ _ _ _ _ => (pg_name (i := 2) sc__law_state.nd rfl (Or.inl rfl))) (fun _ _ _ _ _ => pts_nil) (fun _ _ _ _ _ => (pe_ix (ix_listK (K := K) rfl) (pe_lst (pa_cons pe_int (pa_cons pe_int (pa_cons (pe_c c__law_take hr (by omega) rfl (pa_cons (pv 0) (pa_cons pe_int pa_nil))) pa_nil)))) (pe_c c__law_take hr (by omega) rfl (pa_cons (pv 0) (pa_cons pe_int pa_nil))) (fun _ _ => rfl)))) pa_nil)) (pa_cons (pe_c c__law_take hr (by omega) rfl (pa_cons (pv 0) (pa_cons pe_int pa_nil))) pa_nil))))))), ?_⟩
    refine ⟨_, rfl, by decide, by decide, fun D hD => ?_⟩
    refine lc_range (lo := 0) (n := (4 : Int).toNat) (DrawP dk D H 256) (draw0 hD hk) (fun j G hj p => ?_) ?_
    · obtain ⟨_, _, _, _, _, kG⟩ := id p
      refine ⟨rfl, _, rfl, dk, 256, rfl, by decide, kG, fun r1 G1 a0 a1 b1 k1 => ⟨_, rfl, dk, 4, rfl, by decide, k1, fun r2 G2 c0 c1 b2 k2 => ⟨(show 2 ≤ sizeLine by decide), fun pl npl => ?_⟩⟩⟩
      refine ⟨_, rfl, dk, 2, rfl, by decide, k2.same (same_new npl), fun r3 G3 d0 d1 b3 k3 => ?_⟩
      have npk := Deck.ne k2 npl
      obtain ⟨x, at_, x0, x1⟩ : ∃ x, atI [V.int r1, V.int r2] r3 = some (V.int x) ∧ 0 ≤ x ∧ x < 256 := by
        have : r3 = 0 ∨ r3 = 1 := by omega
        rcases this with rfl | rfl
        · exact ⟨r1, rfl, a0, a1⟩
        · exact ⟨r2, rfl, c0, by omega⟩
      refine ⟨pl, [V.int r1, V.int r2], r3, V.int x, rfl, rfl, SqL.of (b3 _ _ npk upd_same), at_, ?_⟩
      exact draw_put hD hk (draw_keep hD hk p ((b1.trans b2).trans ((But.of (same_new npl)).trans b3)) k3) x0 x1 (by omega)
    · rintro G ⟨rs, hl, hrr, bG, hGD, kG⟩
      refine ⟨D, _, rfl, .inl ⟨SqL.of hGD, fun l1 n1 => ?_⟩⟩
      have y1 := same_new (o := HO.tup (rs.map V.int)) n1
      have nl1 := Deck.ne kG n1
      refine ⟨_, rfl, dk, 12, rfl, by decide, kG.same y1, fun r4 G4 e0 e1 b4 k4 => ⟨(show 1 ≤ sizeLine by decide), fun t2 n2 => ?_⟩⟩
      have y2 := same_new (o := HO.tup [V.int r4]) n2
      refine catD (ds := intsD rs) (es := intsD [r4]) (.tup (SqT.of (y2 _ _ (b4 _ _ nl1 upd_same))) (dps_ints _)) (.tup (SqT.of upd_same) (dps_ints [r4])) (by rw [ints_len, ints_len, hl]; show 4 + 1 ≤ 100000; decide) fun z H5 s5 d5 => ?_
      have e5 : intsD rs ++ intsD [r4] = intsD (rs ++ [r4]) := by unfold intsD; rw [List.map_append]
      rw [e5] at d5
      have k5 := (k4.same y2).same s5
      refine ⟨_, rfl, _, rfl, by decide, by decide, fun D2 hD2 => ?_⟩
      refine lc_range (lo := 0) (n := (64 : Int).toNat) (DrawP dk D2 H5 256) (draw0 hD2 k5) (fun j G hj p => ?_) ?_
      · obtain ⟨_, _, _, _, _, kG⟩ := id p
        refine ⟨rfl, _, rfl, dk, 256, rfl, by decide, kG, fun r1 G1 a0 a1 b1 k1 => ⟨(show 3 ≤ sizeLine by decide), fun pl npl => ?_⟩⟩
        refine ⟨_, rfl, dk, 3, rfl, by decide, k1.same (same_new npl), fun r3 G3 d0 d1 b3 k3 => ?_⟩
        have npk := Deck.ne k1 npl
        obtain ⟨x, at_, x0, x1⟩ : ∃ x, atI [V.int 0, V.int 255, V.int r1] r3 = some (V.int x) ∧ 0 ≤ x ∧ x < 256 := by
          have : r3 = 0 ∨ r3 = 1 ∨ r3 = 2 := by omega
          rcases this with rfl | rfl | rfl
          · exact ⟨0, rfl, by decide, by decide⟩
          · exact ⟨255, rfl, by decide, by decide⟩
          · exact ⟨r1, rfl, a0, a1⟩
        refine ⟨pl, [V.int 0, V.int 255, V.int r1], r3, V.int x, rfl, rfl, SqL.of (b3 _ _ npk upd_same), at_, ?_⟩
        exact draw_put hD2 k5 (draw_keep hD2 k5 p (b1.trans ((But.of (same_new npl)).trans b3)) k3) x0 x1 (by omega)
      · rintro G6 ⟨ds, hdl, hdr, b6, hG6, k6⟩
        refine ⟨D2, _, rfl, .inl ⟨SqL.of hG6, fun l7 n7 => ?_⟩⟩
        have y7 := same_new (o := HO.tup (ds.map V.int)) n7
        have nl7 := Deck.ne k6 n7
        refine ⟨_, rfl, dk, 3, rfl, by decide, k6.same y7, fun r8 G8 f0 f1 b8 k8 => ⟨(show 3 ≤ sizeLine by decide), fun t9 n9 => ?_⟩⟩
        have y9 := same_new (o := HO.tup [z, V.ref l7, V.int r8]) n9
        have b69 : But dk H5 (upd G8 t9 (.tup [z, V.ref l7, V.int r8])) := ((b6.trans (But.of y7)).trans b8).trans (But.of y9)
        have d9 := dp_keep (KeepT.of_but k5 b69) (by show noLs _ = true; exact noL_ints _) d5
        refine k _ ⟨rs ++ [r4], ds, r8⟩ _ ⟨by rw [List.length_append, hl]; rfl, hdl, fun x hx => ?_, fun x hx => hdr x hx, f0⟩ ((((bG.trans (But.of y1)).trans b4).trans (But.of (y2.trans s5))).trans b69) (k8.same y9) (.tup (SqT.of upd_same) (.cons d9 (.cons (.tup (SqT.of (y9 _ _ (b8 _ _ nl7 upd_same))) (dps_ints _)) (.cons (.int _) .nil))))
        rcases List.mem_append.mp hx with hx | hx
        · exact hrr x hx
        · rw [List.mem_singleton.mp hx]
          exact ⟨e0, by omega⟩
def spWord : Sp := fun vs H Q _ => ∃ dk : Addr, vs = [.ref dk] ∧ Deck H dk ∧ ∀ (r : Int) (H' : Hp), 0 ≤ r → r ≤ 65535 → But dk H H' → Deck H' dk → Q (.int r) H'
theorem op_drawn {r : Int} (r0 : 0 ≤ r) (r1 : r < 22) : ∃ x : Int, atI [V.int 0, V.int 1, V.int 1, V.int 2, V.int 2, V.int 2, V.int 2, V.int 3, V.int 4, V.int 5, V.int 6, V.int 7, V.int 8, V.int 8, V.int 9, V.int 10, V.int 11, V.int 11, V.int 12, V.int 13, V.int 14, V.int 15] r = some (.int x) ∧ 0 ≤ x ∧ x < 16 := by
  obtain ⟨k, rfl⟩ := Int.eq_ofNat_of_zero_le r0
  have h : k < 22 := by omega
  have := List.getElem?_eq_getElem (l := [(0 : Int), 1, 1, 2, 2, 2, 2, 3, 4, 5, 6, 7, 8, 8, 9, 10, 11, 11, 12, 13, 14, 15]) h
  refine ⟨[(0 : Int), 1, 1, 2, 2, 2, 2, 3, 4, 5, 6, 7, 8, 8, 9, 10, 11, 11, 12, 13, 14, 15][k], ?_, ?_⟩
  · refine atI_nat ?_
    show ([(0 : Int), 1, 1, 2, 2, 2, 2, 3, 4, 5, 6, 7, 8, 8, 9, 10, 11, 11, 12, 13, 14, 15].map V.int)[k]? = _
    rw [List.getElem?_map, this]
    rfl
  · have hm := List.getElem_mem (l := [(0 : Int), 1, 1, 2, 2, 2, 2, 3, 4, 5, 6, 7, 8, 8, 9, 10, 11, 11, 12, 13, 14, 15]) h
    generalize [(0 : Int), 1, 1, 2, 2, 2, 2, 3, 4, 5, 6, 7, 8, 8, 9, 10, 11, 11, 12, 13, 14, 15][k] = x at hm
    have : ∀ x ∈ [(0 : Int), 1, 1, 2, 2, 2, 2, 3, 4, 5, 6, 7, 8, 8, 9, 10, 11, 11, 12, 13, 14, 15], 0 ≤ x ∧ x < 16 := by decide
    exact this x hm
theorem ok_word {f : Addr} {fd : FuncData} (F : Fun K "_law_drawn_word" "_law_drawn_word" s__law_drawn_word f fd) (T : Txt K mg) (c__law_take : Cal P w K mg base 1 "_law_take" spTake []) :
    FnOk P w K mg base CX0 2 f fd ["deck"] spWord := by
  refine F.ok sc__law_drawn_word (fun vs H Q E h => ?_) (fun cdv A outer s H vs Q E hr h => ?_)
  · obtain ⟨dk, rfl, _⟩ := h
    rfl
  · obtain ⟨dk, rfl, hk, k⟩ := h
    refine ⟨_, (pss_cons (ps_set (i := 1) sc__law_drawn_word.nd rfl (Or.inl rfl) (pe_ix ix_list (pe_lst (pa_cons pe_int (pa_cons pe_int (pa_cons pe_int (pa_cons pe_int (pa_cons pe_int (pa_cons pe_int (pa_cons pe_int (pa_cons pe_int (pa_cons pe_int (pa_cons pe_int (pa_cons pe_int (pa_cons pe_int (pa_cons pe_int (pa_cons pe_int (pa_cons pe_int (pa_cons pe_int (pa_cons pe_int (pa_cons pe_int (pa_cons pe_int (pa_cons pe_int (pa_cons pe_int (pa_cons pe_int pa_nil))))))))))))))))))))))) (pe_c c__law_take hr (by omega) rfl (pa_cons (pv 0) (pa_cons pe_int pa_nil))) (fun _ _ => rfl)))
      (pss_cons (ps_set (i := 2) sc__law_drawn_word.nd rfl (Or.inl rfl) (pe_ix ix_list (pe_lst (pa_cons (pe_c c__law_take hr (by omega) rfl (pa_cons (pv 0) (pa_cons pe_int pa_nil))) (pa_cons (pe_c c__law_take hr (by omega) rfl (pa_cons (pv 0) (pa_cons pe_int pa_nil))) pa_nil))) (pe_callTy call_int1 (by rfl) T.b_int boot_int' (pa_cons (pe_cmpR op_eq (pe_c c__law_take hr (by omega) rfl (pa_cons (pv 0) (pa_cons pe_int pa_nil))) pe_int (nomark _)) pa_nil)) (fun _ _ => rfl)))
      (pss_cut (ps_if (PW.pt (pw_and (pt_cmpR op_eq (pv 1) pe_int (nomark _)) (pw_and1 (pt_cmpR op_gt (pe_c c__law_take hr (by omega) rfl (pa_cons (pv 0) (pa_cons pe_int pa_nil))) pe_int (nomark _))))) (pss_one (ps_set (i := 1) sc__law_drawn_word.nd rfl (Or.inl rfl) pe_int)) pss_nil)
      (pss_one (ps_ret (pe_op op_add (pe_op op_add (pe_op op_add (pe_op op_mul pe_int (pv 1)) (pe_op op_mul pe_int (pe_c c__law_take hr (by omega) rfl (pa_cons (pv 0) (pa_cons pe_int pa_nil))))) (pe_op op_mul pe_int (pe_c c__law_take hr (by omega) rfl (pa_cons (pv 0) (pa_cons pe_int pa_nil))))) (pv 2))))))), ?_⟩
    refine ⟨(show 22 ≤ sizeLine by decide), fun pl npl => ?_⟩
    have npk := Deck.ne hk npl
    refine ⟨_, rfl, dk, 22, rfl, by decide, hk.same (same_new npl), fun r G0 r0 r1 b0 k0 => ?_⟩
    obtain ⟨op, at_, o0, o1⟩ := op_drawn r0 r1
    refine ⟨pl, _, r, _, rfl, rfl, SqL.of (b0 _ _ npk upd_same), at_, ?_⟩
    have c0 : But dk H G0 := (But.of (same_new npl)).trans b0
    refine ⟨_, rfl, dk, 12, rfl, by decide, k0, fun r2 G2 p0 p1 b2 k2 => ⟨_, rfl, dk, 256, rfl, by decide, k2, fun r3 G3 q0 q1 b3 k3 => ⟨(show 2 ≤ sizeLine by decide), fun pm npm => ?_⟩⟩⟩
    have npk2 := Deck.ne k3 npm
    refine ⟨_, rfl, dk, 3, rfl, by decide, k3.same (same_new npm), fun r4 G4 _ _ b4 k4 => ⟨rfl, .inr ⟨_, rfl, ?_⟩⟩⟩
    obtain ⟨n, atn, n0, n1⟩ : ∃ n, atI [V.int r2, V.int r3] (if decide (V.int r4 = V.int 0) = true then 1 else 0) = some (V.int n) ∧ 0 ≤ n ∧ n < 256 := by
      cases decide (V.int r4 = V.int 0)
      · exact ⟨r2, rfl, p0, by omega⟩
      · exact ⟨r3, rfl, q0, q1⟩
    refine ⟨pm, [V.int r2, V.int r3], _, V.int n, rfl, rfl, SqL.of (b4 _ _ npk2 upd_same), atn, ?_⟩
    have c4 : But dk H G4 := ((c0.trans b2).trans b3).trans ((But.of (same_new npm)).trans b4)
    refine ⟨fun σ' H' => ∃ op : Int, σ' = [some (.ref dk), some (.int op), some (.int n)] ∧ 0 ≤ op ∧ op < 16 ∧ But dk H H' ∧ Deck H' dk, ?_, ?_⟩
    · refine ⟨_, rfl, rfl, _, rfl, ite2 (fun _ => ?_) (fun _ => ⟨op, rfl, o0, o1, c4, k4⟩)⟩
      exact ⟨_, rfl, dk, 3, rfl, by decide, k4, fun r5 G5 _ _ b5 k5 => ⟨_, _, rfl, rfl, _, rfl, ite2 (fun _ => ⟨1, rfl, by decide, by decide, c4.trans b5, k5⟩) (fun _ => ⟨op, rfl, o0, o1, c4.trans b5, k5⟩)⟩⟩
    rintro σ' H' ⟨op, rfl, o0, o1, c5, k5⟩
    refine ⟨_, rfl, _, _, rfl, rfl, .inl (by decide), _, rfl, dk, 4, rfl, by decide, k5, fun r6 G6 s0 s1 b6 k6 => ⟨_, _, rfl, rfl, .inl (by decide), _, _, rfl, rfl, _, rfl, dk, 4, rfl, by decide, k6, fun r7 G7 t0 t1 b7 k7 => ⟨_, _, rfl, rfl, .inl (by decide), _, _, rfl, rfl, _, rfl, _, _, rfl, rfl, ?_⟩⟩⟩
    exact k _ _ (by omega) (by omega) ((c5.trans b6).trans b7) k7
end
end Q39




set_option pp.maxSteps 1500
namespace Q39
open PySem L2 G M40
open C8 (Cal Met Mak pe_c pe_mk pe_mt pe_mt0 pe_gc pss_cut tCut)
/-! ### word_of, shape_of -/
theorem dps_strs_of {K : PySem.W.Frag} {H : Hp} : ∀ {ns : List Str} {vs : List V}, DpAll K H vs (ns.map PyData.str) → vs = ns.map V.str
  | [], _, .nil => rfl
  | n :: r, _, .cons h t => by
    cases dp_str h
    rw [dps_strs_of t]
    rfl
theorem dps_strs {K : PySem.W.Frag} {H : Hp} : ∀ (ns : List Str), DpAll K H (ns.map V.str) (ns.map PyData.str)
  | [] => .nil
  | n :: r => .cons (.str n) (dps_strs r)
theorem dps2' {K : PySem.W.Frag} {H : Hp} {vs : List V} {a b : PyData} (h : DpAll K H vs [a, b]) : ∃ y1 y2, vs = [y1, y2] ∧ Dp K H y1 a ∧ Dp K H y2 b := by
  cases h with
  | cons h1 h => cases h with
    | cons h2 h =>
      cases h
      exact ⟨_, _, rfl, h1, h2⟩
def inW (op a b n : Int) : Bool := (decide (0 ≤ op) && decide (op < 16)) && (decide (0 ≤ a) && decide (a < 4)) && (decide (0 ≤ b) && decide (b < 4)) && (decide (0 ≤ n) && decide (n < 256))
def bsW (op a b n : Int) : List Bool := [!(decide (0 ≤ op) && decide (op < 16)), !(decide (0 ≤ a) && decide (a < 4)), !(decide (0 ≤ b) && decide (b < 4)), !(decide (0 ≤ n) && decide (n < 256))]
def doing : List Str := ["COPY", "ADD", "SUB", "AND", "OR", "XOR", "LESS", "SAME", "HALF"]
def opsN : List (Str × Int × Str) := [("HALT", 0, "n"), ("SET", 1, "an"), ("LOAD", 3, "abn"), ("STORE", 4, "abn"), ("GET", 5, "an"), ("PUT", 6, "an"), ("JUMP", 7, "n"), ("ZERO", 8, "an"), ("CALL", 9, "an"), ("BACK", 10, "a"), ("OUT", 11, "a"), ("IN", 12, "a")]
def shapesD : List (Str × PyData) := [("HALT", .tuple [.int 0, .str "n"]), ("SET", .tuple [.int 1, .str "an"]), ("LOAD", .tuple [.int 3, .str "abn"]), ("STORE", .tuple [.int 4, .str "abn"]), ("GET", .tuple [.int 5, .str "an"]), ("PUT", .tuple [.int 6, .str "an"]), ("JUMP", .tuple [.int 7, .str "n"]), ("ZERO", .tuple [.int 8, .str "an"]), ("CALL", .tuple [.int 9, .str "an"]), ("BACK", .tuple [.int 10, .str "a"]), ("OUT", .tuple [.int 11, .str "a"]), ("IN", .tuple [.int 12, .str "a"])]
theorem shapes_eq : shapesD = opsN.map fun z => (z.1, .tuple [.int z.2.1, .str z.2.2]) := rfl
def shapeOf (op n : Int) : Option (Str × Str) := if op = 2 then (if n < 9 then some (doing.getD n.toNat "", "ab") else none) else (opsN.find? fun z => decide (z.2.1 = op)).map fun z => (z.1, z.2.2)
def shapeD : Option (Str × Str) → PyData
  | none => .none
  | some z => .tuple [.str z.1, .str z.2]
section
variable {P : Program} {w : World} {K : PySem.W.Frag} {mg : Str → Option Value} {base : Heap}
def spWordOf (K : PySem.W.Frag) (C : Addr) : Sp := fun vs H Q E => ∃ op a b n : Int, vs = [.int op, .int a, .int b, .int n] ∧ (inW op a b n = true → ∀ H', Same H H' → Q (.int (4096 * op + 1024 * a + 256 * b + n)) H') ∧ (inW op a b n = false → RaiseF C "field" H E)
theorem ok_wordof {C : Addr} {f : Addr} {fd : FuncData} (F : Fun K "word_of" "word_of" s_word_of f fd) (T : Txt K mg) (c_InvalidCode : Erm P w K mg base 1 "InvalidCode" C "what") : FnOk P w K mg base (L2.CX P w) 3 f fd ["op", "a", "b", "n"] (spWordOf K C) := by
  refine F.okX sc_word_of (fun vs H Q E h => ?_) (fun cdv A outer s H vs Q E hr h => ?_)
  · obtain ⟨op, a, b, n, rfl, _⟩ := h
    rfl
  · obtain ⟨op, a, b, n, rfl, ky, kn⟩ := h
    obtain ⟨v1, g_RANGES, d1⟩ := T.c_RANGES
    refine ⟨_, (pss_cons (ps_if (pt_val (pe_callB (cr_any rfl) (by rfl) T.b_any boot_any' (pa_cons (pe_lc (own := [("field", 4), ("bound", 5)]) rfl sc_word_of.nd (RZ.pi_zipA (by rfl) T.b_zip (pa_cons (pe_tup (pa_cons (pv 0) (pa_cons (pv 1) (pa_cons (pv 2) (pa_cons (pv 3) pa_nil))))) (pa_cons (pe_gc (by rfl) g_RANGES) pa_nil))) (blkOk_by (own := [("field", 4), ("bound", 5)]) (N := ["op", "a", "b", "n", "field", "bound"]) (sc := defScope s_word_of) (by decide +kernel)) (fun _ _ _ _ _ => (kTup (K := K) rfl (pg_tup (n := 2) rfl (pgs_cons (pg_name (i := 4) sc_word_of.nd rfl (Or.inl rfl)) (pgs_cons (pg_name (i := 5) sc_word_of.nd rfl (Or.inl rfl)) pgs_nil))))) (fun _ _ _ _ _ => pts_nil) (fun _ _ _ _ _ => (pe_not (pe_chain op_le op_lt pe_int (pv 4) (pv 5))))) pa_nil))) (pss_one (ps_raise rfl (takes_of rfl rfl rfl rfl) (pmk_e c_InvalidCode hr (by omega) rfl (pa_cons pe_str pa_nil)))) pss_nil)
      (pss_one (ps_ret (pe_op op_add (pe_op op_add (pe_op op_add (pe_op op_mul pe_int (pv 0)) (pe_op op_mul pe_int (pv 1))) (pe_op op_mul pe_int (pv 2))) (pv 3))))), ?_⟩
    obtain ⟨ra, rs, rfl, hra, hrs⟩ := dp_tup (d1 H)
    obtain rfl : rs = [V.int 16, V.int 4, V.int 4, V.int 256] := dps_ints_of (ns := [16, 4, 4, 256]) hrs
    refine ⟨_, rfl, _, rfl, _, rfl, _, rfl, (show 4 ≤ sizeLine by decide), fun t1 n1 => ?_⟩
    have s1 := same_new (o := HO.tup [V.int op, V.int a, V.int b, V.int n]) n1
    refine ⟨t1, ra, _, _, rfl, .inr ⟨SqT.of upd_same, Same.tup s1 hra, fun D hD => ?_⟩⟩
    have hDt : SqT K (upd H t1 (.tup [.int op, .int a, .int b, .int n])) t1 ([op, a, b, n].map V.int) := SqT.of upd_same
    have hDr : SqT K (upd H t1 (.tup [.int op, .int a, .int b, .int n])) ra (([16, 4, 4, 256] : List Int).map V.int) := Same.tup s1 hra
    generalize upd H t1 (.tup [.int op, .int a, .int b, .int n]) = H1 at hDt hDr hD s1
    clear n1
    refine lc_it (n := 4) (fun i H' => ∃ G, Same H1 G ∧ G D = none ∧ H' = upd G D (.lst (((bsW op a b n).take i).map V.bl))) ⟨_, Same.refl _, hD, rfl⟩ ?_ ?_ ?_ ?_
    · rintro i H' hi ⟨G, sG, hG, rfl⟩
      have sx := sG.trans (same_new (o := HO.lst (((bsW op a b n).take i).map V.bl)) hG)
      exact ⟨_, _, _, _, Same.tup sx hDt, Same.tup sx hDr, int_at hi, int_at hi⟩
    · rintro H' ⟨G, sG, hG, rfl⟩
      have sx := sG.trans (same_new (o := HO.lst (((bsW op a b n).take 4).map V.bl)) hG)
      exact ⟨_, _, Same.tup sx hDt, Same.tup sx hDr, .inl (Nat.le_refl _)⟩
    · rintro i x H' H'' hi ⟨G, sG, hG, rfl⟩ ⟨T1, x1, y1, rfl, nT, rfl, hx, hy⟩
      have sx := sG.trans (same_new (o := HO.lst (((bsW op a b n).take i).map V.bl)) hG)
      have e1 := (hx _ (Same.tup sx hDt)).symm.trans (int_at hi)
      have e2 := (hy _ (Same.tup sx hDr)).symm.trans (int_at hi)
      cases e1
      cases e2
      have hTD : T1 ≠ D := fun z => by rw [z, upd_same] at nT; cases nT
      have nT' : G T1 = none := by rw [upd_ne hTD] at nT; exact nT
      have fin : ∀ c : Bool, (bsW op a b n)[i]? = some c → ∃ acc, upd (upd G D (.lst (((bsW op a b n).take i).map V.bl))) T1 (.tup [.int ([op, a, b, n].getD i 0), .int (([16, 4, 4, 256] : List Int).getD i 0)]) D = some (.lst acc) ∧ acc.length < sizeLine ∧
          ∃ G', Same H1 G' ∧ G' D = none ∧ upd (upd (upd G D (.lst (((bsW op a b n).take i).map V.bl))) T1 (.tup [.int ([op, a, b, n].getD i 0), .int (([16, 4, 4, 256] : List Int).getD i 0)])) D (.lst (acc ++ [V.bl c])) = upd G' D (.lst (((bsW op a b n).take (i + 1)).map V.bl)) := fun c hc => by
        refine ⟨_, by rw [upd_ne (Ne.symm hTD)]; exact upd_same, size_lt (by rw [List.length_map, List.length_take]; omega), upd G T1 (.tup [.int ([op, a, b, n].getD i 0), .int (([16, 4, 4, 256] : List Int).getD i 0)]), sG.trans (same_new nT'), by rw [upd_ne (Ne.symm hTD)]; exact hG, ?_⟩
        rw [show (bsW op a b n).take (i + 1) = (bsW op a b n).take i ++ [c] by rw [List.take_add_one, hc]; rfl, List.map_append]
        funext q
        unfold upd
        by_cases q1 : q = D
        · rw [if_pos q1, if_pos q1]
          rfl
        · rw [if_neg q1, if_neg q1, if_neg q1]
      have hb : (bsW op a b n)[i]? = some (!(decide (0 ≤ [op, a, b, n].getD i 0) && decide ([op, a, b, n].getD i 0 < ([16, 4, 4, 256] : List Int).getD i 0))) := by
        have : i = 0 ∨ i = 1 ∨ i = 2 ∨ i = 3 := by omega
        rcases this with rfl | rfl | rfl | rfl <;> rfl
      refine ⟨T1, _, rfl, SqT.of upd_same, rfl, _, _, rfl, _, _, rfl, rfl, rfl, _, rfl, _, _, rfl, rfl, _, rfl, ?_⟩
      by_cases h0 : 0 ≤ [op, a, b, n].getD i 0
      · refine ifT (decide_eq_true h0) ⟨_, rfl, _, _, rfl, rfl, _, rfl, fin _ ?_⟩
        rw [hb, decide_eq_true h0, Bool.true_and]
      · refine ifF (decide_eq_false h0) ⟨_, rfl, fin _ ?_⟩
        rw [hb, decide_eq_false h0]
        rfl
    · rintro H' ⟨G, sG, hG, rfl⟩
      have s2 : Same H (upd G D (.lst (((bsW op a b n).take 4).map V.bl))) := (s1.trans sG).trans (same_new hG)
      have e4 : (bsW op a b n).take 4 = bsW op a b n := rfl
      rw [e4] at s2 ⊢
      refine ⟨D, _, rfl, SqL.of upd_same, _, rfl, ?_⟩
      have e : (bsW op a b n).any id = !inW op a b n := by
        unfold bsW inW
        simp only [List.any_cons, List.any_nil, id, Bool.or_false, Bool.not_and, Bool.or_assoc]
      cases hw : inW op a b n with
      | true =>
        rw [hw] at e
        refine ifF e ⟨_, rfl, _, _, rfl, rfl, .inl (by decide), _, rfl, _, _, rfl, rfl, .inl (by decide), _, _, rfl, rfl, _, rfl, _, _, rfl, rfl, .inl (by decide), _, _, rfl, rfl, _, rfl, _, _, rfl, rfl, ?_⟩
        exact ky hw _ s2
      | false =>
        rw [hw] at e
        refine ifT e ?_
        exact ⟨_, rfl, fun d hd => (kn hw).here s2 hd⟩
def spShape (K : PySem.W.Frag) : Sp := fun vs H Q _ => ∃ op n : Int, vs = [.int op, .int n] ∧ 0 ≤ n ∧ ∀ (u : V) (H' : Hp), Same H H' → Dp K H' u (shapeD (shapeOf op n)) → Q u H'
theorem ok_shape {f : Addr} {fd : FuncData} (F : Fun K "shape_of" "shape_of" s_shape_of f fd) (T : Txt K mg) (KD : KTxt K w mg "SHAPES" shapesD) : FnOk P w K mg base CX0 1 f fd ["op", "n"] (spShape K) := by
  obtain ⟨dS, mS, D_SHAPES⟩ := KD.ex
  obtain ⟨ep, vsS, I_SHAPES, lS, hS⟩ := D_SHAPES.kit (by decide +kernel)
  refine F.ok sc_shape_of (fun vs H Q E h => ?_) (fun cdv A outer s H vs Q E hr h => ?_)
  · obtain ⟨op, n, rfl, _⟩ := h
    rfl
  · obtain ⟨op, n, rfl, n0, k⟩ := h
    obtain ⟨v1, g_DOING, d1⟩ := T.c_DOING
    have g_SHAPES : ∃ u, mg "SHAPES" = some u ∧ RelV (V.ref dS) u := ⟨_, mS, rfl⟩
    refine ⟨_, (pss_cons (ps_if (pt_cmpR op_eq (pv 0) pe_int (nomark _)) (pss_one (ps_ret (pe_ifExp (pt_cmpR op_lt (pv 1) (pe_callB call_len_seq (by rfl) T.b_len boot_len' (pa_cons (pe_gc (by rfl) g_DOING) pa_nil)) (nomark _)) (pe_tup (pa_cons (pe_ix ix_tup (pe_gc (by rfl) g_DOING) (pv 1) (fun _ _ => rfl)) (pa_cons pe_str pa_nil))) pe_non))) pss_nil)
      (pss_cons (ps_for PassesOwn.never rfl (pi_itemsK I_SHAPES (pe_gc (by rfl) g_SHAPES)) (pg_tup rfl (pgs_cons (pg_name (i := 2) sc_shape_of.nd rfl (Or.inl rfl)) (pgs_cons (pg_tup rfl (pgs_cons (pg_name (i := 3) sc_shape_of.nd rfl (Or.inl rfl)) (pgs_cons (pg_name (i := 4) sc_shape_of.nd rfl (Or.inl rfl)) pgs_nil))) pgs_nil))) (pss_one (ps_if (pt_cmpR op_eq (pv 3) (pv 0) (nomark _)) (pss_one (ps_ret (pe_tup (pa_cons (pv 2) (pa_cons (pv 4) pa_nil))))) pss_nil)))
      (pss_one (ps_ret pe_non)))), ?_⟩
    obtain ⟨ea, es, rfl, hea, hes⟩ := dp_tup (d1 H)
    obtain rfl : es = doing.map V.str := dps_strs_of (ns := doing) hes
    by_cases e0 : op = 2
    · refine ⟨_, rfl, rfl, _, rfl, ifT (by rw [e0]; decide) ⟨_, rfl, ea, _, rfl, .inr hea, _, _, rfl, rfl, _, rfl, ?_⟩⟩
      unfold shapeOf at k
      rw [if_pos e0] at k
      by_cases hn : n < 9
      · rw [if_pos hn] at k
        have at_ : atI (doing.map V.str) n = some (.str (doing.getD n.toNat "")) := by
          obtain ⟨m, rfl⟩ := Int.eq_ofNat_of_zero_le n0
          refine atI_nat ?_
          have hm : m < doing.length := by show m < 9; omega
          rw [List.getElem?_map, List.getElem?_eq_getElem hm, Int.toNat_natCast, List.getD_eq_getElem?_getD, List.getElem?_eq_getElem hm]
          rfl
        refine ifT (decide_eq_true (show n < 9 from hn)) ⟨_, rfl, ea, _, n, _, rfl, rfl, hea, at_, (show 2 ≤ sizeLine by decide), fun t nt => ?_⟩
        exact k _ _ (same_new nt) (.tup (SqT.of upd_same) (.cons (.str _) (.cons (.str _) .nil)))
      · rw [if_neg hn] at k
        exact ifF (decide_eq_false (show ¬ n < 9 from hn)) (k _ _ (Same.refl _) .non)
    · refine ⟨_, rfl, rfl, _, rfl, ifF (decide_eq_false fun z => e0 (V.int.inj z)) ?_⟩
      unfold shapeOf at k
      rw [if_neg e0] at k
      have len12 : vsS.length = 12 := lS
      have zl : ((shapesD.map fun p => (Sum.inr p.1 : Key)).zip vsS).length = 12 := by rw [List.length_zip, List.length_map, len12]; rfl
      refine ⟨rfl, for_it (n := 12) (fun i σ H' => ∃ o2 o3 o4 : Option V, σ = [some (.int op), some (.int n), o2, o3, o4] ∧ Same H H' ∧ ∀ z ∈ opsN.take i, z.2.1 ≠ op) ⟨none, none, none, rfl, Same.refl _, fun z hz => by cases hz⟩
        (fun i σ H' hi _ => by show i < _; rw [zl]; exact hi) (fun σ H' _ => by show _ ≤ 12; rw [zl]; decide) ?_ ?_⟩
      · rintro i x σ H1 H2 hi ⟨o2, o3, o4, rfl, s1, hno⟩ ⟨T1, kk, v, hkv, rfl, nT, rfl⟩
        obtain ⟨h1, h2⟩ := List.getElem?_zip_eq_some.mp hkv
        have hi' : i < opsN.length := hi
        have e1 : kk = .inr opsN[i].1 := by
          have : (shapesD.map fun p => (Sum.inr p.1 : Key)) = opsN.map fun z => .inr z.1 := rfl
          rw [this, List.getElem?_map, List.getElem?_eq_getElem hi'] at h1
          exact (Option.some.inj h1).symm
        subst e1
        have s2 := s1.trans (same_new (o := HO.tup [kV (.inr opsN[i].1), v]) nT)
        obtain ⟨d, hd, dv⟩ := dps_getv (hS (L2.upd H1 T1 (.tup [kV (.inr opsN[i].1), v]))) h2
        have e2 : d = .tuple [.int opsN[i].2.1, .str opsN[i].2.2] := by
          have : shapesD.map (·.2) = opsN.map fun z => .tuple [.int z.2.1, .str z.2.2] := rfl
          rw [this, List.getElem?_map, List.getElem?_eq_getElem hi'] at hd
          exact (Option.some.inj hd).symm
        subst e2
        obtain ⟨t2, x2, rfl, ht2, hx2⟩ := dp_tup dv
        obtain ⟨y1, y2, rfl, d1', d2'⟩ := dps2' hx2
        cases dp_int d1'
        cases dp_str d2'
        refine ⟨T1, _, rfl, SqT.of upd_same, rfl, _, _, rfl, _, _, rfl, t2, _, rfl, ht2, rfl, _, _, rfl, _, _, rfl, rfl, rfl, ?_⟩
        by_cases eo : opsN[i].2.1 = op
        · refine ⟨_, rfl, _, rfl, rfl, _, rfl, ifT (decide_eq_true (by rw [eo])) ⟨_, rfl, _, rfl, (show 2 ≤ sizeLine by decide), fun t3 n3 => ?_⟩⟩
          have ef : opsN.find? (fun z => decide (z.2.1 = op)) = some opsN[i] := by
            rw [List.find?_eq_some_iff_getElem]
            refine ⟨decide_eq_true eo, i, hi', rfl, fun j hj => ?_⟩
            have hm : opsN[j] ∈ opsN.take i := List.mem_take_iff_getElem.mpr ⟨j, by omega, rfl⟩
            simpa using hno _ hm
          rw [ef] at k
          exact k _ _ (s2.trans (same_new n3)) (.tup (SqT.of upd_same) (.cons (.str _) (.cons (.str _) .nil)))
        · refine ⟨_, rfl, _, rfl, rfl, _, rfl, ifF (decide_eq_false fun z => eo (V.int.inj z)) ⟨_, _, _, rfl, s2, fun z hz => ?_⟩⟩
          have tk : opsN.take (i + 1) = opsN.take i ++ [opsN[i]] := by rw [List.take_add_one, List.getElem?_eq_getElem hi']; rfl
          rw [tk] at hz
          rcases List.mem_append.mp hz with hz | hz
          · exact hno z hz
          · rw [List.mem_singleton.mp hz]
            exact eo
      · rintro σ H' ⟨o2, o3, o4, rfl, s1, hno⟩
        have ef : opsN.find? (fun z => decide (z.2.1 = op)) = none := by
          rw [List.find?_eq_none]
          intro z hz
          simpa using hno z (by rw [List.take_of_length_le (show opsN.length ≤ 12 by decide)]; exact hz)
        rw [ef] at k
        exact k _ _ s1 .non
end
end Q39




set_option pp.maxSteps 1500
namespace Q39
open PySem L2 G M40
open C8 (Cal Met Mak pe_c pe_mk pe_mt pe_mt0 pe_gc pss_cut tCut)
def argP (a b n : Int) (c : Nat) : Str := if c = 97 then "r" ++ numS a else if c = 98 then "r" ++ numS b else numS n
def hasB (f : Str) (c : Nat) : Bool := decide (c ∈ f.cps.toList)
def idleT (op a b n : Int) (f : Str) : Int := a * (if !hasB f 97 then 1 else 0) + b * (if !hasB f 98 then 1 else 0) + n * (if !hasB f 110 && !decide (op = 2) then 1 else 0)
def lineP (w : Int) : List Str := match shapeOf (fop w) (fn w) with
  | none => ["WORD", numS w]
  | some z => if 0 < idleT (fop w) (fa w) (fb w) (fn w) z.2 then ["WORD", numS w] else z.1 :: z.2.cps.toList.map (argP (fa w) (fb w) (fn w))
def lineT (w : Int) : Str := Txt.join " " (lineP w)
section
variable {P : Program} {w : World} {K : PySem.W.Frag} {mg : Str → Option Value} {base : Heap}
/-! ### fields_of, with its refusal -/
def spFieldsE (K : PySem.W.Frag) (C : Addr) : Sp := fun vs H Q E => ∃ w : Int, vs = [.int w] ∧ (wordB w = true → ∀ (t : Addr) (H' : Hp), Same H H' → H' t = some (.tup [.int (fop w), .int (fa w), .int (fb w), .int (fn w)]) → Q (.ref t) H') ∧ (wordB w = false → RaiseF C "words" H E)
theorem ok_fieldsE {C : Addr} {f : Addr} {fd : FuncData} (F : Fun K "fields_of" "fields_of" s_fields_of f fd) (T : Txt K mg) (c_check_words : CalX P w K mg base 3 "check_words" (spWords K C)) : FnOk P w K mg base (L2.CX P w) 4 f fd ["word"] (spFieldsE K C) := by
  refine F.okX sc_fields_of (fun vs H Q E h => ?_) (fun cdv A outer s H vs Q E hr h => ?_)
  · obtain ⟨w, rfl, _⟩ := h
    rfl
  · obtain ⟨w, rfl, k, kn⟩ := h
    have hok : wordsB [w] = wordB w := by
      unfold wordsB
      rw [List.all_cons, List.all_nil, Bool.and_true]
      rfl
    refine ⟨_, (pss_cons (ps_expr (pe_cx c_check_words hr (by omega) rfl (takes_of rfl rfl rfl rfl) (pa_cons (pe_lst (pa_cons (pv 0) pa_nil)) pa_nil)))
      (pss_one (ps_ret (pe_tup (pa_cons (pe_op op_fdiv (pv 0) pe_int) (pa_cons (pe_op op_mod (pe_op op_fdiv (pv 0) pe_int) pe_int) (pa_cons (pe_op op_mod (pe_op op_fdiv (pv 0) pe_int) pe_int) (pa_cons (pe_op op_mod (pv 0) pe_int) pa_nil)))))))), ?_⟩
    refine ⟨_, rfl, (show 1 ≤ sizeLine by decide), fun q nq => ?_⟩
    have s1 := same_new (o := HO.lst [V.int w]) nq
    refine ⟨.ref q, [w], rfl, ⟨q, rfl, .inl (SqL.of upd_same)⟩, (show 1 ≤ 1000 by decide), fun hw H2 s2 => ?_, fun e => RaiseF.later s1 (kn (hok ▸ e))⟩
    refine ⟨_, rfl, _, _, rfl, rfl, ⟨by decide, by decide⟩, _, rfl, _, _, rfl, rfl, ⟨by decide, by decide⟩, _, _, rfl, rfl, (show (0 : Int) < 4 by decide), _, rfl, _, _, rfl, rfl, ⟨by decide, by decide⟩, _, _, rfl, rfl, (show (0 : Int) < 4 by decide), _, rfl, _, _, rfl, rfl, (show (0 : Int) < 256 by decide), (show 4 ≤ sizeLine by decide), fun t nt => ?_⟩
    exact k (hok ▸ hw) t _ ((s1.trans s2).trans (same_new nt)) upd_same
theorem wordB_range {x : Int} (h : wordB x = true) : 0 ≤ x ∧ x ≤ 65535 := by
  unfold wordB at h
  simpa using h
theorem log_small {x : Int} (h0 : 0 ≤ x) (h1 : x ≤ 65535) : x.natAbs.log2 < 1920 := by
  by_cases z : x.natAbs = 0
  · rw [z]; decide
  · exact Nat.lt_of_lt_of_le ((Nat.log2_lt z).mpr (show x.natAbs < 2 ^ 16 by omega)) (by decide)
theorem len_cat (x y : Str) : (x ++ y).length = x.length + y.length := by
  rw [TL.len_tl, TL.tl_append, List.length_append, ← TL.len_tl, ← TL.len_tl]
theorem numS_len {x : Int} (h0 : 0 ≤ x) (h1 : x ≤ 65535) : (numS x).length ≤ 5 := by
  obtain ⟨n, rfl⟩ := Int.eq_ofNat_of_zero_le h0
  unfold numS
  rw [SX.num_S, SX.S_len]
  exact TL.numL_len (by decide) (by omega)
theorem emp_cat (x : Str) : Str.empty ++ x = x := TL.ext_tl (by rw [TL.tl_append]; rfl)
theorem word_text (w : Int) : Str.empty ++ "WORD " ++ numS w = Txt.join " " ["WORD", numS w] := by
  rw [TL.join_eq]
  refine TL.ext_tl ?_
  show _ = TL.tl (("WORD" : Str) ++ (" " : Str) ++ numS w)
  rw [TL.tl_append, TL.tl_append, TL.tl_append, TL.tl_append]
  rfl
theorem word_len {w : Int} (h0 : 0 ≤ w) (h1 : w ≤ 65535) : (Str.empty ++ "WORD " ++ numS w).length ≤ sizeLine := by
  rw [emp_cat, len_cat]
  have := numS_len h0 h1
  have h5 : ("WORD " : Str).length = 5 := by decide +kernel
  exact Nat.le_trans (by omega) (show 10 ≤ sizeLine by decide)
theorem reg_len {w : Int} (h0 : 0 ≤ w) (h1 : w ≤ 65535) : (Str.empty ++ "r" ++ numS w).length ≤ sizeLine := by
  rw [emp_cat, len_cat]
  have := numS_len h0 h1
  have h5 : ("r" : Str).length = 1 := by decide +kernel
  exact Nat.le_trans (by omega) (show 10 ≤ sizeLine by decide)
theorem arg_len {a b n : Int} {c : Nat} (a0 : 0 ≤ a) (a1 : a < 4) (b0 : 0 ≤ b) (b1 : b < 4) (n0 : 0 ≤ n) (n1 : n < 256) : (argP a b n c).length ≤ 10 := by
  have h5 : ("r" : Str).length = 1 := by decide +kernel
  have ha := numS_len a0 (by omega)
  have hb := numS_len b0 (by omega)
  have hn := numS_len n0 (by omega)
  unfold argP
  split
  · rw [len_cat]; omega
  · split
    · rw [len_cat]; omega
    · omega
theorem sum_le {l : List Str} (h : ∀ x ∈ l, x.length ≤ 10) : (l.map (·.length)).sum ≤ l.length * 10 := by
  induction l with
  | nil => exact Nat.le_refl _
  | cons x r ih =>
    have := ih fun y hy => h y (List.mem_cons_of_mem _ hy)
    have := h x List.mem_cons_self
    rw [List.map_cons, List.sum_cons, List.length_cons]
    omega
theorem size_lt' {m : Nat} (h : m < 100000) : m ≤ sizeLine := Nat.le_of_lt (size_lt h)
def partsK (a b n : Int) : List (Key × V) := mergeK [] [(.inr "a", .str ("r" ++ numS a)), (.inr "b", .str ("r" ++ numS b)), (.inr "n", .str (numS n))]
theorem shape_chars {op n : Int} {nm ff : Str} (h : shapeOf op n = some (nm, ff)) : (∀ c ∈ ff.cps.toList, c = 97 ∨ c = 98 ∨ c = 110) ∧ ff.cps.size ≤ 3 ∧ nm.length ≤ 10 := by
  unfold shapeOf at h
  split at h
  · split at h
    · rename_i hn
      have e1 := (Prod.mk.inj (Option.some.inj h)).1
      have e2 := (Prod.mk.inj (Option.some.inj h)).2
      refine ⟨?_, ?_, ?_⟩
      · rw [← e2]; decide +kernel
      · rw [← e2]; decide +kernel
      · rw [← e1, List.getD_eq_getElem?_getD]
        cases e : doing[n.toNat]? with
        | none => decide +kernel
        | some x =>
          have all : ∀ z ∈ doing, z.length ≤ 10 := by decide +kernel
          exact all x (List.mem_of_getElem? e)
    · cases h
  · obtain ⟨z, hz, e⟩ := Option.map_eq_some_iff.mp h
    cases e
    have hm := List.mem_of_find?_eq_some hz
    have all : ∀ z ∈ opsN, (∀ c ∈ z.2.2.cps.toList, c = 97 ∨ c = 98 ∨ c = 110) ∧ z.2.2.cps.size ≤ 3 ∧ z.1.length ≤ 10 := by decide +kernel
    exact all z hm
/-! ### shown -/
def spShown (K : PySem.W.Frag) (C : Addr) : Sp := fun vs H Q E => ∃ w : Int, vs = [.int w] ∧ (wordB w = true → ∀ H', Same H H' → Q (.str (lineT w)) H') ∧ (wordB w = false → RaiseF C "words" H E)
theorem ok_shown {C : Addr} {f : Addr} {fd : FuncData} (F : Fun K "shown" "shown" s_shown f fd) (T : Txt K mg) (c_fields_of : CalX P w K mg base 4 "fields_of" (spFieldsE K C)) (c_shape_of : Cal P w K mg base 1 "shape_of" (spShape K) []) : FnOk P w K mg base (L2.CX P w) 5 f fd ["word"] (spShown K C) := by
  refine F.okX sc_shown (fun vs H Q E h => ?_) (fun cdv A outer s H vs Q E hr h => ?_)
  · obtain ⟨w, rfl, _⟩ := h
    rfl
  · obtain ⟨w, rfl, k, kn⟩ := h
    have hu := hu_of hr
    refine ⟨_, (pss_cons (ps_asg (pe_cx c_fields_of hr (by omega) rfl (takes_of rfl rfl rfl rfl) (pa_cons (pv 0) pa_nil)) (pg_tup rfl (pgs_cons (pg_name (i := 1) sc_shown.nd rfl (Or.inl rfl)) (pgs_cons (pg_name (i := 2) sc_shown.nd rfl (Or.inl rfl)) (pgs_cons (pg_name (i := 3) sc_shown.nd rfl (Or.inl rfl)) (pgs_cons (pg_name (i := 4) sc_shown.nd rfl (Or.inl rfl)) pgs_nil))))))
      (pss_cons (ps_set (i := 5) sc_shown.nd rfl (Or.inl rfl) (pe_c c_shape_of hr (by omega) rfl (pa_cons (pv 1) (pa_cons (pv 4) pa_nil))))
      (pss_cons (ps_if (pt_cmpR op_isN (pv 5) pe_non (nomark _)) (pss_one (ps_ret (pe_joined (PJ.cons pe_str (PJ.cons (pe_fmt (pv 0)) PJ.nil))))) pss_nil)
      (pss_cons (ps_asg (pv 5) (pg_tup rfl (pgs_cons (pg_name (i := 6) sc_shown.nd rfl (Or.inl rfl)) (pgs_cons (pg_name (i := 7) sc_shown.nd rfl (Or.inl rfl)) pgs_nil))))
      (pss_cut (ps_set (i := 8) sc_shown.nd rfl (Or.inl rfl) (pe_op op_add (pe_op op_add (pe_op op_mul (pv 2) (pe_callTy call_int1 (by rfl) T.b_int boot_int' (pa_cons (pe_cmpR op_notIn_sign pe_str (pv 7) rfl) pa_nil))) (pe_op op_mul (pv 3) (pe_callTy call_int1 (by rfl) T.b_int boot_int' (pa_cons (pe_cmpR op_notIn_sign pe_str (pv 7) rfl) pa_nil)))) (pe_op op_mul (pv 4) (pe_callTy call_int1 (by rfl) T.b_int boot_int' (pa_cons (pe_and (pe_cmpR op_notIn_sign pe_str (pv 7) rfl) (pe_one (pe_cmpR op_ne (pv 1) pe_int (nomark _)))) pa_nil)))))
      (pss_cons (ps_if (pt_cmpR op_gt (pv 8) pe_int (nomark _)) (pss_one (ps_ret (pe_joined (PJ.cons pe_str (PJ.cons (pe_fmt (pv 0)) PJ.nil))))) pss_nil)
      (pss_cut (ps_set (i := 9) sc_shown.nd rfl (Or.inr rfl) (pe_disp (pps_cons pe_str (pe_joined (PJ.cons pe_str (PJ.cons (pe_fmt (pv 2)) PJ.nil))) (pps_cons pe_str (pe_joined (PJ.cons pe_str (PJ.cons (pe_fmt (pv 3)) PJ.nil))) (pps_cons pe_str (pe_callTy call_str_int (by rfl) T.b_str boot_str' (pa_cons (pv 4) pa_nil)) pps_nil))) (by rfl) (by rfl) (fun z => by cases z) (by decide)))
      (pss_one (ps_ret (pe_bm PySem.F.plainAttrs_str PySem.F.slot_str_join PySem.F.type_str_join mt_join pe_str (pa_cons (pe_op op_cat (pe_lst (pa_cons (pv 6) pa_nil)) (pe_lc (own := [("field", 10)]) rfl sc_shown.nd (pi_str (pv 7)) (blkOk_by (own := [("field", 10)]) (N := ["word", "op", "a", "b", "n", "shape", "name", "fields", "idle", "parts", "field"]) (sc := defScope s_shown) (by decide +kernel)) (fun _ _ _ _ _ => (pg_name (i := 10) sc_shown.nd rfl (Or.inl rfl))) (fun _ _ _ _ _ => pts_nil) (fun _ _ _ _ _ => (pe_dget hu (pv 9) (pv 10) (fun _ _ => rfl))))) pa_nil))))))))))), ?_⟩
    refine ⟨_, rfl, w, rfl, fun hw t H1 s1 ht => ?_, kn⟩
    have k := k hw
    have FL := flds (wordB_range hw)
    refine ⟨t, _, rfl, SqT.of ht, rfl, _, _, rfl, _, _, rfl, _, _, rfl, _, _, rfl, rfl, ?_⟩
    refine ⟨_, rfl, _, rfl, _, _, rfl, FL.n.1, fun u H2 s2 d2 => ?_⟩
    have wr := wordB_range hw
    have lw := log_small wr.1 wr.2
    obtain ⟨o0, o1⟩ := FL.op
    obtain ⟨a0, a1⟩ := FL.a
    obtain ⟨b0, b1⟩ := FL.b
    obtain ⟨n0, n1⟩ := FL.n
    unfold lineT lineP at k
    cases es : shapeOf (fop w) (fn w) with
    | none =>
      rw [es] at d2 k
      cases dp_non d2
      refine ⟨_, rfl, rfl, _, rfl, ifT rfl ⟨"WORD ", rfl, by decide +kernel, _, rfl, .inr ⟨w, rfl, lw, _, rfl, ?_, ?_⟩⟩⟩
      · exact word_len wr.1 wr.2
      · show Q (.str (Str.empty ++ "WORD " ++ numS w)) _
        rw [word_text]
        exact k _ (s1.trans s2)
    | some z =>
      rw [es] at d2 k
      obtain ⟨nm, ff⟩ := z
      obtain ⟨hch, hsz, hnm⟩ := shape_chars es
      dsimp only at k
      obtain ⟨t2, x2, rfl, ht2, hx2⟩ := dp_tup d2
      obtain ⟨y1, y2, rfl, d1', d2'⟩ := dps2' hx2
      cases dp_str d1'
      cases dp_str d2'
      refine ⟨_, rfl, rfl, _, rfl, ifF rfl ⟨_, rfl, t2, _, rfl, ht2, rfl, _, _, rfl, _, _, rfl, rfl, ?_⟩⟩
      refine ⟨fun σ' H' => σ' = [some (.int w), some (.int (fop w)), some (.int (fa w)), some (.int (fb w)), some (.int (fn w)), some (.ref t2), some (.str nm), some (.str ff), some (.int (idleT (fop w) (fa w) (fb w) (fn w) ff)), none, none] ∧ H' = H2, ?_, ?_⟩
      · refine ⟨_, rfl, _, rfl, 97, ff, rfl, rfl, .inr ⟨_, rfl, _, _, rfl, rfl, .inl ⟨by omega, by omega⟩, _, rfl, _, rfl, 98, ff, rfl, rfl, .inr ⟨_, rfl, _, _, rfl, rfl, .inl ⟨by omega, by omega⟩, _, _, rfl, rfl, _, rfl, _, rfl, 110, ff, rfl, rfl, ?_⟩⟩⟩
        have fin : ∀ c : Bool, c = (!hasB ff 110 && !decide (fop w = 2)) → fa w * (if !hasB ff 97 then 1 else 0) + fb w * (if !hasB ff 98 then 1 else 0) + fn w * (if c = true then 1 else 0) = idleT (fop w) (fa w) (fb w) (fn w) ff := fun c e => by rw [e]; rfl
        cases hc : hasB ff 110 with
        | true =>
          rw [hc] at fin
          refine ⟨_, rfl, ifF (by show (!hasB ff 110) = false; rw [hc]; rfl) (.inr ⟨_, rfl, _, _, rfl, rfl, .inl ⟨by omega, by omega⟩, _, _, rfl, rfl, ?_⟩)⟩
          rw [← fin false rfl]
          exact ⟨rfl, rfl⟩
        | false =>
          rw [hc] at fin
          refine ⟨_, rfl, ifT (by show (!hasB ff 110) = true; rw [hc]; rfl) ⟨_, rfl, rfl, .inr ⟨_, rfl, _, _, rfl, rfl, .inl ⟨by omega, by omega⟩, _, _, rfl, rfl, ?_⟩⟩⟩
          rw [← fin (!decide (V.int (fop w) = V.int 2)) (by rw [show decide (V.int (fop w) = V.int 2) = decide (fop w = 2) from decide_eq_decide.mpr ⟨V.int.inj, fun z => by rw [z]⟩]; rfl)]
          exact ⟨rfl, rfl⟩
      · rintro σ' H' ⟨rfl, rfl⟩
        refine ⟨_, rfl, _, _, rfl, rfl, _, rfl, ?_⟩
        by_cases hi : 0 < idleT (fop w) (fa w) (fb w) (fn w) ff
        · rw [if_pos hi] at k
          refine ifT (decide_eq_true hi) ⟨"WORD ", rfl, by decide +kernel, _, rfl, .inr ⟨w, rfl, lw, _, rfl, ?_, ?_⟩⟩
          · exact word_len wr.1 wr.2
          · show Q (.str (Str.empty ++ "WORD " ++ numS w)) _
            rw [word_text]
            exact k _ (s1.trans s2)
        · rw [if_neg hi] at k
          refine ifF (decide_eq_false hi) ?_
          refine ⟨fun σ' H' => ∃ pd : Addr, σ' = [some (.int w), some (.int (fop w)), some (.int (fa w)), some (.int (fb w)), some (.int (fn w)), some (.ref t2), some (.str nm), some (.str ff), some (.int (idleT (fop w) (fa w) (fb w) (fn w) ff)), some (.ref pd), none] ∧ Same H H' ∧ H' pd = some (.dK (partsK (fa w) (fb w) (fn w))), ?_, ?_⟩
          · refine fun pd nd => ?_
            refine ⟨"r", rfl, by decide +kernel, _, rfl, .inr ⟨_, rfl, log_small a0 (by omega), _, rfl, reg_len a0 (by omega), ?_⟩⟩
            refine ⟨"r", rfl, by decide +kernel, _, rfl, .inr ⟨_, rfl, log_small b0 (by omega), _, rfl, reg_len b0 (by omega), ?_⟩⟩
            refine ⟨_, rfl, _, rfl, log_small n0 (by omega), upd_same, [(.inr "a", .str (Str.empty ++ "r" ++ numS (fa w))), (.inr "b", .str (Str.empty ++ "r" ++ numS (fb w))), (.inr "n", .str (numS (fn w)))], rfl, (show 3 ≤ 15 by decide), ?_⟩
            rw [emp_cat, upd_upd]
            exact ⟨pd, rfl, (s1.trans s2).trans (same_new nd), upd_same⟩
          · rintro σ' H' ⟨pd, rfl, s3, hpd⟩
            refine ⟨rfl, _, rfl, (show 1 ≤ sizeLine by decide), fun l1 nl1 => ⟨_, rfl, ff, rfl, fun D hD => ?_⟩⟩
            have y1 := same_new (o := HO.lst [V.str nm]) nl1
            have hpd1 := y1 _ _ hpd
            have hl1 : upd H' l1 (.lst [V.str nm]) l1 = some (.lst [V.str nm]) := upd_same
            generalize upd H' l1 (.lst [V.str nm]) = H3 at hD hpd1 y1 hl1
            have npD : pd ≠ D := fun z => by rw [z, hD] at hpd1; cases hpd1
            have nlD : l1 ≠ D := fun z => by rw [z, hD] at hl1; cases hl1
            refine lc_str (x := ff) (fun _ => true) (fun c => .str (argP (fa w) (fb w) (fn w) c)) (by omega) (fun c acc R hc ha hno hyes => ?_) ?_
            · refine ⟨rfl, _, rfl, _, rfl, pd, .str (argP (fa w) (fb w) (fn w) c), rfl, .inl ⟨_, .inr ⟨#[c]⟩, .inl (by rw [upd_ne npD]; exact hpd1), rfl, ?_⟩, acc, upd_same, ha, ?_⟩
              · rcases hch c hc with rfl | rfl | rfl <;> rfl
              · rw [upd_app]
                exact hyes rfl
            · rw [List.filter_eq_self.mpr fun _ _ => rfl]
              have el : ff.cps.toList.length ≤ 3 := by rw [Array.length_toList]; exact hsz
              refine ⟨l1, D, _, _, rfl, rfl, by rw [upd_ne nlD]; exact hl1, upd_same, size_lt' (by rw [List.length_map, List.length_singleton]; omega), fun p np => ?_⟩
              refine ⟨" ", p, nm :: ff.cps.toList.map (argP (fa w) (fb w) (fn w)), rfl, rfl, .inl (SqL.of (by rw [upd_same, List.map_cons, List.map_map]; rfl)), ?_, ?_⟩
              · have := sum_le (l := nm :: ff.cps.toList.map (argP (fa w) (fb w) (fn w))) (fun x hx => by
                  rcases List.mem_cons.mp hx with rfl | hx
                  · exact hnm
                  · obtain ⟨c, _, rfl⟩ := List.mem_map.mp hx
                    exact arg_len a0 a1 b0 b1 n0 n1)
                have h1 : (" " : Str).length = 1 := by decide +kernel
                rw [List.length_cons, List.length_map] at this ⊢
                rw [h1]
                omega
              · exact k _ (((s3.trans y1).trans (same_new hD)).trans (same_new np))
end
end Q39




set_option pp.maxSteps 1500
namespace Q39
open PySem L2 G M40
open C8 (Cal Met Mak pe_c pe_mk pe_mt pe_mt0 pe_gc pss_cut tCut)
def names : List Str := ["HALT", "SET", "", "LOAD", "STORE", "GET", "PUT", "JUMP", "ZERO", "CALL", "BACK", "OUT", "IN"]
def shapes : List Str := ["n", "an", "ab", "abn", "abn", "an", "an", "n", "an", "an", "a", "a", "a"]
def lineQ (w op a b n : Int) : List Str := match shapeOf op n with
  | none => ["WORD", numS w]
  | some z => if 0 < idleT op a b n z.2 then ["WORD", numS w] else z.1 :: z.2.cps.toList.map (argP a b n)
theorem lineP_eq (w : Int) : lineP w = lineQ w (fop w) (fa w) (fb w) (fn w) := rfl
theorem lineQ_none {w op a b n : Int} (h : shapeOf op n = none) : lineQ w op a b n = (["WORD", numS w] : List Str) := by
  unfold lineQ
  rw [h]
theorem lineQ_some {w op a b n : Int} {z : Str × Str} (h : shapeOf op n = some z) : lineQ w op a b n = if 0 < idleT op a b n z.2 then (["WORD", numS w] : List Str) else z.1 :: z.2.cps.toList.map (argP a b n) := by
  unfold lineQ
  rw [h]
theorem shape_none {op n : Int} (h0 : 0 ≤ op) (h : 12 < op ∨ (op = 2 ∧ 8 < n)) : shapeOf op n = none := by
  unfold shapeOf
  split
  · rw [if_neg (by omega)]
  · have : opsN.find? (fun z => decide (z.2.1 = op)) = none := by
      rw [List.find?_eq_none]
      have all : ∀ z ∈ opsN, z.2.1 ≤ 12 := by decide +kernel
      intro z hz
      have := all z hz
      simp only [decide_eq_true_eq]
      omega
    rw [this]
    rfl
theorem shape_some {op n : Int} (h0 : 0 ≤ op) (h1 : op ≤ 12) (h2 : op = 2 → n ≤ 8) : shapeOf op n = some (if op = 2 then doing.getD n.toNat "" else names.getD op.toNat "", shapes.getD op.toNat "") := by
  by_cases e : op = 2
  · subst e
    unfold shapeOf
    rw [if_pos rfl, if_pos (by have := h2 rfl; omega), if_pos rfl]
    rfl
  · rw [if_neg e]
    have : op = 0 ∨ op = 1 ∨ op = 3 ∨ op = 4 ∨ op = 5 ∨ op = 6 ∨ op = 7 ∨ op = 8 ∨ op = 9 ∨ op = 10 ∨ op = 11 ∨ op = 12 := by omega
    rcases this with rfl | rfl | rfl | rfl | rfl | rfl | rfl | rfl | rfl | rfl | rfl | rfl <;> rfl
theorem idle_iff {op a b n : Int} {f : Str} (a0 : 0 ≤ a) (b0 : 0 ≤ b) (n0 : 0 ≤ n) : 0 < idleT op a b n f ↔ ((hasB f 97 = false ∧ 0 < a) ∨ (hasB f 98 = false ∧ 0 < b) ∨ (hasB f 110 = false ∧ 0 < n ∧ op ≠ 2)) := by
  unfold idleT
  by_cases e : op = 2
  · subst e
    cases hasB f 97 <;> cases hasB f 98 <;> cases hasB f 110 <;> simp <;> omega
  · cases hasB f 97 <;> cases hasB f 98 <;> cases hasB f 110 <;> simp [e] <;> omega
theorem at_str {l : List Str} {i : Int} (h0 : 0 ≤ i) (h : i.toNat < l.length) : atI (l.map V.str) i = some (.str (l.getD i.toNat "")) := by
  obtain ⟨m, rfl⟩ := Int.eq_ofNat_of_zero_le h0
  rw [Int.toNat_natCast] at h ⊢
  refine atI_nat ?_
  rw [List.getElem?_map, List.getElem?_eq_getElem h, List.getD_eq_getElem?_getD, List.getElem?_eq_getElem h]
  rfl
theorem word_text2 (w : Int) : ("WORD " : Str) ++ numS w = Txt.join " " ["WORD", numS w] := by
  rw [← word_text, emp_cat]
section
variable {P : Program} {w : World} {K : PySem.W.Frag} {mg : Str → Option Value} {base : Heap}
/-! ### _law_line -/
def spLine : Sp := fun vs H Q _ => ∃ w : Int, vs = [.int w] ∧ wordB w = true ∧ ∀ H', Same H H' → Q (.str (lineT w)) H'
theorem ok_line {f : Addr} {fd : FuncData} (F : Fun K "_law_line" "_law_line" s__law_line f fd) (T : Txt K mg) : FnOk P w K mg base CX0 1 f fd ["word"] spLine := by
  refine F.ok sc__law_line (fun vs H Q E h => ?_) (fun cdv A outer s H vs Q E hr h => ?_)
  · obtain ⟨w, rfl, _⟩ := h
    rfl
  · obtain ⟨w, rfl, hw, k⟩ := h
    have hu65 := hu65_of hr
    refine ⟨_, (pss_cut (ps_asg (pe_tup (pa_cons (pe_op op_fdiv (pv 0) pe_int) (pa_cons (pe_op op_sub (pe_op op_fdiv (pv 0) pe_int) (pe_op op_mul (pe_op op_fdiv (pv 0) pe_int) pe_int)) (pa_cons (pe_op op_sub (pe_op op_fdiv (pv 0) pe_int) (pe_op op_mul (pe_op op_fdiv (pv 0) pe_int) pe_int)) (pa_cons (pe_op op_sub (pv 0) (pe_op op_mul (pe_op op_fdiv (pv 0) pe_int) pe_int)) pa_nil))))) (pg_tup rfl (pgs_cons (pg_name (i := 1) sc__law_line.nd rfl (Or.inl rfl)) (pgs_cons (pg_name (i := 2) sc__law_line.nd rfl (Or.inl rfl)) (pgs_cons (pg_name (i := 3) sc__law_line.nd rfl (Or.inl rfl)) (pgs_cons (pg_name (i := 4) sc__law_line.nd rfl (Or.inl rfl)) pgs_nil))))))
      (pss_cons (ps_set (i := 5) sc__law_line.nd rfl (Or.inl rfl) (pe_lst (pa_cons pe_str (pa_cons pe_str (pa_cons pe_str (pa_cons pe_str (pa_cons pe_str (pa_cons pe_str (pa_cons pe_str (pa_cons pe_str (pa_cons pe_str pa_nil)))))))))))
      (pss_cons (ps_set (i := 6) sc__law_line.nd rfl (Or.inl rfl) (pe_lst (pa_cons pe_str (pa_cons pe_str (pa_cons pe_str (pa_cons pe_str (pa_cons pe_str (pa_cons pe_str (pa_cons pe_str (pa_cons pe_str (pa_cons pe_str (pa_cons pe_str (pa_cons pe_str (pa_cons pe_str (pa_cons pe_str pa_nil)))))))))))))))
      (pss_cut (ps_set (i := 7) sc__law_line.nd rfl (Or.inl rfl) (pe_lst (pa_cons pe_str (pa_cons pe_str (pa_cons pe_str (pa_cons pe_str (pa_cons pe_str (pa_cons pe_str (pa_cons pe_str (pa_cons pe_str (pa_cons pe_str (pa_cons pe_str (pa_cons pe_str (pa_cons pe_str (pa_cons pe_str pa_nil)))))))))))))))
      (pss_cut (ps_if (PW.pt (pw_or (pt_cmpR op_gt (pv 1) pe_int (nomark _)) (pw_or1 (PW.pt (pw_and (pt_cmpR op_eq (pv 1) pe_int (nomark _)) (pw_and1 (pt_cmpR op_gt (pv 4) pe_int (nomark _)))))))) (pss_one (ps_ret (pe_op op_add_str pe_str (pe_callTy call_str_int (by rfl) T.b_str boot_str' (pa_cons (pv 0) pa_nil))))) pss_nil)
      (pss_cons (ps_set (i := 8) sc__law_line.nd rfl (Or.inl rfl) (pe_ix ix_list (pv 7) (pv 1) (fun _ _ => rfl)))
      (pss_cut (ps_if (PW.pt (pw_or (PW.pt (pw_and (pt_cmpR op_notIn_sign pe_str (pv 8) rfl) (pw_and1 (pt_cmpR op_gt (pv 2) pe_int (nomark _))))) (pw_or (PW.pt (pw_and (pt_cmpR op_notIn_sign pe_str (pv 8) rfl) (pw_and1 (pt_cmpR op_gt (pv 3) pe_int (nomark _))))) (pw_or1 (PW.pt (pw_and (pt_cmpR op_notIn_sign pe_str (pv 8) rfl) (pw_and (pt_cmpR op_gt (pv 4) pe_int (nomark _)) (pw_and1 (pt_cmpR op_ne (pv 1) pe_int (nomark _)))))))))) (pss_one (ps_ret (pe_op op_add_str pe_str (pe_callTy call_str_int (by rfl) T.b_str boot_str' (pa_cons (pv 0) pa_nil))))) pss_nil)
      (pss_cut (ps_set (i := 9) sc__law_line.nd rfl (Or.inl rfl) (pe_lst (pa_cons (pe_ifExp (pt_cmpR op_eq (pv 1) pe_int (nomark _)) (pe_ix ix_list (pv 5) (pv 4) (fun _ _ => rfl)) (pe_ix ix_list (pv 6) (pv 1) (fun _ _ => rfl))) pa_nil)))
      (pss_cons (ps_for PassesOwn.never rfl (pi_str (pv 8)) (pg_name (i := 10) sc__law_line.nd rfl (Or.inl rfl)) (pss_one (ps_expr (pe_bm PySem.F.plainAttrs_list PySem.F.slot_list_append PySem.F.type_list_append mt_append (pv 9) (pa_cons (pe_ifExp (pt_cmpR op_eq (pv 10) pe_str (nomark _)) (pe_callTy call_str_int (by rfl) T.b_str boot_str' (pa_cons (pv 4) pa_nil)) (pe_op op_add_str pe_str (pe_callTy call_str_int (by rfl) T.b_str boot_str' (pa_cons (pe_ifExp (pt_cmpR op_eq (pv 10) pe_str (nomark _)) (pv 2) (pv 3)) pa_nil)))) pa_nil)))))
      (pss_one (ps_ret (pe_bm PySem.F.plainAttrs_str PySem.F.slot_str_join PySem.F.type_str_join mt_join pe_str (pa_cons (pv 9) pa_nil))))))))))))), ?_⟩
    have wr := wordB_range hw
    have lw := log_small wr.1 wr.2
    have FL := flds wr
    refine ⟨fun σ' H' => σ' = [some (.int w), some (.int (fop w)), some (.int (fa w)), some (.int (fb w)), some (.int (fn w)), none, none, none, none, none, none] ∧ Same H H', ?_, ?_⟩
    · refine ⟨_, rfl, _, _, rfl, rfl, ⟨by decide, by decide⟩, _, rfl, _, _, rfl, rfl, ⟨by decide, by decide⟩, _, rfl, _, _, rfl, rfl, ⟨by decide, by decide⟩, _, _, rfl, rfl, .inr (by decide), _, _, rfl, rfl, _, rfl, _, _, rfl, rfl, ⟨by decide, by decide⟩, _, rfl, _, _, rfl, rfl, ⟨by decide, by decide⟩, _, _, rfl, rfl, .inr (by decide), _, _, rfl, rfl, _, rfl, _, rfl, _, _, rfl, rfl, ⟨by decide, by decide⟩, _, _, rfl, rfl, .inr (by decide), _, _, rfl, rfl, (show 4 ≤ sizeLine by decide), fun t1 n1 => ?_⟩
      refine ⟨t1, _, rfl, SqT.of upd_same, rfl, _, _, rfl, _, _, rfl, _, _, rfl, _, _, rfl, rfl, ?_⟩
      refine ⟨?_, same_new n1⟩
      have e1 : w / 1024 - w / 4096 * 4 = fa w := by unfold fa; omega
      have e2 : w / 256 - w / 1024 * 4 = fb w := by unfold fb; omega
      have e3 : w - w / 256 * 256 = fn w := by unfold fn; omega
      rw [← e1, ← e2, ← e3]
      rfl
    rintro σ' H1 ⟨rfl, s1⟩
    obtain ⟨o0, o1⟩ := FL.op
    obtain ⟨a0, a1⟩ := FL.a
    obtain ⟨b0, b1⟩ := FL.b
    obtain ⟨n0, n1⟩ := FL.n
    unfold lineT at k
    rw [lineP_eq] at k
    generalize fop w = op at o0 o1 k ⊢
    generalize fa w = a at a0 a1 k ⊢
    generalize fb w = b at b0 b1 k ⊢
    generalize fn w = n at n0 n1 k ⊢
    refine ⟨(show 9 ≤ sizeLine by decide), fun ld nld => ⟨(show 13 ≤ sizeLine by decide), fun ln nln => ?_⟩⟩
    have y1 := same_new (o := HO.lst (doing.map V.str)) nld
    have y2 := same_new (o := HO.lst (names.map V.str)) nln
    refine ⟨fun σ' H' => ∃ ls, σ' = [some (.int w), some (.int op), some (.int a), some (.int b), some (.int n), some (.ref ld), some (.ref ln), some (.ref ls), none, none, none] ∧ Same H H' ∧ H' ld = some (.lst (doing.map V.str)) ∧ H' ln = some (.lst (names.map V.str)) ∧ H' ls = some (.lst (shapes.map V.str)), ⟨(show 13 ≤ sizeLine by decide), fun ls nls => ?_⟩, ?_⟩
    · have y3 := same_new (o := HO.lst (shapes.map V.str)) nls
      exact ⟨ls, rfl, ((s1.trans y1).trans y2).trans y3, (y2.trans y3) _ _ upd_same, y3 _ _ upd_same, upd_same⟩
    rintro σ' H2 ⟨ls, rfl, s2, hd, hn, hs⟩
    have word : ∀ H', Same H H' → lineQ w op a b n = (["WORD", numS w] : List Str) → Q (.str ("WORD " ++ numS w)) H' := fun H' s' e => by
      rw [e] at k
      rw [word_text2]
      exact k H' s'
    have wlen : ("WORD " : Str).length + (numS w).length ≤ sizeLine := by
      have := numS_len wr.1 wr.2
      have h5 : ("WORD " : Str).length = 5 := by decide +kernel
      exact Nat.le_trans (by omega) (show 10 ≤ sizeLine by decide)
    refine ⟨fun σ' H' => (σ' = [some (.int w), some (.int op), some (.int a), some (.int b), some (.int n), some (.ref ld), some (.ref ln), some (.ref ls), none, none, none] ∧ H' = H2) ∧ op ≤ 12 ∧ (op = 2 → n ≤ 8), ?_, ?_⟩
    · refine ⟨_, rfl, _, _, rfl, rfl, _, rfl, ?_⟩
      by_cases e1 : 12 < op
      · refine ifT (decide_eq_true e1) (ifT rfl ⟨_, rfl, _, rfl, lw, _, _, rfl, rfl, wlen, ?_⟩)
        exact word _ s2 (lineQ_none (shape_none o0 (.inl e1)))
      · refine ifF (decide_eq_false e1) ⟨_, rfl, rfl, _, rfl, ?_⟩
        by_cases e2 : op = 2
        · refine ifT (by rw [e2]; decide) ⟨_, rfl, _, _, rfl, rfl, _, rfl, ?_⟩
          by_cases e4 : 8 < n
          · refine ifT (decide_eq_true e4) ⟨_, rfl, _, rfl, lw, _, _, rfl, rfl, wlen, ?_⟩
            exact word _ s2 (lineQ_none (shape_none o0 (.inr ⟨e2, e4⟩)))
          · exact ifF (decide_eq_false e4) ⟨⟨rfl, rfl⟩, by omega, fun _ => by omega⟩
        · exact ifF (decide_eq_false fun z => e2 (V.int.inj z)) (ifF rfl ⟨⟨rfl, rfl⟩, by omega, fun z => absurd z e2⟩)
    rintro σ' H' ⟨⟨rfl, rfl⟩, e12, e28⟩
    have es := shape_some o0 e12 e28
    rw [lineQ_some es] at k word
    obtain ⟨hch, hsz, hnm⟩ := shape_chars es
    have enm : (if op = 2 then doing.getD n.toNat "" else names.getD op.toNat "") = (if op = 2 then doing.getD n.toNat "" else names.getD op.toNat "") := rfl
    generalize ef : shapes.getD op.toNat "" = ff at k word es hch hsz
    refine ⟨_, rfl, _, rfl, ls, _, _, _, rfl, rfl, SqL.of hs, at_str o0 (by show op.toNat < 13; omega), ?_⟩
    rw [ef]
    refine ⟨fun σ' H9 => (σ' = [some (.int w), some (.int op), some (.int a), some (.int b), some (.int n), some (.ref ld), some (.ref ln), some (.ref ls), some (.str ff), none, none] ∧ H9 = H') ∧ ¬ 0 < idleT op a b n ff, ?_, ?_⟩
    · cases c0 : hasB ff 97 with
      | true =>
        refine ⟨_, rfl, 97, ff, rfl, rfl, _, rfl, ifF (by show (!hasB ff 97) = false; rw [c0]; rfl) ?_⟩
        refine ifF rfl ?_
        cases c1 : hasB ff 98 with
        | true =>
          refine ⟨_, rfl, 98, ff, rfl, rfl, _, rfl, ifF (by show (!hasB ff 98) = false; rw [c1]; rfl) ?_⟩
          refine ifF rfl ?_
          cases c2 : hasB ff 110 with
          | true =>
            refine ⟨_, rfl, 110, ff, rfl, rfl, _, rfl, ifF (by show (!hasB ff 110) = false; rw [c2]; rfl) ?_⟩
            exact ifF rfl ⟨⟨rfl, rfl⟩, fun z => by have := (idle_iff a0 b0 n0).mp z; simp_all; try omega⟩
          | false =>
            refine ⟨_, rfl, 110, ff, rfl, rfl, _, rfl, ifT (by show (!hasB ff 110) = true; rw [c2]; rfl) ⟨_, rfl, _, _, rfl, rfl, _, rfl, ?_⟩⟩
            by_cases g2 : 0 < n
            · refine ifT (decide_eq_true g2) ⟨_, rfl, rfl, _, rfl, ?_⟩
              by_cases g3 : op = 2
              · exact ifF (by rw [g3]; decide) ⟨⟨rfl, rfl⟩, fun z => by have := (idle_iff a0 b0 n0).mp z; simp_all; try omega⟩
              · exact ifT (by simp [g3]) ⟨_, rfl, _, rfl, lw, _, _, rfl, rfl, wlen, word _ s2 (if_pos ((idle_iff a0 b0 n0).mpr (.inr (.inr ⟨c2, g2, g3⟩))))⟩
            · exact ifF (decide_eq_false g2) (ifF rfl ⟨⟨rfl, rfl⟩, fun z => by have := (idle_iff a0 b0 n0).mp z; simp_all; try omega⟩)
        | false =>
          refine ⟨_, rfl, 98, ff, rfl, rfl, _, rfl, ifT (by show (!hasB ff 98) = true; rw [c1]; rfl) ⟨_, rfl, _, _, rfl, rfl, _, rfl, ?_⟩⟩
          by_cases g1 : 0 < b
          · exact ifT (decide_eq_true g1) (ifT rfl ⟨_, rfl, _, rfl, lw, _, _, rfl, rfl, wlen, word _ s2 (if_pos ((idle_iff a0 b0 n0).mpr (.inr (.inl ⟨c1, g1⟩))))⟩)
          · refine ifF (decide_eq_false g1) ?_
            cases c2 : hasB ff 110 with
            | true =>
              refine ⟨_, rfl, 110, ff, rfl, rfl, _, rfl, ifF (by show (!hasB ff 110) = false; rw [c2]; rfl) ?_⟩
              exact ifF rfl ⟨⟨rfl, rfl⟩, fun z => by have := (idle_iff a0 b0 n0).mp z; simp_all; try omega⟩
            | false =>
              refine ⟨_, rfl, 110, ff, rfl, rfl, _, rfl, ifT (by show (!hasB ff 110) = true; rw [c2]; rfl) ⟨_, rfl, _, _, rfl, rfl, _, rfl, ?_⟩⟩
              by_cases g2 : 0 < n
              · refine ifT (decide_eq_true g2) ⟨_, rfl, rfl, _, rfl, ?_⟩
                by_cases g3 : op = 2
                · exact ifF (by rw [g3]; decide) ⟨⟨rfl, rfl⟩, fun z => by have := (idle_iff a0 b0 n0).mp z; simp_all; try omega⟩
                · exact ifT (by simp [g3]) ⟨_, rfl, _, rfl, lw, _, _, rfl, rfl, wlen, word _ s2 (if_pos ((idle_iff a0 b0 n0).mpr (.inr (.inr ⟨c2, g2, g3⟩))))⟩
              · exact ifF (decide_eq_false g2) (ifF rfl ⟨⟨rfl, rfl⟩, fun z => by have := (idle_iff a0 b0 n0).mp z; simp_all; try omega⟩)
      | false =>
        refine ⟨_, rfl, 97, ff, rfl, rfl, _, rfl, ifT (by show (!hasB ff 97) = true; rw [c0]; rfl) ⟨_, rfl, _, _, rfl, rfl, _, rfl, ?_⟩⟩
        by_cases g0 : 0 < a
        · exact ifT (decide_eq_true g0) (ifT rfl ⟨_, rfl, _, rfl, lw, _, _, rfl, rfl, wlen, word _ s2 (if_pos ((idle_iff a0 b0 n0).mpr (.inl ⟨c0, g0⟩)))⟩)
        · refine ifF (decide_eq_false g0) ?_
          cases c1 : hasB ff 98 with
          | true =>
            refine ⟨_, rfl, 98, ff, rfl, rfl, _, rfl, ifF (by show (!hasB ff 98) = false; rw [c1]; rfl) ?_⟩
            refine ifF rfl ?_
            cases c2 : hasB ff 110 with
            | true =>
              refine ⟨_, rfl, 110, ff, rfl, rfl, _, rfl, ifF (by show (!hasB ff 110) = false; rw [c2]; rfl) ?_⟩
              exact ifF rfl ⟨⟨rfl, rfl⟩, fun z => by have := (idle_iff a0 b0 n0).mp z; simp_all; try omega⟩
            | false =>
              refine ⟨_, rfl, 110, ff, rfl, rfl, _, rfl, ifT (by show (!hasB ff 110) = true; rw [c2]; rfl) ⟨_, rfl, _, _, rfl, rfl, _, rfl, ?_⟩⟩
              by_cases g2 : 0 < n
              · refine ifT (decide_eq_true g2) ⟨_, rfl, rfl, _, rfl, ?_⟩
                by_cases g3 : op = 2
                · exact ifF (by rw [g3]; decide) ⟨⟨rfl, rfl⟩, fun z => by have := (idle_iff a0 b0 n0).mp z; simp_all; try omega⟩
                · exact ifT (by simp [g3]) ⟨_, rfl, _, rfl, lw, _, _, rfl, rfl, wlen, word _ s2 (if_pos ((idle_iff a0 b0 n0).mpr (.inr (.inr ⟨c2, g2, g3⟩))))⟩
              · exact ifF (decide_eq_false g2) (ifF rfl ⟨⟨rfl, rfl⟩, fun z => by have := (idle_iff a0 b0 n0).mp z; simp_all; try omega⟩)
          | false =>
            refine ⟨_, rfl, 98, ff, rfl, rfl, _, rfl, ifT (by show (!hasB ff 98) = true; rw [c1]; rfl) ⟨_, rfl, _, _, rfl, rfl, _, rfl, ?_⟩⟩
            by_cases g1 : 0 < b
            · exact ifT (decide_eq_true g1) (ifT rfl ⟨_, rfl, _, rfl, lw, _, _, rfl, rfl, wlen, word _ s2 (if_pos ((idle_iff a0 b0 n0).mpr (.inr (.inl ⟨c1, g1⟩))))⟩)
            · refine ifF (decide_eq_false g1) ?_
              cases c2 : hasB ff 110 with
              | true =>
                refine ⟨_, rfl, 110, ff, rfl, rfl, _, rfl, ifF (by show (!hasB ff 110) = false; rw [c2]; rfl) ?_⟩
                exact ifF rfl ⟨⟨rfl, rfl⟩, fun z => by have := (idle_iff a0 b0 n0).mp z; simp_all; try omega⟩
              | false =>
                refine ⟨_, rfl, 110, ff, rfl, rfl, _, rfl, ifT (by show (!hasB ff 110) = true; rw [c2]; rfl) ⟨_, rfl, _, _, rfl, rfl, _, rfl, ?_⟩⟩
                by_cases g2 : 0 < n
                · refine ifT (decide_eq_true g2) ⟨_, rfl, rfl, _, rfl, ?_⟩
                  by_cases g3 : op = 2
                  · exact ifF (by rw [g3]; decide) ⟨⟨rfl, rfl⟩, fun z => by have := (idle_iff a0 b0 n0).mp z; simp_all; try omega⟩
                  · exact ifT (by simp [g3]) ⟨_, rfl, _, rfl, lw, _, _, rfl, rfl, wlen, word _ s2 (if_pos ((idle_iff a0 b0 n0).mpr (.inr (.inr ⟨c2, g2, g3⟩))))⟩
                · exact ifF (decide_eq_false g2) (ifF rfl ⟨⟨rfl, rfl⟩, fun z => by have := (idle_iff a0 b0 n0).mp z; simp_all; try omega⟩)
    rintro σ' H' ⟨⟨rfl, rfl⟩, hi⟩
    rw [if_neg hi] at k
    refine ⟨fun σ' H' => ∃ lp, σ' = [some (.int w), some (.int op), some (.int a), some (.int b), some (.int n), some (.ref ld), some (.ref ln), some (.ref ls), some (.str ff), some (.ref lp), none] ∧ Same H H' ∧ H lp = none ∧ H' lp = some (.lst [V.str (if op = 2 then doing.getD n.toNat "" else names.getD op.toNat "")]), ?_, ?_⟩
    · by_cases e2 : op = 2
      · refine ⟨_, rfl, rfl, _, rfl, ifT (by rw [e2]; decide) ⟨_, rfl, _, rfl, ld, _, _, _, rfl, rfl, SqL.of hd, at_str n0 (by have := e28 e2; show n.toNat < 9; omega), (show 1 ≤ sizeLine by decide), fun lp nlp => ?_⟩⟩
        exact ⟨lp, rfl, s2.trans (same_new nlp), none_of_same s2 nlp, by rw [if_pos e2]; exact upd_same⟩
      · refine ⟨_, rfl, rfl, _, rfl, ifF (decide_eq_false fun z => e2 (V.int.inj z)) ⟨_, rfl, _, rfl, ln, _, _, _, rfl, rfl, SqL.of hn, at_str o0 (by show op.toNat < 13; omega), (show 1 ≤ sizeLine by decide), fun lp nlp => ?_⟩⟩
        exact ⟨lp, rfl, s2.trans (same_new nlp), none_of_same s2 nlp, by rw [if_neg e2]; exact upd_same⟩
    rintro σ' H3 ⟨lp, rfl, s3, nlp, hlp⟩
    dsimp only at k hnm
    generalize (if op = 2 then doing.getD n.toNat "" else names.getD op.toNat "") = nm at k hlp hnm
    have el : ff.cps.toList.length = ff.cps.size := Array.length_toList
    have la := log_small a0 (by omega)
    have lb := log_small b0 (by omega)
    have lnn := log_small n0 (by omega)
    refine ⟨_, rfl, ff, rfl, for_it (n := ff.cps.size) (fun i σ H' => ∃ o10 : Option V, σ = [some (.int w), some (.int op), some (.int a), some (.int b), some (.int n), some (.ref ld), some (.ref ln), some (.ref ls), some (.str ff), some (.ref lp), o10] ∧ Same H H' ∧ H' lp = some (.lst ((nm :: (ff.cps.toList.take i).map (argP a b n)).map V.str))) ⟨none, rfl, s3, hlp⟩
      (fun i σ H' hi _ => hi) (fun σ H' _ => Nat.le_refl _) ?_ ?_⟩
    · rintro i x σ H' H'' hi ⟨o10, rfl, sH, hl⟩ ⟨rfl, c, hc, rfl⟩
      have hc' : ff.cps.toList[i]? = some c := by rw [Array.getElem?_toList]; exact hc
      have hch' := hch c (List.mem_of_getElem? hc')
      have tk : ff.cps.toList.take (i + 1) = ff.cps.toList.take i ++ [c] := by rw [List.take_add_one, hc']; rfl
      have fin : ∀ z : Str, z = argP a b n c → ∃ o10 : Option V, ([some (.int w), some (.int op), some (.int a), some (.int b), some (.int n), some (.ref ld), some (.ref ln), some (.ref ls), some (.str ff), some (.ref lp), some (.str ⟨#[c]⟩)] : List (Option V)) = [some (.int w), some (.int op), some (.int a), some (.int b), some (.int n), some (.ref ld), some (.ref ln), some (.ref ls), some (.str ff), some (.ref lp), o10] ∧ Same H (upd H'' lp (.lst ((nm :: (ff.cps.toList.take i).map (argP a b n)).map V.str ++ [V.str z]))) ∧ upd H'' lp (.lst ((nm :: (ff.cps.toList.take i).map (argP a b n)).map V.str ++ [V.str z])) lp = some (.lst ((nm :: (ff.cps.toList.take (i + 1)).map (argP a b n)).map V.str)) := fun z hz => by
        refine ⟨_, rfl, same_mut sH nlp, ?_⟩
        rw [upd_same, tk, List.map_append, hz, List.map_cons, List.map_cons, List.map_append]
        rfl
      have sz : ((nm :: (ff.cps.toList.take i).map (argP a b n)).map V.str).length < sizeLine := size_lt (by rw [List.length_map, List.length_cons, List.length_map, List.length_take]; omega)
      have eqc : ∀ (x : Str) (d : Nat), x = ⟨#[d]⟩ → decide (V.str ⟨#[c]⟩ = V.str x) = decide (c = d) := fun x d hx => by
        subst hx
        exact decide_eq_decide.mpr ⟨fun z => by cases z; rfl, fun z => by rw [z]⟩
      have h1 : ("r" : Str).length = 1 := by decide +kernel
      refine ⟨_, rfl, .inl ⟨rfl, _, SqL.of hl⟩, _, rfl, rfl, _, rfl, ?_⟩
      rw [eqc "n" 110 rfl]
      by_cases c1 : c = 110
      · refine ifT (decide_eq_true c1) ⟨_, rfl, _, rfl, lnn, _, _, _, rfl, rfl, hl, sz, ?_⟩
        exact fin _ (by rw [c1]; rfl)
      · refine ifF (decide_eq_false c1) ⟨_, rfl, rfl, _, rfl, ?_⟩
        rw [eqc "a" 97 rfl]
        by_cases c2 : c = 97
        · refine ifT (decide_eq_true c2) ⟨_, rfl, _, rfl, la, _, _, rfl, rfl, ?_, _, _, _, rfl, rfl, hl, sz, ?_⟩
          · have := numS_len a0 (by omega); exact Nat.le_trans (show ("r" : Str).length + (numS a).length ≤ 10 by omega) (by decide)
          · exact fin _ (by rw [c2]; rfl)
        · have c3 : c = 98 := by omega
          refine ifF (decide_eq_false c2) ⟨_, rfl, _, rfl, lb, _, _, rfl, rfl, ?_, _, _, _, rfl, rfl, hl, sz, ?_⟩
          · have := numS_len b0 (by omega); exact Nat.le_trans (show ("r" : Str).length + (numS b).length ≤ 10 by omega) (by decide)
          · exact fin _ (by rw [c3]; rfl)
    · rintro σ H' ⟨o10, rfl, sH, hl⟩
      rw [List.take_of_length_le (by omega)] at hl
      refine ⟨rfl, _, rfl, " ", lp, _, rfl, rfl, .inl (SqL.of hl), ?_, ?_⟩
      · have := sum_le (l := nm :: ff.cps.toList.map (argP a b n)) (fun x hx => by
          rcases List.mem_cons.mp hx with rfl | hx
          · exact hnm
          · obtain ⟨c, _, rfl⟩ := List.mem_map.mp hx
            exact arg_len a0 a1 b0 b1 n0 n1)
        have h1 : (" " : Str).length = 1 := by decide +kernel
        rw [List.length_cons, List.length_map] at this ⊢
        rw [h1]
        omega
      · exact k _ sH
end
end Q39




set_option pp.maxSteps 1500
namespace Q39
open PySem L2 G M40
open C8 (Cal Met Mak pe_c pe_mk pe_mt pe_mt0 pe_gc pss_cut tCut)
def numIn (p : Str) (bound : Int) : Option Int := if p = "" ∨ 6 < p.length ∨ digs p = false then none else if (p.cps.toList.head? = some 48 ∧ p ≠ "0") ∨ bound ≤ valS p then none else some (valS p)
theorem dig_mem (c : Nat) : decide (c ∈ ("0123456789" : Str).cps.toList) = (decide (48 ≤ c) && decide (c ≤ 57)) := by
  rw [show ("0123456789" : Str).cps.toList = [48, 49, 50, 51, 52, 53, 54, 55, 56, 57] by decide +kernel]
  rw [Bool.eq_iff_iff]
  simp only [List.mem_cons, List.not_mem_nil, or_false, decide_eq_true_eq, Bool.and_eq_true]
  omega
theorem digs_any (p : Str) : ((p.cps.toList.map fun c => !(decide (48 ≤ c) && decide (c ≤ 57))).any id) = !digs p := any_not _ _
theorem empty_iff (p : Str) : p = "" ↔ p.cps.toList = [] := by
  constructor
  · intro h; rw [h]; rfl
  · intro h
    exact TL.ext_tl h
theorem int_digs {p : Str} (h : digs p = true) (hne : p ≠ "") (hl : p.length ≤ 6) : PySem.intText? p = some (valS p) := by
  have e : SX.S p.cps.toList = p := SX.S_tl p
  have := SX.int_S (a := p.cps.toList) h (fun z => hne ((empty_iff p).mpr z)) (by rw [Array.length_toList]; show p.cps.size ≤ 4300; have : p.length = p.cps.size := rfl; omega)
  rw [e] at this
  exact this
section
variable {P : Program} {w : World} {K : PySem.W.Frag} {mg : Str → Option Value} {base : Heap}
/-! ### number_in -/
def spNum : Sp := fun vs H Q _ => ∃ (p : Str) (b : Int), vs = [.str p, .int b] ∧ p.length ≤ 10000 ∧ ∀ H', Same H H' → Q (optV (numIn p b)) H'
theorem ok_num {f : Addr} {fd : FuncData} (F : Fun K "number_in" "number_in" s_number_in f fd) (T : Txt K mg) : FnOk P w K mg base CX0 1 f fd ["text", "bound"] spNum := by
  refine F.ok sc_number_in (fun vs H Q E h => ?_) (fun cdv A outer s H vs Q E hr h => ?_)
  · obtain ⟨p, b, rfl, _⟩ := h
    rfl
  · obtain ⟨p, b, rfl, hl, k⟩ := h
    have hsz : p.length ≤ sizeLine := Nat.le_trans hl (by decide)
    refine ⟨_, (pss_cons (ps_if (PW.pt (pw_or (pt_cmpR op_eq (pv 0) pe_str (nomark _)) (pw_or (pt_cmpR op_gt (pe_callB call_len_str (by rfl) T.b_len boot_len' (pa_cons (pv 0) pa_nil)) pe_int (nomark _)) (pw_or1 (pt_val (pe_callB (cr_any rfl) (by rfl) T.b_any boot_any' (pa_cons (pe_lc (own := [("sign", 2)]) rfl sc_number_in.nd (pi_str (pv 0)) (blkOk_by (own := [("sign", 2)]) (N := ["text", "bound", "sign"]) (sc := defScope s_number_in) (by decide +kernel)) (fun _ _ _ _ _ => (pg_name (i := 2) sc_number_in.nd rfl (Or.inl rfl))) (fun _ _ _ _ _ => pts_nil) (fun _ _ _ _ _ => (pe_cmpR op_notIn_sign (pv 2) pe_str rfl))) pa_nil))))))) (pss_one (ps_ret pe_non)) pss_nil)
      (pss_cons (ps_if (PW.pt (pw_or (PW.pt (pw_and (pt_cmpR op_eq (pe_ix ix_str (pv 0) pe_int (fun _ _ => rfl)) pe_str (nomark _)) (pw_and1 (pt_cmpR op_ne (pv 0) pe_str (nomark _))))) (pw_or1 (pt_cmpR op_ge (pe_callTy call_int_str (by rfl) T.b_int boot_int' (pa_cons (pv 0) pa_nil)) (pv 1) (nomark _))))) (pss_one (ps_ret pe_non)) pss_nil)
      (pss_one (ps_ret (pe_callTy call_int_str (by rfl) T.b_int boot_int' (pa_cons (pv 0) pa_nil)))))), ?_⟩
    unfold numIn at k
    by_cases h1 : p = ""
    · rw [if_pos (.inl h1)] at k
      exact ⟨_, rfl, rfl, _, rfl, ifT (decide_eq_true (by rw [h1])) (ifT rfl (k _ (Same.refl _)))⟩
    refine ⟨_, rfl, rfl, _, rfl, ifF (decide_eq_false fun z => h1 (V.str.inj z)) ⟨_, rfl, p, rfl, hsz, _, _, rfl, rfl, _, rfl, ?_⟩⟩
    by_cases h2 : 6 < p.length
    · rw [if_pos (.inr (.inl h2))] at k
      exact ifT (decide_eq_true (by omega)) (ifT rfl (k _ (Same.refl _)))
    refine ifF (decide_eq_false (by omega)) ⟨_, rfl, p, rfl, fun D hD => ?_⟩
    have psz : p.cps.size = p.length := rfl
    refine lc_str (x := p) (fun _ => true) (fun c => .bl (!(decide (48 ≤ c) && decide (c ≤ 57)))) (by omega) (fun c acc R hc ha hno hyes => ?_) ?_
    · refine ⟨rfl, _, rfl, c, "0123456789", rfl, rfl, acc, upd_same, ha, ?_⟩
      rw [upd_app, dig_mem]
      exact hyes rfl
    rw [List.filter_eq_self.mpr fun _ _ => rfl, show (p.cps.toList.map fun c => V.bl (!(decide (48 ≤ c) && decide (c ≤ 57)))) = (p.cps.toList.map fun c => !(decide (48 ≤ c) && decide (c ≤ 57))).map V.bl by rw [List.map_map]; rfl]
    have s2 : Same H (upd H D (.lst ((p.cps.toList.map fun c => !(decide (48 ≤ c) && decide (c ≤ 57))).map V.bl))) := same_new hD
    refine ⟨D, _, rfl, SqL.of upd_same, _, rfl, ?_⟩
    cases h3 : digs p with
    | false =>
      rw [if_pos (.inr (.inr h3))] at k
      exact ifT (by rw [digs_any, h3]; rfl) (k _ s2)
    | true =>
      rw [if_neg (fun z => z.elim h1 fun z => z.elim h2 fun z => by rw [h3] at z; cases z)] at k
      refine ifF (by rw [digs_any, h3]; rfl) ?_
      have hint := int_digs h3 h1 (by omega)
      have h640 : p.length ≤ 640 := by omega
      obtain ⟨c0, r0, e0⟩ : ∃ c0 r0, p.cps.toList = c0 :: r0 := by
        cases e : p.cps.toList with
        | nil => exact absurd ((empty_iff p).mpr e) h1
        | cons c r => exact ⟨c, r, rfl⟩
      have at_ : atI p.cps.toList 0 = some c0 := by rw [e0]; exact atI_nat (j := 0) rfl
      have eq0 : decide (V.str ⟨#[c0]⟩ = V.str "0") = decide (c0 = 48) := decide_eq_decide.mpr ⟨fun z => by cases z; rfl, fun z => by rw [z]; rfl⟩
      have hd0 : p.cps.toList.head? = some c0 := by rw [e0]; rfl
      rw [hd0] at k
      refine ⟨_, rfl, p, 0, c0, rfl, rfl, hsz, at_, rfl, _, rfl, ?_⟩
      rw [eq0]
      by_cases h4 : c0 = 48
      · refine ifT (decide_eq_true h4) ⟨_, rfl, rfl, _, rfl, ?_⟩
        by_cases h6 : p = "0"
        · refine ifF (by rw [h6]; rfl) ?_
          refine ⟨_, rfl, p, valS p, rfl, hint, h640, _, rfl, _, _, rfl, rfl, _, rfl, ?_⟩
          by_cases h5 : b ≤ valS p
          · rw [if_pos (.inr h5)] at k
            exact ifT (decide_eq_true h5) (k _ s2)
          · rw [if_neg (fun z => z.elim (fun z => z.2 h6) h5)] at k
            exact ifF (decide_eq_false h5) ⟨_, rfl, p, valS p, rfl, hint, h640, k _ s2⟩
        · rw [if_pos (.inl ⟨by rw [h4], h6⟩)] at k
          exact ifT (by simp [h6]) (ifT rfl (k _ s2))
      · refine ifF (decide_eq_false h4) (ifF rfl ?_)
        refine ⟨_, rfl, p, valS p, rfl, hint, h640, _, rfl, _, _, rfl, rfl, _, rfl, ?_⟩
        by_cases h5 : b ≤ valS p
        · rw [if_pos (.inr h5)] at k
          exact ifT (decide_eq_true h5) (k _ s2)
        · rw [if_neg (fun z => z.elim (fun z => h4 (Option.some.inj z.1)) h5)] at k
          exact ifF (decide_eq_false h5) ⟨_, rfl, p, valS p, rfl, hint, h640, k _ s2⟩
end
end Q39




set_option pp.maxSteps 1500
namespace Q39
open PySem L2 G M40
open C8 (Cal Met Mak pe_c pe_mk pe_mt pe_mt0 pe_gc pss_cut tCut)
theorem eqv_str {a b : Str} (ha : PyData.strOk a = true) (hb : PyData.strOk b = true) : PyData.eqv (.str a) (.str b) = decide (b = a) := by
  show (a == b) = decide (b = a)
  rw [Bool.eq_iff_iff, beq_iff_eq, decide_eq_true_iff]
  exact ⟨Eq.symm, Eq.symm⟩
def foundK (z : Int × Int × Int) : List (Key × V) := mergeK [] [(.inr "a", .int z.1), (.inr "b", .int z.2.1), (.inr "n", .int z.2.2)]
theorem in_strs {l : List Str} {p : Str} (hl : ∀ x ∈ l, PyData.strOk x = true) (hp : PyData.strOk p = true) : ((l.map PyData.str).any fun z => PyData.eqv z (.str p)) = decide (p ∈ l) := by
  rw [Bool.eq_iff_iff, List.any_eq_true, decide_eq_true_iff]
  constructor
  · rintro ⟨d, hd, e⟩
    obtain ⟨x, hx, rfl⟩ := List.mem_map.mp hd
    rw [eqv_str (hl x hx) hp, decide_eq_true_iff] at e
    rw [e]
    exact hx
  · intro h
    exact ⟨_, List.mem_map.mpr ⟨p, h, rfl⟩, by rw [eqv_str hp hp]; exact decide_eq_true rfl⟩
theorem strs_shaped {l : List Str} (hl : ∀ x ∈ l, PyData.strOk x = true) : SeqAt.shaped (.tuple (l.map PyData.str)) = true := by
  show ((PyData.tuple (l.map PyData.str)).canLay0 && decide ((PyData.tuple (l.map PyData.str)).depth ≤ 64)) = true
  have h1 : ∀ l : List Str, (∀ x ∈ l, PyData.strOk x = true) → PyData.canLayAll0 (l.map PyData.str) = true ∧ PyData.depthAll (l.map PyData.str) = 0 := by
    intro l
    induction l with
    | nil => intro _; exact ⟨by simp [PyData.canLayAll0], by simp [PyData.depthAll]⟩
    | cons x r ih =>
      intro h
      obtain ⟨a, b⟩ := ih fun y hy => h y (List.mem_cons_of_mem _ hy)
      exact ⟨by simp [PyData.canLayAll0, PyData.canLay0, h x List.mem_cons_self, a], by simp [PyData.depthAll, PyData.depth, b]⟩
  obtain ⟨a, b⟩ := h1 l hl
  simp [PyData.canLay0, PyData.depth, a, b]
theorem str_shaped {p : Str} (h : PyData.strOk p = true) : SeqAt.shaped (.str p) = true := by
  show ((PyData.str p).canLay0 && decide ((PyData.str p).depth ≤ 64)) = true
  simp [PyData.canLay0, PyData.depth, h]
def regs : List Str := ["r0", "r1", "r2", "r3"]
def regV (p : Str) : Option Int := if p = "r0" then some 0 else if p = "r1" then some 1 else if p = "r2" then some 2 else if p = "r3" then some 3 else none
def fieldV (c : Nat) (p : Str) : Option Int := if c = 110 then numIn p 256 else regV p
def stepF (z : Int × Int × Int) (c : Nat) (v : Int) : Int × Int × Int := if c = 97 then (v, z.2.1, z.2.2) else if c = 98 then (z.1, v, z.2.2) else (z.1, z.2.1, v)
def readF : List Nat → List Str → Int × Int × Int → Option (Int × Int × Int)
  | c :: cs, p :: ps, z => match fieldV c p with
    | none => none
    | some v => readF cs ps (stepF z c v)
  | _, _, z => some z
def headT (p : Str) : Option (Int × Str × Int) := if p ∈ doing then some (2, "ab", (doing.idxOf p : Nat)) else (opsN.lookup p).map fun z => (z.1, z.2, 0)
def readB (h : Int × Str × Int) (ps : List Str) : Option Int := if ps.length ≠ 1 + h.2.1.cps.size then none else (readF h.2.1.cps.toList ps.tail (0, 0, h.2.2)).map fun z => 4096 * h.1 + 1024 * z.1 + 256 * z.2.1 + z.2.2
def readT (ps : List Str) : Option Int := match (if ps.head? = some "WORD" ∧ ps.length = 2 then numIn (ps.getD 1 "") 65536 else none) with
  | some v => some v
  | none => (headT (ps.headD "")).bind fun h => readB h ps
def RaiseI (C : Addr) (H : Hp) (E : XK) : Prop := ∀ (H' : Hp) (d : Addr), Same H H' → H' d = some (.xd [("sign", .int 0)]) → E (.ref C) (some d) H'
theorem RaiseI.here {C : Addr} {H H' : Hp} {E : XK} {d : Addr} (r : RaiseI C H E) (s : Same H H') (n : H' d = none) : E (.ref C) (some d) (upd H' d (.xd [("sign", .int 0)])) := r _ d (s.trans (same_new n)) upd_same
theorem lookup_mem {α β : Type} [BEq α] [LawfulBEq α] {a : α} {b : β} : ∀ {l : List (α × β)}, l.lookup a = some b → (a, b) ∈ l
  | [], h => by cases h
  | (x, y) :: r, h => by
    rw [List.lookup] at h
    split at h
    · rename_i e
      cases h
      rw [eq_of_beq e]
      exact List.mem_cons_self
    · exact List.mem_cons_of_mem _ (lookup_mem h)
theorem head_ok {p : Str} {h : Int × Str × Int} (e : headT p = some h) : (∀ c ∈ h.2.1.cps.toList, c = 97 ∨ c = 98 ∨ c = 110) ∧ h.2.1.cps.size ≤ 3 ∧ h.2.1.cps.all (· < 128) = true ∧ 0 ≤ h.1 ∧ h.1 < 16 ∧ 0 ≤ h.2.2 ∧ h.2.2 < 256 := by
  unfold headT at e
  split at e
  · rename_i hm
    cases e
    have : doing.idxOf p < doing.length := List.idxOf_lt_length_of_mem hm
    have l9 : doing.length = 9 := rfl
    have z : (∀ c ∈ ("ab" : Str).cps.toList, c = 97 ∨ c = 98 ∨ c = 110) ∧ ("ab" : Str).cps.size ≤ 3 ∧ ("ab" : Str).cps.all (· < 128) = true := by decide +kernel
    exact ⟨z.1, z.2.1, z.2.2, (by decide : (0 : Int) ≤ 2), (by decide : (2 : Int) < 16), Int.natCast_nonneg _, (show ((doing.idxOf p : Nat) : Int) < 256 by omega)⟩
  · obtain ⟨z, hz, e⟩ := Option.map_eq_some_iff.mp e
    cases e
    have all : ∀ q ∈ opsN, (∀ c ∈ q.2.2.cps.toList, c = 97 ∨ c = 98 ∨ c = 110) ∧ q.2.2.cps.size ≤ 3 ∧ q.2.2.cps.all (· < 128) = true ∧ 0 ≤ q.2.1 ∧ q.2.1 < 16 := by decide +kernel
    obtain ⟨a, b, c, d, e⟩ := all (p, z) (lookup_mem hz)
    exact ⟨a, b, c, d, e, (by decide : (0 : Int) ≤ 0), (by decide : (0 : Int) < 256)⟩
def InZ (z : Int × Int × Int) : Prop := (0 ≤ z.1 ∧ z.1 < 4) ∧ (0 ≤ z.2.1 ∧ z.2.1 < 4) ∧ 0 ≤ z.2.2 ∧ z.2.2 < 256
theorem numIn_range {p : Str} {b v : Int} (h : numIn p b = some v) : 0 ≤ v ∧ v < b := by
  unfold numIn at h
  split at h
  · cases h
  · split at h
    · cases h
    · rename_i n
      cases h
      refine ⟨by unfold valS; omega, ?_⟩
      exact Int.not_le.mp fun z => n (.inr z)
theorem regV_range {p : Str} {v : Int} (h : regV p = some v) : 0 ≤ v ∧ v < 4 := by
  unfold regV at h
  split at h
  · cases h; decide
  · split at h
    · cases h; decide
    · split at h
      · cases h; decide
      · split at h
        · cases h; decide
        · cases h
theorem InZ.step {z : Int × Int × Int} {c : Nat} {p : Str} {v : Int} (h : InZ z) (hc : c = 97 ∨ c = 98 ∨ c = 110) (hv : fieldV c p = some v) : InZ (stepF z c v) := by
  obtain ⟨h1, h2, h3⟩ := h
  unfold fieldV at hv
  rcases hc with rfl | rfl | rfl
  · rw [if_neg (by decide)] at hv
    exact ⟨regV_range hv, h2, h3⟩
  · rw [if_neg (by decide)] at hv
    exact ⟨h1, regV_range hv, h3⟩
  · rw [if_pos rfl] at hv
    exact ⟨h1, h2, numIn_range hv⟩
theorem found_step (z : Int × Int × Int) {c : Nat} (v : Int) (hc : c = 97 ∨ c = 98 ∨ c = 110) : putK (foundK z) (.inr ⟨#[c]⟩) (.int v) = foundK (stepF z c v) := by
  rcases hc with rfl | rfl | rfl <;> rfl
structure OkP (ps : List Str) (x : Str) : Prop where
  sp : Txt.split x " " = ps
  ne : ps ≠ []
  ok : ∀ p ∈ ps, PyData.strOk p = true ∧ p.length ≤ 10000
  lx : x.length ≤ 100000
  lp : ps.length ≤ 1000
section
variable {P : Program} {w : World} {K : PySem.W.Frag} {mg : Str → Option Value} {base : Heap}
theorem idx_get {p : Str} : ∀ {l : List Str}, p ∈ l → l[l.idxOf p]? = some p
  | [], h => by cases h
  | x :: r, h => by
    rw [List.idxOf_cons]
    cases e : x == p with
    | true => rw [eq_of_beq e]; rfl
    | false =>
      have hr : p ∈ r := (List.mem_cons.mp h).resolve_left fun z => by rw [z] at e; simp at e
      exact idx_get hr
theorem idx_min {p : Str} : ∀ {l : List Str} {m : Nat}, m < l.idxOf p → l[m]? ≠ some p
  | [], m, h, _ => by cases h
  | x :: r, m, h, z => by
    rw [List.idxOf_cons] at h
    cases e : x == p with
    | true => rw [e] at h; cases h
    | false =>
      rw [e] at h
      cases m with
      | zero =>
        have := Option.some.inj z
        rw [this] at e
        simp at e
      | succ m => exact idx_min (l := r) (m := m) (Nat.lt_of_succ_lt_succ h) z
theorem lookup_shapes (p : Str) : shapesD.lookup p = (opsN.lookup p).map fun z => .tuple [.int z.1, .str z.2] := by
  rw [shapes_eq]
  generalize opsN = l
  induction l with
  | nil => rfl
  | cons q r ih =>
    obtain ⟨x, o, f⟩ := q
    rw [List.map_cons, List.lookup, List.lookup]
    cases p == x
    · exact ih
    · rfl
theorem readF_drop {cs : List Nat} {ps : List Str} {z z' : Int × Int × Int} {i c : Nat} {p : Str} {v : Int} (h : readF cs ps z = readF (cs.drop i) (ps.drop i) z') (hc : cs[i]? = some c) (hp : ps[i]? = some p) (hv : fieldV c p = some v) : readF cs ps z = readF (cs.drop (i + 1)) (ps.drop (i + 1)) (stepF z' c v) := by
  obtain ⟨h1, e1⟩ := List.getElem?_eq_some_iff.mp hc
  obtain ⟨h2, e2⟩ := List.getElem?_eq_some_iff.mp hp
  rw [h, List.drop_eq_getElem_cons h1, List.drop_eq_getElem_cons h2, e1, e2, readF, hv]
theorem readF_none {cs : List Nat} {ps : List Str} {z z' : Int × Int × Int} {i c : Nat} {p : Str} (h : readF cs ps z = readF (cs.drop i) (ps.drop i) z') (hc : cs[i]? = some c) (hp : ps[i]? = some p) (hv : fieldV c p = none) : readF cs ps z = none := by
  obtain ⟨h1, e1⟩ := List.getElem?_eq_some_iff.mp hc
  obtain ⟨h2, e2⟩ := List.getElem?_eq_some_iff.mp hp
  rw [h, List.drop_eq_getElem_cons h1, List.drop_eq_getElem_cons h2, e1, e2, readF, hv]
theorem readF_end {cs : List Nat} {ps : List Str} {z z' : Int × Int × Int} {i : Nat} (h : readF cs ps z = readF (cs.drop i) (ps.drop i) z') (hc : cs.length ≤ i) : readF cs ps z = some z' := by
  rw [h, List.drop_eq_nil_of_le hc]
  cases ps.drop i <;> rfl
theorem reg_cases {p : Str} (h : p ∈ regs) : ∃ (c : Nat) (v : Int), regV p = some v ∧ atI p.cps.toList 1 = some c ∧ PySem.intText? ⟨#[c]⟩ = some v ∧ p.length = 2 := by
  unfold regs at h
  simp only [List.mem_cons, List.not_mem_nil, or_false] at h
  have d : ∀ (k : Nat), 48 ≤ k → k ≤ 57 → PySem.intText? ⟨#[k]⟩ = some ((k - 48 : Nat) : Int) := fun k h1 h2 => by
    have := SX.int_S (a := [k]) (by simp [h1, h2]) (by simp) (by simp)
    rw [show NumText.digitsVal [k] = k - 48 by simp [NumText.digitsVal]] at this
    exact this
  rcases h with rfl | rfl | rfl | rfl
  · exact ⟨48, 0, by decide +kernel, atI_nat (j := 1) (by decide +kernel), d 48 (by decide) (by decide), by decide +kernel⟩
  · exact ⟨49, 1, by decide +kernel, atI_nat (j := 1) (by decide +kernel), d 49 (by decide) (by decide), by decide +kernel⟩
  · exact ⟨50, 2, by decide +kernel, atI_nat (j := 1) (by decide +kernel), d 50 (by decide) (by decide), by decide +kernel⟩
  · exact ⟨51, 3, by decide +kernel, atI_nat (j := 1) (by decide +kernel), d 51 (by decide) (by decide), by decide +kernel⟩
theorem reg_none {p : Str} (h : ¬ p ∈ regs) : regV p = none := by
  unfold regs at h
  simp only [List.mem_cons, List.not_mem_nil, or_false, not_or] at h
  obtain ⟨h0, h1, h2, h3⟩ := h
  unfold regV
  rw [if_neg h0, if_neg h1, if_neg h2, if_neg h3]
/-! ### read_word -/
def spRead (K : PySem.W.Frag) (C : Addr) : Sp := fun vs H Q E => ∃ (x : Str) (ps : List Str), vs = [.str x] ∧ OkP ps x ∧ (∀ v, readT ps = some v → ∀ H', Same H H' → Q (.int v) H') ∧ (readT ps = none → RaiseI C H E)
theorem ok_read {CL CC : Addr} {f : Addr} {fd : FuncData} (F : Fun K "read_word" "read_word" s_read_word f fd) (T : Txt K mg) (KD : KTxt K w mg "SHAPES" shapesD) (TD : ∀ a, mg "DOING" = some (.ref a) → ∃ o, K.lookup a = some o ∧ o.cls = .type "tuple" ∧ o.dict = none) (c_InvalidLine : Erm P w K mg base 1 "InvalidLine" CL "sign") (c_number_in : Cal P w K mg base 1 "number_in" spNum []) (c_word_of : CalX P w K mg base 3 "word_of" (spWordOf K CC)) :
    FnOk P w K mg base (L2.CX P w) 4 f fd ["line"] (spRead K CL) := by
  obtain ⟨dS, mS, D_SHAPES⟩ := KD.ex
  refine F.okX sc_read_word (fun vs H Q E h => ?_) (fun cdv A outer s H vs Q E hr h => ?_)
  · obtain ⟨x, ps, rfl, _⟩ := h
    rfl
  · obtain ⟨x, ps, rfl, O, ky, kn⟩ := h
    have hu := hu_of hr
    have hu65 := hu65_of hr
    obtain ⟨v1, g_DOING, d1⟩ := T.c_DOING
    obtain ⟨v2, g_MOST_WORD, d2⟩ := T.c_MOST_WORD
    have g_SHAPES : ∃ u, mg "SHAPES" = some u ∧ RelV (V.ref dS) u := ⟨_, mS, rfl⟩
    refine ⟨_, (pss_cons (ps_set (i := 1) sc_read_word.nd rfl (Or.inl rfl) (pe_bm PySem.F.plainAttrs_str PySem.F.slot_str_split PySem.F.type_str_split mt_split (pv 0) (pa_cons pe_str pa_nil)))
      (pss_cut (ps_if (PW.pt (pw_and (pt_cmpR op_eq (pe_ix ix_list (pv 1) pe_int (fun _ _ => rfl)) pe_str (nomark _)) (pw_and1 (pt_cmpR op_eq (pe_callB call_len_seq (by rfl) T.b_len boot_len' (pa_cons (pv 1) pa_nil)) pe_int (nomark _))))) (pss_cons (ps_set (i := 2) sc_read_word.nd rfl (Or.inl rfl) (pe_c c_number_in hr (by omega) rfl (pa_cons (pe_ix ix_list (pv 1) pe_int (fun _ _ => rfl)) (pa_cons (pe_op op_add (pe_gc (by rfl) g_MOST_WORD) pe_int) pa_nil))))
      (pss_one (ps_if (pt_cmpR op_notN (pv 2) pe_non (nomark _)) (pss_one (ps_ret (pv 2))) pss_nil))) pss_nil)
      (pss_cut (ps_asg (pe_tup (pa_cons pe_int (pa_cons pe_str (pa_cons pe_int pa_nil)))) (pg_tup rfl (pgs_cons (pg_name (i := 3) sc_read_word.nd rfl (Or.inl rfl)) (pgs_cons (pg_name (i := 4) sc_read_word.nd rfl (Or.inl rfl)) (pgs_cons (pg_name (i := 5) sc_read_word.nd rfl (Or.inl rfl)) pgs_nil)))))
      (pss_cut (ps_if (pt_cmpR (op_inT hu65) (pe_ix ix_list (pv 1) pe_int (fun _ _ => rfl)) (pe_gc (by rfl) g_DOING) rfl) (pss_one (ps_set (i := 5) sc_read_word.nd rfl (Or.inl rfl) (pe_bm PySem.F.plainAttrs_tuple PySem.F.slot_tuple_index PySem.F.type_tuple_index mt_tup_index (pe_gc (by rfl) g_DOING) (pa_cons (pe_ix ix_list (pv 1) pe_int (fun _ _ => rfl)) pa_nil)))) (pss_one (ps_if (pt_cmpR (op_inKD D_SHAPES) (pe_ix ix_list (pv 1) pe_int (fun _ _ => rfl)) (pe_gc (by rfl) g_SHAPES) rfl) (pss_one (ps_asg (pe_ix (ix_KD D_SHAPES) (pe_gc (by rfl) g_SHAPES) (pe_ix ix_list (pv 1) pe_int (fun _ _ => rfl)) (fun _ _ => rfl)) (pg_tup rfl (pgs_cons (pg_name (i := 3) sc_read_word.nd rfl (Or.inl rfl)) (pgs_cons (pg_name (i := 4) sc_read_word.nd rfl (Or.inl rfl)) pgs_nil))))) (pss_one (ps_raise rfl (takes_of rfl rfl rfl rfl) (pmk_e c_InvalidLine hr (by omega) rfl (pa_cons pe_int pa_nil)))))))
      (pss_cons (ps_if (pt_cmpR op_ne (pe_callB call_len_seq (by rfl) T.b_len boot_len' (pa_cons (pv 1) pa_nil)) (pe_op op_add pe_int (pe_callB call_len_str (by rfl) T.b_len boot_len' (pa_cons (pv 4) pa_nil))) (nomark _)) (pss_one (ps_raise rfl (takes_of rfl rfl rfl rfl) (pmk_e c_InvalidLine hr (by omega) rfl (pa_cons pe_int pa_nil)))) pss_nil)
      (pss_cut (ps_set (i := 6) sc_read_word.nd rfl (Or.inl rfl) (pe_disp (pps_cons pe_str pe_int (pps_cons pe_str pe_int (pps_cons pe_str (pv 5) pps_nil))) (by rfl) (by rfl) (fun z => by cases z) (by decide)))
      (pss_cons (ps_for (passes_of rfl) rfl (pi_zipS (by rfl) T.b_zip (pa_cons (pv 4) (pa_cons (pe_slice sl_list (pv 1) (po_some pe_int) po_none) pa_nil))) (pg_tup rfl (pgs_cons (pg_name (i := 7) sc_read_word.nd rfl (Or.inl rfl)) (pgs_cons (pg_name (i := 8) sc_read_word.nd rfl (Or.inl rfl)) pgs_nil))) (pss_cut (ps_set (i := 2) sc_read_word.nd rfl (Or.inl rfl) (pe_ifExp (pt_cmpR op_eq (pv 7) pe_str (nomark _)) (pe_c c_number_in hr (by omega) rfl (pa_cons (pv 8) (pa_cons pe_int pa_nil))) pe_non))
      (pss_cut (ps_if (PW.pt (pw_and (pt_cmpR op_ne (pv 7) pe_str (nomark _)) (pw_and1 (pt_cmpR (op_inT hu65) (pv 8) (pe_tup (pa_cons pe_str (pa_cons pe_str (pa_cons pe_str (pa_cons pe_str pa_nil))))) rfl)))) (pss_one (ps_set (i := 2) sc_read_word.nd rfl (Or.inl rfl) (pe_callTy call_int_str (by rfl) T.b_int boot_int' (pa_cons (pe_ix ix_str (pv 8) pe_int (fun _ _ => rfl)) pa_nil)))) pss_nil)
      (pss_cons (ps_if (pt_cmpR op_isN (pv 2) pe_non (nomark _)) (pss_one (ps_raise rfl (takes_of rfl rfl rfl rfl) (pmk_e c_InvalidLine hr (by omega) rfl (pa_cons pe_int pa_nil)))) pss_nil)
      (pss_one (ps_dput hu (pv 6) (pv 7) (pv 2) rfl))))))
      (pss_one (ps_ret (pe_cx c_word_of hr (by omega) rfl (takes_of rfl rfl rfl rfl) (pa_cons (pv 3) (pa_cons (pe_dget hu (pv 6) pe_str (fun _ _ => rfl)) (pa_cons (pe_dget hu (pv 6) pe_str (fun _ _ => rfl)) (pa_cons (pe_dget hu (pv 6) pe_str (fun _ _ => rfl)) pa_nil)))))))))))))), ?_⟩
    obtain ⟨ea, es, rfl, hea, hes⟩ := dp_tup (d1 H)
    obtain rfl : es = doing.map V.str := dps_strs_of (ns := doing) hes
    cases dp_int (d2 H)
    refine ⟨_, rfl, rfl, x, " ", rfl, rfl, by decide +kernel, Nat.le_trans (show x.length + 2 ≤ 100002 by have := O.lx; omega) (by decide), fun pw npw => ?_⟩
    rw [O.sp] at *
    have s1 := same_new (o := HO.lst (ps.map V.str)) npw
    have hpw : upd H pw (.lst (ps.map V.str)) pw = some (.lst (ps.map V.str)) := upd_same
    have hpw0 : H pw = none := npw
    generalize upd H pw (.lst (ps.map V.str)) = H1 at s1 hpw ⊢
    clear npw
    obtain ⟨p0, pr, rfl⟩ : ∃ p0 pr, ps = p0 :: pr := by
      cases e : ps with
      | nil => exact absurd e O.ne
      | cons a b => exact ⟨a, b, rfl⟩
    have ok0 := O.ok p0 List.mem_cons_self
    have at0 : ∀ {l : List V}, l = (p0 :: pr).map V.str → atI l 0 = some (.str p0) := fun e => by rw [e]; exact atI_nat (j := 0) rfl
    refine ⟨fun σ' H' => ∃ o2 : Option V, σ' = [some (.str x), some (.ref pw), o2, none, none, none, none, none, none] ∧ Same H H' ∧ H' pw = some (.lst ((p0 :: pr).map V.str)) ∧ (if (p0 :: pr).head? = some "WORD" ∧ (p0 :: pr).length = 2 then numIn ((p0 :: pr).getD 1 "") 65536 else none) = none, ?_, ?_⟩
    · refine ⟨_, rfl, pw, _, 0, _, rfl, rfl, SqL.of hpw, at0 rfl, rfl, _, rfl, ?_⟩
      by_cases hw : p0 = "WORD"
      · refine ifT (decide_eq_true (by rw [hw])) ⟨_, rfl, pw, _, rfl, .inl (SqL.of hpw), rfl, _, rfl, ?_⟩
        by_cases hl : (p0 :: pr).length = 2
        · obtain ⟨p1, rfl⟩ : ∃ p1, pr = [p1] := by
            match pr, hl with
            | [q], _ => exact ⟨q, rfl⟩
          have ok1 := O.ok p1 (by simp)
          refine ifT (by rw [List.length_map, hl]; rfl) ⟨_, rfl, pw, _, 1, _, rfl, rfl, SqL.of hpw, atI_nat (j := 1) rfl, _, _, rfl, rfl, ?_⟩
          refine ⟨p1, 65536, rfl, ok1.2, fun H' s' => ?_⟩
          cases en : numIn p1 65536 with
          | some v =>
            refine ⟨_, rfl, rfl, _, rfl, ifT rfl ⟨_, rfl, ky v ?_ _ (s1.trans s')⟩⟩
            unfold readT
            rw [if_pos ⟨by rw [hw]; rfl, rfl⟩]
            show (match numIn p1 65536 with | some v => some v | none => _) = some v
            rw [en]
          | none =>
            refine ⟨_, rfl, rfl, _, rfl, ifF rfl ⟨_, rfl, s1.trans s', s' _ _ hpw, ?_⟩⟩
            rw [if_pos ⟨by rw [hw]; rfl, rfl⟩]
            exact en
        · refine ifF (decide_eq_false fun z => hl ?_) ⟨_, rfl, s1, hpw, if_neg fun z => hl z.2⟩
          have := V.int.inj z
          rw [List.length_map] at this
          omega
      · exact ifF (decide_eq_false fun z => hw (V.str.inj z)) (ifF rfl ⟨_, rfl, s1, hpw, if_neg fun z => hw (Option.some.inj z.1)⟩)
    rintro σ' H2 ⟨o2, rfl, s2, hw2, hW⟩
    have eR : readT (p0 :: pr) = (headT p0).bind fun h => readB h (p0 :: pr) := by
      unfold readT
      rw [hW]
      rfl
    refine ⟨fun σ' H' => σ' = [some (.str x), some (.ref pw), o2, some (.int 2), some (.str "ab"), some (.int 0), none, none, none] ∧ Same H H' ∧ H' pw = some (.lst ((p0 :: pr).map V.str)), ⟨(show 3 ≤ sizeLine by decide), fun t nt => ?_⟩, ?_⟩
    · exact ⟨t, _, rfl, SqT.of upd_same, rfl, _, _, rfl, _, _, rfl, _, _, rfl, rfl, rfl, s2.trans (same_new nt), same_new nt _ _ hw2⟩
    clear s1 hpw s2 hw2
    rintro σ' H3 ⟨rfl, s3, hw3⟩
    have okd : ∀ x ∈ doing, PyData.strOk x = true := by decide +kernel
    refine ⟨fun σ' H' => ∃ (op n : Int) (ff : Str), σ' = [some (.str x), some (.ref pw), o2, some (.int op), some (.str ff), some (.int n), none, none, none] ∧ Same H H' ∧ H' pw = some (.lst ((p0 :: pr).map V.str)) ∧ headT p0 = some (op, ff, n), ?_, ?_⟩
    · refine ⟨_, rfl, pw, _, 0, _, rfl, rfl, SqL.of hw3, at0 rfl, .str p0, doing.map PyData.str, .str _, .tup (Same.tup s3 hea) (dps_strs doing), str_shaped ok0.1, strs_shaped okd, _, rfl, ?_⟩
      rw [in_strs okd ok0.1]
      by_cases hm : p0 ∈ doing
      · refine ifT (decide_eq_true hm) ⟨.inr (.inl ⟨rfl, TD ea ?_⟩), _, rfl, pw, _, 0, _, rfl, rfl, SqL.of hw3, at0 rfl, ea, doing, p0, doing.idxOf p0, rfl, rfl, Same.tup s3 hea, ?_, ?_, ?_⟩
        · obtain ⟨u, e1, e2⟩ := g_DOING
          have e2 : u = Value.ref ea := e2
          rw [e1, e2]
        · exact idx_get hm
        · intro m hlt e
          exact idx_min hlt e
        · refine ⟨2, _, "ab", rfl, s3, hw3, ?_⟩
          unfold headT
          rw [if_pos hm]
      · refine ifF (decide_eq_false hm) ⟨_, rfl, pw, _, 0, _, rfl, rfl, SqL.of hw3, at0 rfl, p0, rfl, rfl, _, rfl, ?_⟩
        have eh : headT p0 = (opsN.lookup p0).map fun z => (z.1, z.2, 0) := by
          unfold headT
          rw [if_neg hm]
        cases hk : opsN.lookup p0 with
        | none =>
          rw [hk] at eh
          refine ifF (by rw [lookup_shapes, hk]; rfl) ?_
          exact ⟨_, rfl, fun d hd => (kn (by rw [eR, eh]; rfl)).here s3 hd⟩
        | some z =>
          rw [hk] at eh
          refine ifT (by rw [lookup_shapes, hk]; rfl) ⟨_, rfl, pw, _, 0, _, rfl, rfl, SqL.of hw3, at0 rfl, p0, _, rfl, rfl, by rw [lookup_shapes, hk]; rfl, fun v hv => ?_⟩
          obtain ⟨t2, x2, rfl, ht2, hx2⟩ := dp_tup (hv H3)
          obtain ⟨y1, y2, rfl, d1', d2'⟩ := dps2' hx2
          cases dp_int d1'
          cases dp_str d2'
          exact ⟨t2, _, rfl, ht2, rfl, _, _, rfl, _, _, rfl, rfl, z.1, 0, z.2, rfl, s3, hw3, eh⟩
    clear s3 hw3
    rintro σ' H4 ⟨op, n, ff, rfl, s4, hw4, eh⟩
    obtain ⟨hch, hsz, hasc, o0, o1, n0, n1⟩ := head_ok eh
    dsimp only at hch hsz hasc o0 o1 n0 n1
    rw [eh] at eR
    have eR : readT (p0 :: pr) = readB (op, ff, n) (p0 :: pr) := eR
    have lps : (p0 :: pr).length ≤ 1000 := O.lp
    have fl : ff.length = ff.cps.size := rfl
    refine ⟨_, rfl, pw, _, rfl, .inl (SqL.of hw4), _, rfl, ff, rfl, Nat.le_trans (show ff.length ≤ 3 by omega) (by decide), _, _, rfl, rfl, rfl, _, rfl, ?_⟩
    rw [List.length_map]
    by_cases hl : (p0 :: pr).length = 1 + ff.cps.size
    · refine ifF (by rw [Bool.not_eq_false', decide_eq_true_iff, hl, fl]; simp) ?_
      refine ⟨fun σ' H' => ∃ pf, σ' = [some (.str x), some (.ref pw), o2, some (.int op), some (.str ff), some (.int n), some (.ref pf), none, none] ∧ Same H H' ∧ H pf = none ∧ H' pw = some (.lst ((p0 :: pr).map V.str)) ∧ H' pf = some (.dK (foundK (0, 0, n))) ∧ pf ≠ pw, ?_, ?_⟩
      · refine fun pf nf => ⟨_, rfl, upd_same, [(.inr "a", .int 0), (.inr "b", .int 0), (.inr "n", .int n)], rfl, (show 3 ≤ 15 by decide), ?_⟩
        rw [upd_upd]
        exact ⟨pf, rfl, s4.trans (same_new nf), none_of_same s4 nf, same_new nf _ _ hw4, upd_same, fun z => by rw [z, hw4] at nf; cases nf⟩
      clear s4 hw4
      rintro σ' H5 ⟨pf, rfl, s5, nf, hw5, hf5, nfw⟩
      refine ⟨_, rfl, _, rfl, _, rfl, pw, _, rfl, SqL.of hw5, fun pz nz => ?_⟩
      have ez : cutV ((p0 :: pr).map V.str) (some (1 : Int)) none = pr.map V.str := cut_from (i := 1) (by simp)
      rw [ez]
      have y6 := same_new (o := HO.lst (pr.map V.str)) nz
      have hz6 : upd H5 pz (.lst (pr.map V.str)) pz = some (.lst (pr.map V.str)) := upd_same
      have s6 := s5.trans y6
      have hf6 := y6 _ _ hf5
      have nzf : pz ≠ pf := fun z => by rw [z, hf5] at nz; cases nz
      have nz0 := none_of_same s5 nz
      generalize upd H5 pz (.lst (pr.map V.str)) = H6 at hz6 s6 hf6 ⊢
      clear y6 nz hf5 s5
      have el : ff.cps.toList.length = ff.cps.size := Array.length_toList
      have prl : pr.length = ff.cps.size := by rw [List.length_cons] at hl; omega
      refine ⟨ff, pz, _, rfl, hasc, SqL.of hz6, for_it (n := ff.cps.size) (fun i σ H' => ∃ (z : Int × Int × Int) (p2 o7 o8 : Option V), σ = [some (.str x), some (.ref pw), p2, some (.int op), some (.str ff), some (.int n), some (.ref pf), o7, o8] ∧ Same H H' ∧ H' pf = some (.dK (foundK z)) ∧ H' pz = some (.lst (pr.map V.str)) ∧ InZ z ∧ readF ff.cps.toList pr (0, 0, n) = readF (ff.cps.toList.drop i) (pr.drop i) z)
        ⟨(0, 0, n), o2, none, none, rfl, s6, hf6, hz6, ⟨⟨(by decide : (0 : Int) ≤ 0), (by decide : (0 : Int) < 4)⟩, ⟨(by decide : (0 : Int) ≤ 0), (by decide : (0 : Int) < 4)⟩, n0, n1⟩, rfl⟩ ?_ ?_ ?_ ?_⟩
      · rintro i σ H' hi ⟨z, p2, o7, o8, rfl, sH, hf, hz, _⟩
        have h1 : i < pr.length := by omega
        have h2 : i < ff.cps.toList.length := by omega
        exact ⟨_, ff.cps[i], .str pr[i], SqL.of hz, by rw [Array.getElem?_eq_getElem hi], by rw [List.getElem?_map, List.getElem?_eq_getElem h1]; rfl⟩
      · rintro σ H' _
        exact Array.getElem?_eq_none (Nat.le_refl _)
      · rintro i y σ H1 H2 hi ⟨z, p2, o7, o8, rfl, sH, hf, hz, iz, er⟩ ⟨T1, c, y1, rfl, nT, rfl, hc, hy⟩
        have h1 : i < pr.length := by omega
        have hp : pr[i]? = some pr[i] := List.getElem?_eq_getElem h1
        have ey : y1 = .str pr[i] := by
          have := hy _ (SqL.of hz)
          rw [List.getElem?_map, hp] at this
          exact (Option.some.inj this).symm
        subst ey
        have hc' : ff.cps.toList[i]? = some c := by rw [Array.getElem?_toList]; exact hc
        have hcc := hch c (List.mem_of_getElem? hc')
        have okp := O.ok pr[i] (List.mem_cons_of_mem _ (List.getElem_mem h1))
        have y7 := same_new (o := HO.tup [V.str ⟨#[c]⟩, V.str pr[i]]) nT
        have s7 := sH.trans y7
        have hf7 := y7 _ _ hf
        have hz7 := y7 _ _ hz
        have eqc : ∀ (q : Str) (d : Nat), q = ⟨#[d]⟩ → decide (V.str ⟨#[c]⟩ = V.str q) = decide (c = d) := fun q d hq => by
          subst hq
          exact decide_eq_decide.mpr ⟨fun z => by cases z; rfl, fun z => by rw [z]⟩
        refine ⟨T1, _, rfl, SqT.of upd_same, rfl, _, _, rfl, _, _, rfl, rfl, ?_⟩
        generalize upd H1 T1 (.tup [.str ⟨#[c]⟩, .str pr[i]]) = G at s7 hf7 hz7 ⊢
        clear nT y7
        refine ⟨fun σ' H' => σ' = [some (.str x), some (.ref pw), some (optV (if c = 110 then numIn pr[i] 256 else none)), some (.int op), some (.str ff), some (.int n), some (.ref pf), some (.str ⟨#[c]⟩), some (.str pr[i])] ∧ Same G H', ?_, ?_⟩
        · refine ⟨_, rfl, rfl, _, rfl, ?_⟩
          rw [eqc "n" 110 rfl]
          by_cases c1 : c = 110
          · rw [if_pos c1]
            exact ifT (decide_eq_true c1) ⟨_, rfl, pr[i], 256, rfl, okp.2, fun H' s' => ⟨rfl, s'⟩⟩
          · rw [if_neg c1]
            exact ifF (decide_eq_false c1) ⟨rfl, Same.refl _⟩
        rintro σ' G2 ⟨rfl, sG⟩
        have s8 := s7.trans sG
        have hf8 := sG _ _ hf7
        have hz8 := sG _ _ hz7
        clear s7 hf7 hz7 sG
        refine ⟨fun σ' H' => σ' = [some (.str x), some (.ref pw), some (optV (fieldV c pr[i])), some (.int op), some (.str ff), some (.int n), some (.ref pf), some (.str ⟨#[c]⟩), some (.str pr[i])] ∧ Same G2 H', ?_, ?_⟩
        · refine ⟨_, rfl, rfl, _, rfl, ?_⟩
          rw [eqc "n" 110 rfl]
          unfold fieldV
          by_cases c1 : c = 110
          · rw [if_pos c1, if_pos c1]
            exact ifF (by rw [decide_eq_true c1]; rfl) (ifF rfl ⟨rfl, Same.refl _⟩)
          · rw [if_neg c1, if_neg c1]
            refine ifT (by rw [decide_eq_false c1]; rfl) ⟨_, rfl, (show 4 ≤ sizeLine by decide), fun tq nq => ?_⟩
            have okr : ∀ x ∈ regs, PyData.strOk x = true := by decide +kernel
            have yq := same_new (o := HO.tup (regs.map V.str)) nq
            refine ⟨.str pr[i], regs.map PyData.str, .str _, .tup (SqT.of (xs := regs.map V.str) upd_same) (dps_strs regs), str_shaped okp.1, strs_shaped okr, _, rfl, ?_⟩
            rw [in_strs okr okp.1]
            by_cases hm : pr[i] ∈ regs
            · obtain ⟨d, v, e1, e2, e3, e4⟩ := reg_cases hm
              rw [e1]
              exact ifT (decide_eq_true hm) ⟨_, rfl, pr[i], 1, d, rfl, rfl, Nat.le_trans (show pr[i].length ≤ 2 by omega) (by decide), e2, ⟨#[d]⟩, v, rfl, e3, (show 1 ≤ 640 by decide), rfl, yq⟩
            · rw [reg_none hm]
              exact ifF (decide_eq_false hm) ⟨rfl, yq⟩
        rintro σ' G3 ⟨rfl, sG⟩
        have s9 := s8.trans sG
        have hf9 := sG _ _ hf8
        have hz9 := sG _ _ hz8
        clear s8 hf8 hz8 sG
        cases ev : fieldV c pr[i] with
        | none =>
          refine ⟨_, rfl, rfl, _, rfl, ifT rfl ?_⟩
          refine ⟨_, rfl, fun d hd => (kn ?_).here s9 hd⟩
          rw [eR]
          unfold readB
          rw [if_neg (fun z => z hl)]
          show (readF ff.cps.toList pr (0, 0, n)).map _ = none
          rw [readF_none er hc' hp ev]
          rfl
        | some v =>
          refine ⟨_, rfl, rfl, _, rfl, ifF rfl ⟨_, rfl, _, rfl, _, rfl, pf, _, rfl, .inl ⟨_, .inr ⟨#[c]⟩, hf9, rfl, ?_, rfl⟩, ?_⟩⟩
          · exact size_lt (show (foundK z).length < 100000 from (show 3 < 100000 by decide))
          · exact ⟨stepF z c v, _, _, _, rfl, same_mut s9 nf, by rw [upd_same]; exact congrArg (fun q => some (HO.dK q)) (found_step z v hcc), by rw [upd_ne nzf]; exact hz9, iz.step hcc ev, readF_drop er hc' hp ev⟩
      · rintro σ H' ⟨z, p2, o7, o8, rfl, sH, hf, hz, iz, er⟩
        have ef := readF_end er (by omega)
        obtain ⟨⟨x0, x1⟩, ⟨y0, y1⟩, w0, w1⟩ := iz
        refine ⟨_, rfl, _, rfl, pf, .int z.1, rfl, .inl ⟨_, .inr "a", .inl hf, rfl, rfl⟩, _, rfl, pf, .int z.2.1, rfl, .inl ⟨_, .inr "b", .inl hf, rfl, rfl⟩, _, rfl, pf, .int z.2.2, rfl, .inl ⟨_, .inr "n", .inl hf, rfl, rfl⟩, ?_⟩
        refine ⟨op, z.1, z.2.1, z.2.2, rfl, fun _ H' s' => ?_, fun e => ?_⟩
        · refine ky _ ?_ _ (sH.trans s')
          rw [eR]
          unfold readB
          rw [if_neg (fun z => z hl)]
          show (readF ff.cps.toList pr (0, 0, n)).map _ = _
          rw [ef]
          rfl
        · exfalso
          have : inW op z.1 z.2.1 z.2.2 = true := by
            unfold inW
            simp only [Bool.and_eq_true, decide_eq_true_eq]
            exact ⟨⟨⟨⟨o0, o1⟩, x0, x1⟩, y0, y1⟩, w0, w1⟩
          rw [this] at e
          cases e
    · refine ifT (by rw [Bool.not_eq_true', decide_eq_false_iff_not]; exact fun z => hl (by have := V.int.inj z; omega)) ?_
      exact ⟨_, rfl, fun d hd => (kn (by rw [eR]; unfold readB; rw [if_pos hl])).here s4 hd⟩
end
end Q39




set_option pp.maxSteps 1500
namespace Q39
open PySem L2 G M40
open C8 (Cal Met Mak pe_c pe_mk pe_mt pe_mt0 pe_gc pss_cut tCut)
theorem digs_all {p : Str} (h : digs p = true) : ∀ c ∈ p.cps.toList, 48 ≤ c ∧ c ≤ 57 := fun c hc => by
  have := List.all_eq_true.mp h c hc
  simpa using this
theorem numS_val (p : Str) : numS (valS p) = SX.S (TL.numL (NumText.digitsVal p.cps.toList)) := SX.num_S _
theorem canon_iff {p : Str} (h : digs p = true) (hne : p ≠ "") : numS (valS p) = p ↔ ¬ (p.cps.toList.head? = some 48 ∧ p ≠ "0") := by
  have hl : p.cps.toList ≠ [] := fun z => hne ((empty_iff p).mpr z)
  have c := canon p.cps.toList.length p.cps.toList rfl hl (digs_all h)
  have e1 : numS (valS p) = p ↔ TL.numL (NumText.digitsVal p.cps.toList) = p.cps.toList := by
    rw [numS_val]
    constructor
    · intro z
      have := congrArg (fun x : Str => x.cps.toList) z
      exact this
    · intro z
      rw [z]
  have e2 : p ≠ "0" ↔ p.cps.toList ≠ [48] := by
    constructor
    · intro z y
      exact z (TL.ext_tl y)
    · intro z y
      exact z (by rw [y]; rfl)
  rw [e1, c, e2]
def plainN (p : Str) : Bool := !decide (p = "") && (decide (p.length < 4) && digs p)
theorem num_small {p : Str} (h : digs p = true) (hne : p ≠ "") (h6 : p.length ≤ 6) (b : Int) : numIn p b = if numS (valS p) = p ∧ valS p < b then some (valS p) else none := by
  unfold numIn
  rw [if_neg (fun z => z.elim hne fun z => z.elim (fun z => by omega) fun z => by rw [h] at z; cases z)]
  by_cases hc : numS (valS p) = p
  · have := (canon_iff h hne).mp hc
    by_cases hb : valS p < b
    · rw [if_neg (fun z => z.elim this fun z => by omega), if_pos ⟨hc, hb⟩]
    · rw [if_pos (.inr (by omega)), if_neg (fun z => hb z.2)]
  · have : (p.cps.toList.head? = some 48 ∧ p ≠ "0") := Classical.byContradiction fun z => hc ((canon_iff h hne).mpr z)
    rw [if_pos (.inl this), if_neg (fun z => hc z.1)]
theorem num_none {p : Str} {b : Int} (h : p = "" ∨ 6 < p.length ∨ digs p = false) : numIn p b = none := by
  unfold numIn
  rw [if_pos h]
theorem num256 (p : Str) : numIn p 256 = if plainN p = true ∧ numS (valS p) = p ∧ valS p ≤ 255 then some (valS p) else none := by
  unfold plainN
  by_cases h1 : p = ""
  · rw [num_none (.inl h1), if_neg (fun z => by simp [h1] at z)]
  by_cases h2 : digs p = true
  · by_cases h6 : 6 < p.length
    · rw [num_none (.inr (.inl h6)), if_neg (fun z => by have := z.1; simp at this; omega)]
    · rw [num_small h2 h1 (by omega)]
      by_cases h4 : p.length < 4
      · by_cases hc : numS (valS p) = p ∧ valS p < 256
        · rw [if_pos hc, if_pos ⟨by simp [h1, h2, h4], hc.1, by omega⟩]
        · rw [if_neg hc, if_neg (fun z => hc ⟨z.2.1, by omega⟩)]
      · rw [if_neg (fun z => ?_), if_neg (fun z => by have := z.1; simp [h4] at this)]
        obtain ⟨z1, z2⟩ := z
        have e : TL.numL (NumText.digitsVal p.cps.toList) = p.cps.toList := by
          rw [numS_val] at z1
          exact congrArg (fun x : Str => x.cps.toList) z1
        have lt : NumText.digitsVal p.cps.toList < 10 ^ 3 := by
          have : valS p = (NumText.digitsVal p.cps.toList : Nat) := rfl
          omega
        have := TL.numL_len (k := 3) (by decide) lt
        rw [e, Array.length_toList] at this
        have : p.length = p.cps.size := rfl
        omega
  · have h2 : digs p = false := by simpa using h2
    rw [num_none (.inr (.inr h2)), if_neg (fun z => by have := z.1; simp [h2] at this)]
theorem fold_lt : ∀ (l : List Nat) (a : Nat), (∀ c ∈ l, c ≤ 57) → l.foldl (fun acc c => acc * 10 + (c - 48)) a < (a + 1) * 10 ^ l.length
  | [], a, _ => by simp
  | c :: r, a, h => by
    have hc := h c List.mem_cons_self
    have := fold_lt r (a * 10 + (c - 48)) fun x hx => h x (List.mem_cons_of_mem _ hx)
    rw [List.foldl_cons, List.length_cons, Nat.pow_succ]
    refine Nat.lt_of_lt_of_le this ?_
    have e : (a + 1) * (10 ^ r.length * 10) = ((a + 1) * 10) * 10 ^ r.length := by
      rw [Nat.mul_comm (10 ^ r.length) 10, Nat.mul_assoc]
    rw [e]
    exact Nat.mul_le_mul_right _ (by omega)
theorem val_lt {p : Str} (h : digs p = true) (h6 : p.length ≤ 6) : 0 ≤ valS p ∧ valS p < 1000000 := by
  have := fold_lt p.cps.toList 0 fun c hc => (digs_all h c hc).2
  have e : NumText.digitsVal p.cps.toList = p.cps.toList.foldl (fun acc c => acc * 10 + (c - 48)) 0 := rfl
  have l : p.cps.toList.length ≤ 6 := by rw [Array.length_toList]; exact h6
  have m : 10 ^ p.cps.toList.length ≤ 10 ^ 6 := Nat.pow_le_pow_right (by decide) l
  unfold valS
  rw [e]
  omega
theorem val_log {p : Str} (h : digs p = true) (h6 : p.length ≤ 6) : (valS p).natAbs.log2 < 1920 := by
  obtain ⟨a, b⟩ := val_lt h h6
  by_cases z : (valS p).natAbs = 0
  · rw [z]; decide
  · exact Nat.lt_of_lt_of_le ((Nat.log2_lt z).mpr (show (valS p).natAbs < 2 ^ 20 by omega)) (by decide)
theorem digs_filter (p : Str) : decide (V.int (((p.cps.toList.filter fun c => !(decide (48 ≤ c) && decide (c ≤ 57))).map fun c => V.str ⟨#[c]⟩).length : Nat) = V.int 0) = digs p := by
  rw [Bool.eq_iff_iff, decide_eq_true_iff, List.length_map]
  unfold digs
  rw [List.all_eq_true]
  constructor
  · intro z
    have z := V.int.inj z
    have e : (p.cps.toList.filter fun c => !(decide (48 ≤ c) && decide (c ≤ 57))) = [] := List.length_eq_zero_iff.mp (by omega)
    intro c hc
    have := List.filter_eq_nil_iff.mp e c hc
    simpa using this
  · intro h
    have e : (p.cps.toList.filter fun c => !(decide (48 ≤ c) && decide (c ≤ 57))) = [] := List.filter_eq_nil_iff.mpr fun c hc => by simp [h c hc]
    rw [e]
    rfl
theorem head_word : headT "WORD" = none := by decide +kernel
theorem names_look {p : Str} (h : ¬ p ∈ doing) (hn : p ∈ names) (he : p ≠ "") : ∃ f, headT p = some (((names.idxOf p : Nat) : Int), f, 0) ∧ shapes[names.idxOf p]? = some f := by
  have all : ∀ q ∈ names, q ≠ "" → opsN.lookup q = some (((names.idxOf q : Nat) : Int), shapes.getD (names.idxOf q) "") ∧ names.idxOf q < shapes.length := by decide +kernel
  obtain ⟨a, b⟩ := all p hn he
  refine ⟨shapes.getD (names.idxOf p) "", ?_, ?_⟩
  · unfold headT
    rw [if_neg h, a]
    rfl
  · rw [List.getElem?_eq_getElem b, List.getD_eq_getElem?_getD, List.getElem?_eq_getElem b]
    rfl
theorem names_none {p : Str} (h : ¬ p ∈ doing) (hn : ¬ p ∈ names ∨ p = "") : headT p = none := by
  unfold headT
  rw [if_neg h]
  cases e : opsN.lookup p with
  | none => rfl
  | some z =>
    exfalso
    have all : ∀ q ∈ opsN, q.1 ∈ names ∧ q.1 ≠ "" := by decide +kernel
    obtain ⟨a, b⟩ := all (p, z) (lookup_mem e)
    rcases hn with hn | hn
    · exact hn a
    · exact b hn
def lwD : Option Int → PyData
  | some v => .int v
  | none => .tuple [.str "line", .int 0]
theorem list_shaped {l : List Str} (hl : ∀ x ∈ l, PyData.strOk x = true) : SeqAt.shaped (.list (l.map PyData.str)) = true := by
  show ((PyData.list (l.map PyData.str)).canLay0 && decide ((PyData.list (l.map PyData.str)).depth ≤ 64)) = true
  have h1 : ∀ l : List Str, (∀ x ∈ l, PyData.strOk x = true) → PyData.canLayAll0 (l.map PyData.str) = true ∧ PyData.depthAll (l.map PyData.str) = 0 := by
    intro l
    induction l with
    | nil => intro _; exact ⟨by simp [PyData.canLayAll0], by simp [PyData.depthAll]⟩
    | cons x r ih =>
      intro h
      obtain ⟨a, b⟩ := ih fun y hy => h y (List.mem_cons_of_mem _ hy)
      exact ⟨by simp [PyData.canLayAll0, PyData.canLay0, h x List.mem_cons_self, a], by simp [PyData.depthAll, PyData.depth, b]⟩
  obtain ⟨a, b⟩ := h1 l hl
  simp [PyData.canLay0, PyData.depth, a, b]
section
variable {P : Program} {w : World} {K : PySem.W.Frag} {mg : Str → Option Value} {base : Heap}
/-! ### _law_line_word -/
def spLW (K : PySem.W.Frag) : Sp := fun vs H Q _ => ∃ (x : Str) (ps : List Str), vs = [.str x] ∧ OkP ps x ∧ ∀ (u : V) (H' : Hp), Same H H' → Dp K H' u (lwD (readT ps)) → Q u H'
theorem ok_lw {f : Addr} {fd : FuncData} (F : Fun K "_law_line_word" "_law_line_word" s__law_line_word f fd) (T : Txt K mg) : FnOk P w K mg base CX0 1 f fd ["line"] (spLW K) := by
  refine F.ok sc__law_line_word (fun vs H Q E h => ?_) (fun cdv A outer s H vs Q E hr h => ?_)
  · obtain ⟨x, ps, rfl, _⟩ := h
    rfl
  · obtain ⟨x, ps, rfl, O, k⟩ := h
    have hu := hu_of hr
    have hu65 := hu65_of hr
    refine ⟨_, (pss_cons (ps_set (i := 1) sc__law_line_word.nd rfl (Or.inl rfl) (pe_bm PySem.F.plainAttrs_str PySem.F.slot_str_split PySem.F.type_str_split mt_split (pv 0) (pa_cons pe_str pa_nil)))
      (pss_cut (ps_if (PW.pt (pw_and (pt_cmpR op_eq (pe_ix ix_list (pv 1) pe_int (fun _ _ => rfl)) pe_str (nomark _)) (pw_and (pt_cmpR op_eq (pe_callB call_len_seq (by rfl) T.b_len boot_len' (pa_cons (pv 1) pa_nil)) pe_int (nomark _)) (pw_and (pt_cmpR op_in_rng (pe_callB call_len_str (by rfl) T.b_len boot_len' (pa_cons (pe_ix ix_list (pv 1) pe_int (fun _ _ => rfl)) pa_nil)) (pe_callTy cr_range2 (by rfl) T.b_range boot_range' (pa_cons pe_int (pa_cons pe_int pa_nil))) rfl) (pw_and1 (pt_cmpR op_eq (pe_callB call_len_seq (by rfl) T.b_len boot_len' (pa_cons (pe_lc (own := [("sign", 10)]) rfl sc__law_line_word.nd (pi_str (pe_ix ix_list (pv 1) pe_int (fun _ _ => rfl))) (blkOk_by (own := [("sign", 10)]) (N := ["line", "parts", "names", "doing", "shapes", "op", "fields", "field", "text", "plain", "sign"]) (sc := defScope s__law_line_word) (by decide +kernel)) (fun _ _ _ _ _ => (pg_name (i := 10) sc__law_line_word.nd rfl (Or.inl rfl))) (fun _ _ _ _ _ => (pts_one (pt_cmpR op_notIn_sign (pv 10) pe_str rfl))) (fun _ _ _ _ _ => (pv 10))) pa_nil)) pe_int (nomark _))))))) (pss_cons (ps_if (PW.pt (pw_and (pt_cmpR op_eq (pe_callTy call_str_int (by rfl) T.b_str boot_str' (pa_cons (pe_callTy call_int_str (by rfl) T.b_int boot_int' (pa_cons (pe_ix ix_list (pv 1) pe_int (fun _ _ => rfl)) pa_nil)) pa_nil)) (pe_ix ix_list (pv 1) pe_int (fun _ _ => rfl)) (nomark _)) (pw_and1 (pt_cmpR op_lt (pe_callTy call_int_str (by rfl) T.b_int boot_int' (pa_cons (pe_ix ix_list (pv 1) pe_int (fun _ _ => rfl)) pa_nil)) pe_int (nomark _))))) (pss_one (ps_ret (pe_callTy call_int_str (by rfl) T.b_int boot_int' (pa_cons (pe_ix ix_list (pv 1) pe_int (fun _ _ => rfl)) pa_nil)))) pss_nil)
      (pss_one (ps_ret (pe_tup (pa_cons pe_str (pa_cons pe_int pa_nil)))))) pss_nil)
      (pss_cons (ps_set (i := 2) sc__law_line_word.nd rfl (Or.inl rfl) (pe_lst (pa_cons pe_str (pa_cons pe_str (pa_cons pe_str (pa_cons pe_str (pa_cons pe_str (pa_cons pe_str (pa_cons pe_str (pa_cons pe_str (pa_cons pe_str (pa_cons pe_str (pa_cons pe_str (pa_cons pe_str (pa_cons pe_str pa_nil)))))))))))))))
      (pss_cons (ps_set (i := 3) sc__law_line_word.nd rfl (Or.inl rfl) (pe_lst (pa_cons pe_str (pa_cons pe_str (pa_cons pe_str (pa_cons pe_str (pa_cons pe_str (pa_cons pe_str (pa_cons pe_str (pa_cons pe_str (pa_cons pe_str pa_nil)))))))))))
      (pss_cut (ps_set (i := 4) sc__law_line_word.nd rfl (Or.inl rfl) (pe_lst (pa_cons pe_str (pa_cons pe_str (pa_cons pe_str (pa_cons pe_str (pa_cons pe_str (pa_cons pe_str (pa_cons pe_str (pa_cons pe_str (pa_cons pe_str (pa_cons pe_str (pa_cons pe_str (pa_cons pe_str (pa_cons pe_str pa_nil)))))))))))))))
      (pss_cut (ps_if (pt_cmpR (op_inD hu65) (pe_ix ix_list (pv 1) pe_int (fun _ _ => rfl)) (pv 3) rfl) (pss_one (ps_par (i := 5) (j := 6) (by rfl) sc__law_line_word.nd rfl rfl (by decide) rfl rfl (pa_cons pe_int (pa_cons (pe_disp (pps_cons pe_str pe_int (pps_cons pe_str pe_int (pps_cons pe_str (pe_bm PySem.F.plainAttrs_list PySem.F.slot_list_index PySem.F.type_list_index (mt_indexD hu65) (pv 3) (pa_cons (pe_ix ix_list (pv 1) pe_int (fun _ _ => rfl)) pa_nil)) pps_nil))) (by rfl) (by rfl) (fun z => by cases z) (by decide)) pa_nil)) (by rfl))) (pss_one (ps_if (PW.pt (pw_and (pt_cmpR (op_inD hu65) (pe_ix ix_list (pv 1) pe_int (fun _ _ => rfl)) (pv 2) rfl) (pw_and1 (pt_cmpR op_ne (pe_ix ix_list (pv 1) pe_int (fun _ _ => rfl)) pe_str (nomark _))))) (pss_one (ps_par (i := 5) (j := 6) (by rfl) sc__law_line_word.nd rfl rfl (by decide) rfl rfl (pa_cons (pe_bm PySem.F.plainAttrs_list PySem.F.slot_list_index PySem.F.type_list_index (mt_indexD hu65) (pv 2) (pa_cons (pe_ix ix_list (pv 1) pe_int (fun _ _ => rfl)) pa_nil)) (pa_cons (pe_disp (pps_cons pe_str pe_int (pps_cons pe_str pe_int (pps_cons pe_str pe_int pps_nil))) (by rfl) (by rfl) (fun z => by cases z) (by decide)) pa_nil)) (by rfl))) (pss_one (ps_ret (pe_tup (pa_cons pe_str (pa_cons pe_int pa_nil))))))))
      (pss_cons (ps_if (pt_cmpR op_ne (pe_callB call_len_seq (by rfl) T.b_len boot_len' (pa_cons (pv 1) pa_nil)) (pe_op op_add pe_int (pe_callB call_len_str (by rfl) T.b_len boot_len' (pa_cons (pe_ix ix_list (pv 4) (pv 5) (fun _ _ => rfl)) pa_nil))) (nomark _)) (pss_one (ps_ret (pe_tup (pa_cons pe_str (pa_cons pe_int pa_nil))))) pss_nil)
      (pss_cons (ps_for PassesOwn.never rfl (pi_zipS (by rfl) T.b_zip (pa_cons (pe_ix ix_list (pv 4) (pv 5) (fun _ _ => rfl)) (pa_cons (pe_slice sl_list (pv 1) (po_some pe_int) po_none) pa_nil))) (pg_tup rfl (pgs_cons (pg_name (i := 7) sc__law_line_word.nd rfl (Or.inl rfl)) (pgs_cons (pg_name (i := 8) sc__law_line_word.nd rfl (Or.inl rfl)) pgs_nil))) (pss_one (ps_if (pt_cmpR op_eq (pv 7) pe_str (nomark _)) (pss_cut (ps_set (i := 9) sc__law_line_word.nd rfl (Or.inl rfl) (pe_and (pe_cmpR op_ne (pv 8) pe_str (nomark _)) (pe_and (pe_cmpR op_lt (pe_callB call_len_str (by rfl) T.b_len boot_len' (pa_cons (pv 8) pa_nil)) pe_int (nomark _)) (pe_one (pe_cmpR op_eq (pe_callB call_len_seq (by rfl) T.b_len boot_len' (pa_cons (pe_lc (own := [("sign", 10)]) rfl sc__law_line_word.nd (pi_str (pv 8)) (blkOk_by (own := [("sign", 10)]) (N := ["line", "parts", "names", "doing", "shapes", "op", "fields", "field", "text", "plain", "sign"]) (sc := defScope s__law_line_word) (by decide +kernel)) (fun _ _ _ _ _ => (pg_name (i := 10) sc__law_line_word.nd rfl (Or.inl rfl))) (fun _ _ _ _ _ => (pts_one (pt_cmpR op_notIn_sign (pv 10) pe_str rfl))) (fun _ _ _ _ _ => (pv 10))) pa_nil)) pe_int (nomark _))))))
      (pss_cons (ps_if (PW.pt (pw_or (pt_not (pt_val (pv 9))) (pw_or (pt_cmpR op_ne (pe_callTy call_str_int (by rfl) T.b_str boot_str' (pa_cons (pe_callTy call_int_str (by rfl) T.b_int boot_int' (pa_cons (pv 8) pa_nil)) pa_nil)) (pv 8) (nomark _)) (pw_or1 (pt_cmpR op_gt (pe_callTy call_int_str (by rfl) T.b_int boot_int' (pa_cons (pv 8) pa_nil)) pe_int (nomark _)))))) (pss_one (ps_ret (pe_tup (pa_cons pe_str (pa_cons pe_int pa_nil))))) pss_nil)
      (pss_one (ps_dput hu (pv 6) pe_str (pe_callTy call_int_str (by rfl) T.b_int boot_int' (pa_cons (pv 8) pa_nil)) rfl)))) (pss_cons (ps_if (pt_cmpR (op_notInT hu65) (pv 8) (pe_tup (pa_cons pe_str (pa_cons pe_str (pa_cons pe_str (pa_cons pe_str pa_nil))))) rfl) (pss_one (ps_ret (pe_tup (pa_cons pe_str (pa_cons pe_int pa_nil))))) pss_nil)
      (pss_one (ps_dput hu (pv 6) (pv 7) (pe_callTy call_int_str (by rfl) T.b_int boot_int' (pa_cons (pe_ix ix_str (pv 8) pe_int (fun _ _ => rfl)) pa_nil)) rfl))))))
      (pss_one (ps_ret (pe_op op_add (pe_op op_add (pe_op op_add (pe_op op_mul pe_int (pv 5)) (pe_op op_mul pe_int (pe_dget hu (pv 6) pe_str (fun _ _ => rfl)))) (pe_op op_mul pe_int (pe_dget hu (pv 6) pe_str (fun _ _ => rfl)))) (pe_dget hu (pv 6) pe_str (fun _ _ => rfl))))))))))))), ?_⟩
    refine ⟨_, rfl, rfl, x, " ", rfl, rfl, by decide +kernel, Nat.le_trans (show x.length + 2 ≤ 100002 by have := O.lx; omega) (by decide), fun pw npw => ?_⟩
    rw [O.sp] at *
    have s1 := same_new (o := HO.lst (ps.map V.str)) npw
    have hpw : upd H pw (.lst (ps.map V.str)) pw = some (.lst (ps.map V.str)) := upd_same
    have hpw0 : H pw = none := npw
    generalize upd H pw (.lst (ps.map V.str)) = H1 at s1 hpw ⊢
    clear npw
    obtain ⟨p0, pr, rfl⟩ : ∃ p0 pr, ps = p0 :: pr := by
      cases e : ps with
      | nil => exact absurd e O.ne
      | cons a b => exact ⟨a, b, rfl⟩
    have ok0 := O.ok p0 List.mem_cons_self
    have at0 : ∀ {l : List V}, l = (p0 :: pr).map V.str → atI l 0 = some (.str p0) := fun e => by rw [e]; exact atI_nat (j := 0) rfl
    refine ⟨fun σ' H' => σ' = [some (.str x), some (.ref pw), none, none, none, none, none, none, none, none, none] ∧ Same H H' ∧ H' pw = some (.lst ((p0 :: pr).map V.str)) ∧ (if (p0 :: pr).head? = some "WORD" ∧ (p0 :: pr).length = 2 then numIn ((p0 :: pr).getD 1 "") 65536 else none) = none, ?_, ?_⟩
    · refine ⟨_, rfl, pw, _, 0, _, rfl, rfl, SqL.of hpw, at0 rfl, rfl, _, rfl, ?_⟩
      by_cases hw : p0 = "WORD"
      · refine ifT (decide_eq_true (by rw [hw])) ⟨_, rfl, pw, _, rfl, .inl (SqL.of hpw), rfl, _, rfl, ?_⟩
        by_cases hl : (p0 :: pr).length = 2
        · obtain ⟨p1, rfl⟩ : ∃ p1, pr = [p1] := by
            match pr, hl with
            | [q], _ => exact ⟨q, rfl⟩
          have ok1 := O.ok p1 (by simp)
          have at1 : ∀ {l : List V}, l = ([p0, p1]).map V.str → atI l 1 = some (.str p1) := fun e => by rw [e]; exact atI_nat (j := 1) rfl
          have l1 : p1.length ≤ sizeLine := Nat.le_trans ok1.2 (by decide)
          have eqI : (if ([p0, p1] : List Str).head? = some "WORD" ∧ ([p0, p1] : List Str).length = 2 then numIn (([p0, p1] : List Str).getD 1 "") 65536 else none) = numIn p1 65536 := if_pos ⟨by rw [hw]; rfl, rfl⟩
          refine ifT (by rw [List.length_map, hl]; rfl) ⟨_, rfl, pw, _, 1, _, rfl, rfl, SqL.of hpw, at1 rfl, p1, rfl, l1, 1, 7, rfl, fun pg npg => ⟨_, pg, 1, 7, rfl, rfl, upd_same, _, rfl, ?_⟩⟩
          have y1 := same_new (o := HO.rng 1 7) npg
          have s2 := s1.trans y1
          have hp2 := y1 _ _ hpw
          generalize upd H1 pg (.rng 1 7) = H2 at s2 hp2 ⊢
          clear y1 npg
          by_cases hr6 : (1 : Int) ≤ (p1.length : Int) ∧ (p1.length : Int) < 7
          · refine ifT (decide_eq_true hr6) ⟨_, rfl, pw, _, 1, _, rfl, rfl, SqL.of hp2, at1 rfl, p1, rfl, fun D hD => ?_⟩
            refine lc_str (x := p1) (fun c => !(decide (48 ≤ c) && decide (c ≤ 57))) (fun c => .str ⟨#[c]⟩) (by have : p1.length = p1.cps.size := rfl; omega) (fun c acc R hc ha hno hyes => ?_) ?_
            · refine ⟨rfl, _, rfl, c, "0123456789", rfl, rfl, _, rfl, ?_⟩
              rw [dig_mem]
              cases hb : (decide (48 ≤ c) && decide (c ≤ 57)) with
              | true => exact ifF rfl (hno (by rw [hb]; rfl))
              | false => exact ifT rfl ⟨_, rfl, acc, upd_same, ha, by rw [upd_app]; exact hyes (by rw [hb]; rfl)⟩
            have s3 := s2.trans (same_new (o := HO.lst ((p1.cps.toList.filter fun c => !(decide (48 ≤ c) && decide (c ≤ 57))).map fun c => V.str ⟨#[c]⟩)) hD)
            have hp3 := same_new (o := HO.lst ((p1.cps.toList.filter fun c => !(decide (48 ≤ c) && decide (c ≤ 57))).map fun c => V.str ⟨#[c]⟩)) hD _ _ hp2
            refine ⟨D, _, rfl, .inl (SqL.of upd_same), rfl, _, rfl, ?_⟩
            rw [digs_filter]
            have hne : p1 ≠ "" := fun z => by rw [z] at hr6; exact absurd hr6.1 (by decide +kernel)
            cases hd : digs p1 with
            | false =>
              exact ifF rfl ⟨rfl, s3, hp3, eqI.trans (num_none (.inr (.inr hd)))⟩
            | true =>
              have h6 : p1.length ≤ 6 := by omega
              have hint := int_digs hd hne h6
              have h640 : p1.length ≤ 640 := by omega
              refine ifT rfl ⟨_, rfl, pw, _, 1, _, rfl, rfl, SqL.of hp3, at1 rfl, p1, valS p1, rfl, hint, h640, valS p1, rfl, val_log hd h6, _, rfl, pw, _, 1, _, rfl, rfl, SqL.of hp3, at1 rfl, rfl, _, rfl, ?_⟩
              have esm := num_small hd hne h6 65536
              have fail : ∀ u H', Same H H' → Dp K H' u (.tuple [.str "line", .int 0]) → numIn p1 65536 = none → Q u H' := fun u H' s' d' e => by
                have er : readT [p0, p1] = none := by
                  unfold readT
                  rw [eqI, e, hw]
                  show (headT "WORD").bind _ = none
                  rw [head_word]
                  rfl
                refine k u H' s' ?_
                rw [er]
                exact d'
              by_cases hc : numS (valS p1) = p1
              · refine ifT (decide_eq_true (by show V.str (numS (valS p1)) = V.str p1; rw [hc])) ⟨_, rfl, pw, _, 1, _, rfl, rfl, SqL.of hp3, at1 rfl, p1, valS p1, rfl, hint, h640, _, _, rfl, rfl, _, rfl, ?_⟩
                cases hbd : decide (valS p1 < 65536) with
                | true =>
                  have hb := of_decide_eq_true hbd
                  refine ifT rfl ⟨_, rfl, pw, _, 1, _, rfl, rfl, SqL.of hp3, at1 rfl, p1, valS p1, rfl, hint, h640, ?_⟩
                  rw [if_pos ⟨hc, hb⟩] at esm
                  have er : readT [p0, p1] = some (valS p1) := by
                    unfold readT
                    rw [eqI, esm]
                  refine k _ _ s3 ?_
                  rw [er]
                  exact .int _
                | false =>
                  have hb := of_decide_eq_false hbd
                  refine ifF rfl ⟨(show 2 ≤ sizeLine by decide), fun t nt => ?_⟩
                  exact fail _ _ (s3.trans (same_new nt)) (.tup (SqT.of upd_same) (.cons (.str _) (.cons (.int _) .nil))) (esm.trans (if_neg fun z => hb z.2))
              · refine ifF (decide_eq_false (fun z => hc (V.str.inj z))) (ifF rfl ⟨(show 2 ≤ sizeLine by decide), fun t nt => ?_⟩)
                exact fail _ _ (s3.trans (same_new nt)) (.tup (SqT.of upd_same) (.cons (.str _) (.cons (.int _) .nil))) (esm.trans (if_neg fun z => hc z.1))
          · refine ifF (decide_eq_false hr6) (ifF rfl ⟨rfl, s2, hp2, eqI.trans (num_none ?_)⟩)
            by_cases h0 : p1 = ""
            · exact .inl h0
            · refine .inr (.inl ?_)
              have : p1.length ≠ 0 := fun z => h0 ((empty_iff p1).mpr (List.length_eq_zero_iff.mp (by rw [Array.length_toList]; exact z)))
              omega
        · refine ifF (decide_eq_false fun z => hl ?_) (ifF rfl ⟨rfl, s1, hpw, if_neg fun z => hl z.2⟩)
          have := V.int.inj z
          rw [List.length_map] at this
          omega
      · exact ifF (decide_eq_false fun z => hw (V.str.inj z)) (ifF rfl ⟨rfl, s1, hpw, if_neg fun z => hw (Option.some.inj z.1)⟩)
    clear s1 hpw
    rintro σ' H2 ⟨rfl, s2, hw2, hW⟩
    have eR : readT (p0 :: pr) = (headT p0).bind fun h => readB h (p0 :: pr) := by
      unfold readT
      rw [hW]
      rfl
    have fail : ∀ u H', Same H H' → Dp K H' u (.tuple [.str "line", .int 0]) → readT (p0 :: pr) = none → Q u H' := fun u H' s' d' e => by
      refine k u H' s' ?_
      rw [e]
      exact d'
    -- the lists
    refine ⟨(show 13 ≤ sizeLine by decide), fun ln nln => ⟨(show 9 ≤ sizeLine by decide), fun ld nld => ?_⟩⟩
    refine ⟨fun σ' H' => ∃ ls, σ' = [some (.str x), some (.ref pw), some (.ref ln), some (.ref ld), some (.ref ls), none, none, none, none, none, none] ∧ Same H H' ∧ H' pw = some (.lst ((p0 :: pr).map V.str)) ∧ H' ln = some (.lst (names.map V.str)) ∧ H' ld = some (.lst (doing.map V.str)) ∧ H' ls = some (.lst (shapes.map V.str)), ⟨(show 13 ≤ sizeLine by decide), fun ls nls => ?_⟩, ?_⟩
    · have y1 := same_new (o := HO.lst (names.map V.str)) nln
      have y2 := same_new (o := HO.lst (doing.map V.str)) nld
      have y3 := same_new (o := HO.lst (shapes.map V.str)) nls
      exact ⟨ls, rfl, ((s2.trans y1).trans y2).trans y3, ((y1.trans y2).trans y3) _ _ hw2, (y2.trans y3) _ _ upd_same, y3 _ _ upd_same, upd_same⟩
    clear s2 hw2 nln nld
    rintro σ' H3 ⟨ls, rfl, s3, hw3, hn3, hd3, hs3⟩
    have okd : ∀ x ∈ doing, PyData.strOk x = true := by decide +kernel
    have okn : ∀ x ∈ names, PyData.strOk x = true := by decide +kernel
    refine ⟨fun σ' H' => ∃ (op n : Int) (ff : Str) (pf : Addr), σ' = [some (.str x), some (.ref pw), some (.ref ln), some (.ref ld), some (.ref ls), some (.int op), some (.ref pf), none, none, none, none] ∧ Same H H' ∧ H' pw = some (.lst ((p0 :: pr).map V.str)) ∧ H' ls = some (.lst (shapes.map V.str)) ∧ H pf = none ∧ H' pf = some (.dK (foundK (0, 0, n))) ∧ headT p0 = some (op, ff, n) ∧ shapes[op.toNat]? = some ff, ?_, ?_⟩
    · refine ⟨_, rfl, pw, _, 0, _, rfl, rfl, SqL.of hw3, at0 rfl, _, rfl, .str p0, doing.map PyData.str, .str _, .lst (SqL.of hd3) (dps_strs doing), str_shaped ok0.1, list_shaped okd, _, rfl, ?_⟩
      rw [in_strs okd ok0.1]
      by_cases hm : p0 ∈ doing
      · refine ifT (decide_eq_true hm) (fun pf nf => ?_)
        have y1 := same_new (o := HO.dK []) nf
        refine ⟨_, rfl, .inl ⟨rfl, _, SqL.of (y1 _ _ hd3)⟩, _, rfl, pw, _, 0, _, rfl, rfl, SqL.of (y1 _ _ hw3), at0 rfl, ?_⟩
        refine ⟨ld, .str p0, .str p0, doing.map PyData.str, doing.idxOf p0, .str p0, rfl, rfl, .lst (SqL.of (y1 _ _ hd3)) (dps_strs doing), .str _, list_shaped okd, str_shaped ok0.1, ?_, ?_, ?_, ?_⟩
        · rw [List.getElem?_map, idx_get hm]; rfl
        · rw [eqv_str ok0.1 ok0.1]; exact decide_eq_true rfl
        · intro m z' hlt e
          rw [List.getElem?_map] at e
          obtain ⟨q, hq, rfl⟩ := Option.map_eq_some_iff.mp e
          rw [eqv_str (okd q (List.mem_of_getElem? hq)) ok0.1]
          exact decide_eq_false fun z => idx_min hlt (by rw [hq, z])
        · refine ⟨upd_same, [(.inr "a", .int 0), (.inr "b", .int 0), (.inr "n", .int (doing.idxOf p0 : Nat))], rfl, (show 3 ≤ 15 by decide), _, _, rfl, 2, _, "ab", pf, rfl, ?_, ?_, ?_, none_of_same s3 nf, upd_same, ?_, rfl⟩
          · rw [upd_upd]; exact s3.trans (same_new nf)
          · rw [upd_upd]; exact same_new nf _ _ hw3
          · rw [upd_upd]; exact same_new nf _ _ hs3
          · unfold headT
            rw [if_pos hm]
      · refine ifF (decide_eq_false hm) ⟨_, rfl, pw, _, 0, _, rfl, rfl, SqL.of hw3, at0 rfl, _, rfl, .str p0, names.map PyData.str, .str _, .lst (SqL.of hn3) (dps_strs names), str_shaped ok0.1, list_shaped okn, _, rfl, ?_⟩
        rw [in_strs okn ok0.1]
        by_cases hn : p0 ∈ names
        · refine ifT (decide_eq_true hn) ⟨_, rfl, pw, _, 0, _, rfl, rfl, SqL.of hw3, at0 rfl, rfl, _, rfl, ?_⟩
          by_cases he : p0 = ""
          · refine ifF (by rw [he]; rfl) ⟨(show 2 ≤ sizeLine by decide), fun t nt => ?_⟩
            exact fail _ _ (s3.trans (same_new nt)) (.tup (SqT.of upd_same) (.cons (.str _) (.cons (.int _) .nil))) (by rw [eR, names_none hm (.inr he)]; rfl)
          · obtain ⟨ff, e1, e2⟩ := names_look hm hn he
            refine ifT (by simp [he]) ⟨_, rfl, .inl ⟨rfl, _, SqL.of hn3⟩, _, rfl, pw, _, 0, _, rfl, rfl, SqL.of hw3, at0 rfl, ?_⟩
            refine ⟨ln, .str p0, .str p0, names.map PyData.str, names.idxOf p0, .str p0, rfl, rfl, .lst (SqL.of hn3) (dps_strs names), .str _, list_shaped okn, str_shaped ok0.1, ?_, ?_, ?_, fun pf nf => ?_⟩
            · rw [List.getElem?_map, idx_get hn]; rfl
            · rw [eqv_str ok0.1 ok0.1]; exact decide_eq_true rfl
            · intro m z' hlt e
              rw [List.getElem?_map] at e
              obtain ⟨q, hq, rfl⟩ := Option.map_eq_some_iff.mp e
              rw [eqv_str (okn q (List.mem_of_getElem? hq)) ok0.1]
              exact decide_eq_false fun z => idx_min hlt (by rw [hq, z])
            · refine ⟨upd_same, [(.inr "a", .int 0), (.inr "b", .int 0), (.inr "n", .int 0)], rfl, (show 3 ≤ 15 by decide), _, _, rfl, _, 0, ff, pf, rfl, ?_, ?_, ?_, none_of_same s3 nf, upd_same, e1, e2⟩
              · rw [upd_upd]; exact s3.trans (same_new nf)
              · rw [upd_upd]; exact same_new nf _ _ hw3
              · rw [upd_upd]; exact same_new nf _ _ hs3
        · refine ifF (decide_eq_false hn) (ifF rfl ⟨(show 2 ≤ sizeLine by decide), fun t nt => ?_⟩)
          exact fail _ _ (s3.trans (same_new nt)) (.tup (SqT.of upd_same) (.cons (.str _) (.cons (.int _) .nil))) (by rw [eR, names_none hm (.inl hn)]; rfl)
    clear s3 hw3 hn3 hd3 hs3
    rintro σ' H4 ⟨op, n, ff, pf, rfl, s4, hw4, hs4, nf, hf4, eh, es⟩
    obtain ⟨hch, hsz, hasc, o0, o1, n0, n1⟩ := head_ok eh
    dsimp only at hch hsz hasc o0 o1 n0 n1
    rw [eh] at eR
    have eR : readT (p0 :: pr) = readB (op, ff, n) (p0 :: pr) := eR
    have lps : (p0 :: pr).length ≤ 1000 := O.lp
    have fl : ff.length = ff.cps.size := rfl
    have ats : ∀ {l : List V}, l = shapes.map V.str → atI l op = some (.str ff) := fun e => by
      obtain ⟨m, rfl⟩ := Int.eq_ofNat_of_zero_le o0
      rw [e]
      refine atI_nat ?_
      rw [Int.toNat_natCast] at es
      rw [List.getElem?_map, es]
      rfl
    refine ⟨_, rfl, pw, _, rfl, .inl (SqL.of hw4), _, rfl, _, rfl, ls, _, _, _, rfl, rfl, SqL.of hs4, ats rfl, ff, rfl, Nat.le_trans (show ff.length ≤ 3 by omega) (by decide), _, _, rfl, rfl, rfl, _, rfl, ?_⟩
    rw [List.length_map]
    by_cases hl : (p0 :: pr).length = 1 + ff.cps.size
    · refine ifF (by rw [Bool.not_eq_false', decide_eq_true_iff, hl, fl]; simp) ?_
      refine ⟨_, rfl, _, rfl, ls, _, _, _, rfl, rfl, SqL.of hs4, ats rfl, _, rfl, _, rfl, pw, _, rfl, SqL.of hw4, fun pz nz => ?_⟩
      have ez : cutV ((p0 :: pr).map V.str) (some (1 : Int)) none = pr.map V.str := cut_from (i := 1) (by simp)
      rw [ez]
      have y6 := same_new (o := HO.lst (pr.map V.str)) nz
      have hz6 : upd H4 pz (.lst (pr.map V.str)) pz = some (.lst (pr.map V.str)) := upd_same
      have s6 := s4.trans y6
      have hf6 := y6 _ _ hf4
      have nzf : pz ≠ pf := fun z => by rw [z, hf4] at nz; cases nz
      generalize upd H4 pz (.lst (pr.map V.str)) = H6 at hz6 s6 hf6 ⊢
      clear y6 nz hf4 s4 hs4 hw4
      have el : ff.cps.toList.length = ff.cps.size := Array.length_toList
      have prl : pr.length = ff.cps.size := by rw [List.length_cons] at hl; omega
      refine ⟨ff, pz, _, rfl, hasc, SqL.of hz6, for_it (n := ff.cps.size) (fun i σ H' => ∃ (z : Int × Int × Int) (o7 o8 o9 : Option V), σ = [some (.str x), some (.ref pw), some (.ref ln), some (.ref ld), some (.ref ls), some (.int op), some (.ref pf), o7, o8, o9, none] ∧ Same H H' ∧ H' pf = some (.dK (foundK z)) ∧ H' pz = some (.lst (pr.map V.str)) ∧ InZ z ∧ readF ff.cps.toList pr (0, 0, n) = readF (ff.cps.toList.drop i) (pr.drop i) z)
        ⟨(0, 0, n), none, none, none, rfl, s6, hf6, hz6, ⟨⟨(by decide : (0 : Int) ≤ 0), (by decide : (0 : Int) < 4)⟩, ⟨(by decide : (0 : Int) ≤ 0), (by decide : (0 : Int) < 4)⟩, n0, n1⟩, rfl⟩ ?_ ?_ ?_ ?_⟩
      · rintro i σ H' hi ⟨z, o7, o8, o9, rfl, sH, hf, hz, _⟩
        have h1 : i < pr.length := by omega
        exact ⟨_, ff.cps[i], .str pr[i], SqL.of hz, by rw [Array.getElem?_eq_getElem hi], by rw [List.getElem?_map, List.getElem?_eq_getElem h1]; rfl⟩
      · rintro σ H' _
        exact Array.getElem?_eq_none (Nat.le_refl _)
      · rintro i y σ H1 H2 hi ⟨z, o7, o8, o9, rfl, sH, hf, hz, iz, er⟩ ⟨T1, c, y1, rfl, nT, rfl, hc, hy⟩
        have h1 : i < pr.length := by omega
        have hp : pr[i]? = some pr[i] := List.getElem?_eq_getElem h1
        have ey : y1 = .str pr[i] := by
          have := hy _ (SqL.of hz)
          rw [List.getElem?_map, hp] at this
          exact (Option.some.inj this).symm
        subst ey
        have hc' : ff.cps.toList[i]? = some c := by rw [Array.getElem?_toList]; exact hc
        have hcc := hch c (List.mem_of_getElem? hc')
        have okp := O.ok pr[i] (List.mem_cons_of_mem _ (List.getElem_mem h1))
        have y7 := same_new (o := HO.tup [V.str ⟨#[c]⟩, V.str pr[i]]) nT
        have s7 := sH.trans y7
        have hf7 := y7 _ _ hf
        have hz7 := y7 _ _ hz
        have eqc : ∀ (q : Str) (d : Nat), q = ⟨#[d]⟩ → decide (V.str ⟨#[c]⟩ = V.str q) = decide (c = d) := fun q d hq => by
          subst hq
          exact decide_eq_decide.mpr ⟨fun z => by cases z; rfl, fun z => by rw [z]⟩
        refine ⟨T1, _, rfl, SqT.of upd_same, rfl, _, _, rfl, _, _, rfl, rfl, ?_⟩
        generalize upd H1 T1 (.tup [.str ⟨#[c]⟩, .str pr[i]]) = G at s7 hf7 hz7 ⊢
        clear nT y7
        generalize epi : pr[i] = p at okp hp ⊢
        have lsz : p.length ≤ sizeLine := Nat.le_trans okp.2 (by decide)
        have bad : ∀ H', Same G H' → fieldV c p = none → ∀ t, H' t = none → Q (.ref t) (upd H' t (.tup [.str "line", .int 0])) := fun H' s' ev t nt => by
          refine fail _ _ ((s7.trans s').trans (same_new nt)) (.tup (SqT.of upd_same) (.cons (.str _) (.cons (.int _) .nil))) ?_
          rw [eR]
          unfold readB
          rw [if_neg (fun z => z hl)]
          show (readF ff.cps.toList pr (0, 0, n)).map _ = none
          rw [readF_none er hc' hp ev]
          rfl
        have good : ∀ (v : Int) (H' : Hp), Same G H' → fieldV c p = some v → ∃ (z : Int × Int × Int) (o7' o8' o9' : Option V), ∀ o9, ([some (.str x), some (.ref pw), some (.ref ln), some (.ref ld), some (.ref ls), some (.int op), some (.ref pf), some (.str ⟨#[c]⟩), some (.str p), o9, none] : List (Option V)) = [some (.str x), some (.ref pw), some (.ref ln), some (.ref ld), some (.ref ls), some (.int op), some (.ref pf), o7', o8', o9, none] ∧ True := fun v H' s' ev => ⟨z, _, _, none, fun o9 => ⟨rfl, trivial⟩⟩
        refine ⟨_, rfl, rfl, _, rfl, ?_⟩
        rw [eqc "n" 110 rfl]
        by_cases c1 : c = 110
        · have efv : fieldV c p = numIn p 256 := by unfold fieldV; rw [if_pos c1]
          rw [num256] at efv
          refine ifT (decide_eq_true c1) ?_
          refine ⟨fun σ' H' => σ' = [some (.str x), some (.ref pw), some (.ref ln), some (.ref ld), some (.ref ls), some (.int op), some (.ref pf), some (.str ⟨#[c]⟩), some (.str p), some (.bl (plainN p)), none] ∧ Same G H', ?_, ?_⟩
          · refine ⟨_, rfl, rfl, _, rfl, ?_⟩
            unfold plainN
            by_cases h1 : p = ""
            · rw [decide_eq_true h1]
              exact ifF (by rw [h1]; rfl) ⟨rfl, Same.refl _⟩
            · rw [decide_eq_false h1]
              refine ifT (by simp [h1]) ⟨_, rfl, p, rfl, lsz, _, _, rfl, rfl, _, rfl, ?_⟩
              by_cases h4 : p.length < 4
              · rw [decide_eq_true h4]
                refine ifT (decide_eq_true (by omega)) ⟨_, rfl, p, rfl, fun D hD => ?_⟩
                refine lc_str (x := p) (fun c => !(decide (48 ≤ c) && decide (c ≤ 57))) (fun c => .str ⟨#[c]⟩) (by have : p.length = p.cps.size := rfl; omega) (fun c acc R hc ha hno hyes => ?_) ?_
                · refine ⟨rfl, _, rfl, c, "0123456789", rfl, rfl, _, rfl, ?_⟩
                  rw [dig_mem]
                  cases hb : (decide (48 ≤ c) && decide (c ≤ 57)) with
                  | true => exact ifF rfl (hno (by rw [hb]; rfl))
                  | false => exact ifT rfl ⟨_, rfl, acc, upd_same, ha, by rw [upd_app]; exact hyes (by rw [hb]; rfl)⟩
                refine ⟨D, _, rfl, .inl (SqL.of upd_same), rfl, ?_⟩
                rw [digs_filter]
                exact ⟨rfl, same_new hD⟩
              · rw [decide_eq_false h4]
                exact ifF (decide_eq_false (by omega)) ⟨rfl, Same.refl _⟩
          rintro σ' G2 ⟨rfl, sG⟩
          have s8 := s7.trans sG
          have hf8 := sG _ _ hf7
          have hz8 := sG _ _ hz7
          refine ⟨_, rfl, _, rfl, ?_⟩
          cases hpl : plainN p with
          | false =>
            refine ifT rfl (ifT rfl ⟨(show 2 ≤ sizeLine by decide), fun t nt => ?_⟩)
            exact bad _ sG (efv.trans (if_neg fun z => by rw [hpl] at z; cases z.1)) t nt
          | true =>
            have hpl' := hpl
            unfold plainN at hpl'
            simp only [Bool.and_eq_true, Bool.not_eq_true', decide_eq_false_iff_not, decide_eq_true_eq] at hpl'
            obtain ⟨hne, h4, hd⟩ := hpl'
            have h6 : p.length ≤ 6 := by omega
            have hint := int_digs hd hne h6
            have h640 : p.length ≤ 640 := by omega
            refine ifF rfl ⟨_, rfl, p, valS p, rfl, hint, h640, valS p, rfl, val_log hd h6, _, rfl, rfl, _, rfl, ?_⟩
            by_cases hcn : numS (valS p) = p
            · refine ifF (by show (!decide (V.str (numS (valS p)) = V.str p)) = false; rw [hcn]; simp) ⟨_, rfl, p, valS p, rfl, hint, h640, _, _, rfl, rfl, _, rfl, ?_⟩
              rcases Decidable.em (valS p ≤ 255) with hb | hb
              · refine ifF (decide_eq_false (by omega)) ⟨_, rfl, p, valS p, rfl, hint, h640, _, rfl, pf, _, rfl, .inl ⟨_, .inr "n", hf8, rfl, size_lt (show (foundK z).length < 100000 from (show 3 < 100000 by decide)), rfl⟩, ?_⟩
                have ev : fieldV c p = some (valS p) := efv.trans (if_pos ⟨hpl, hcn, hb⟩)
                refine ⟨stepF z c (valS p), _, _, _, rfl, same_mut s8 nf, ?_, by rw [upd_ne nzf]; exact hz8, iz.step hcc ev, readF_drop er hc' hp ev⟩
                rw [upd_same]
                have := found_step z (valS p) hcc
                rw [c1] at this ⊢
                exact congrArg (fun q => some (HO.dK q)) this
              · refine ifT (decide_eq_true (by omega)) ⟨(show 2 ≤ sizeLine by decide), fun t nt => ?_⟩
                exact bad _ sG (efv.trans (if_neg fun z => hb z.2.2)) t nt
            · refine ifT (by show (!decide (V.str (numS (valS p)) = V.str p)) = true; simp [hcn]) (ifT rfl ⟨(show 2 ≤ sizeLine by decide), fun t nt => ?_⟩)
              exact bad _ sG (efv.trans (if_neg fun z => hcn z.2.1)) t nt
        · have efv : fieldV c p = regV p := by unfold fieldV; rw [if_neg c1]
          refine ifF (decide_eq_false c1) ⟨_, rfl, (show 4 ≤ sizeLine by decide), fun tq nq => ?_⟩
          have okr : ∀ x ∈ regs, PyData.strOk x = true := by decide +kernel
          have yq := same_new (o := HO.tup (regs.map V.str)) nq
          refine ⟨.str p, regs.map PyData.str, .str _, .tup (SqT.of (xs := regs.map V.str) upd_same) (dps_strs regs), str_shaped okp.1, strs_shaped okr, _, rfl, ?_⟩
          rw [in_strs okr okp.1]
          by_cases hm : p ∈ regs
          · obtain ⟨d, v, e1, e2, e3, e4⟩ := reg_cases hm
            refine ifF (by rw [decide_eq_true hm]; rfl) ⟨_, rfl, p, 1, d, rfl, rfl, lsz, e2, ⟨#[d]⟩, v, rfl, e3, (show 1 ≤ 640 by decide), _, rfl, _, rfl, pf, _, rfl, .inl ⟨_, .inr ⟨#[c]⟩, yq _ _ hf7, rfl, size_lt (show (foundK z).length < 100000 from (show 3 < 100000 by decide)), rfl⟩, ?_⟩
            have ev : fieldV c p = some v := efv.trans e1
            exact ⟨stepF z c v, _, _, _, rfl, same_mut (s7.trans yq) nf, by rw [upd_same]; exact congrArg (fun q => some (HO.dK q)) (found_step z v hcc), by rw [upd_ne nzf]; exact yq _ _ hz7, iz.step hcc ev, readF_drop er hc' hp ev⟩
          · refine ifT (by rw [decide_eq_false hm]; rfl) ⟨(show 2 ≤ sizeLine by decide), fun t nt => ?_⟩
            exact bad _ yq (efv.trans (reg_none hm)) t nt
      · rintro σ H' ⟨z, o7, o8, o9, rfl, sH, hf, hz, iz, er⟩
        have ef := readF_end er (by omega)
        refine ⟨_, rfl, _, _, rfl, rfl, .inl (by decide), _, rfl, pf, .int z.1, rfl, .inl ⟨_, .inr "a", .inl hf, rfl, rfl⟩, _, _, rfl, rfl, .inl (by decide), _, _, rfl, rfl, _, rfl, pf, .int z.2.1, rfl, .inl ⟨_, .inr "b", .inl hf, rfl, rfl⟩, _, _, rfl, rfl, .inl (by decide), _, _, rfl, rfl, _, rfl, pf, .int z.2.2, rfl, .inl ⟨_, .inr "n", .inl hf, rfl, rfl⟩, _, _, rfl, rfl, ?_⟩
        refine k _ _ sH ?_
        have er2 : readT (p0 :: pr) = some (4096 * op + 1024 * z.1 + 256 * z.2.1 + z.2.2) := by
          rw [eR]
          unfold readB
          rw [if_neg (fun z => z hl)]
          show (readF ff.cps.toList pr (0, 0, n)).map _ = _
          rw [ef]
          rfl
        rw [er2]
        exact .int _
    · refine ifT (by rw [Bool.not_eq_true', decide_eq_false_iff_not]; exact fun z => hl (by have := V.int.inj z; omega)) ⟨(show 2 ≤ sizeLine by decide), fun t nt => ?_⟩
      exact fail _ _ (s4.trans (same_new nt)) (.tup (SqT.of upd_same) (.cons (.str _) (.cons (.int _) .nil))) (by rw [eR]; unfold readB; rw [if_pos hl])
end
end Q39




set_option pp.maxSteps 1500
namespace Q39
open PySem L2 G M40
open C8 (Cal Met Mak pe_c pe_mk pe_mt pe_mt0 pe_gc pss_cut tCut)
section
variable {P : Program} {w : World} {K : PySem.W.Frag} {mg : Str → Option Value} {base : Heap}
/-! ### first_state, after: with their refusals -/
def spFirstE (K : PySem.W.Frag) (C : Addr) : Sp := fun vs H Q E => ∃ (v : V) (ns : List Int), vs = [v] ∧ Nums K H v ns ∧ ns.length ≤ 1000 ∧ (dataB ns = true → ∀ (u : V) (H' : Hp), Same H H' → Dp K H' u (stD ⟨[0, 0, 0, 0, 0], ns, 0⟩) → Q u H') ∧ (dataB ns = false → RaiseF C "form" H E)
theorem ok_firstE {C : Addr} {f : Addr} {fd : FuncData} (F : Fun K "first_state" "first_state" s_first_state f fd) (T : Txt K mg) (c_check_data : CalX P w K mg base 3 "check_data" (spData K C)) : FnOk P w K mg base (L2.CX P w) 4 f fd ["data"] (spFirstE K C) := by
  refine F.okX sc_first_state (fun vs H Q E h => ?_) (fun cdv A outer s H vs Q E hr h => ?_)
  · obtain ⟨v, ns, rfl, _⟩ := h
    rfl
  · obtain ⟨v, ns, rfl, hv, hl, k, kn⟩ := h
    refine ⟨_, (pss_cons (ps_expr (pe_cx c_check_data hr (by omega) rfl (takes_of rfl rfl rfl rfl) (pa_cons (pv 0) pa_nil)))
      (pss_one (ps_ret (pe_tup (pa_cons (pe_tup (pa_cons pe_int (pa_cons pe_int (pa_cons pe_int (pa_cons pe_int (pa_cons pe_int pa_nil)))))) (pa_cons (pe_callTy call_tuple_of (by rfl) T.b_tuple boot_tuple' (pa_cons (pv 0) pa_nil)) (pa_cons pe_int pa_nil))))))), ?_⟩
    refine ⟨_, rfl, v, ns, rfl, hv, hl, fun hd H1 s1 => ?_, kn⟩
    have k := k hd
    obtain ⟨a, rfl, ha⟩ := Nums.same s1 hv
    refine ⟨(show 5 ≤ sizeLine by decide), fun t1 n1 => ?_⟩
    have x1 := same_new (o := HO.tup [V.int 0, V.int 0, V.int 0, V.int 0, V.int 0]) n1
    have fin : ∀ (u : V) (H2 : Hp), Same (upd H1 t1 (.tup [V.int 0, V.int 0, V.int 0, V.int 0, V.int 0])) H2 → Dp K H2 u (.tuple (intsD ns)) → (3 ≤ sizeLine ∧ ∀ p, H2 p = none → Q (.ref p) (upd H2 p (.tup [.ref t1, u, .int 0]))) := fun u H2 s2 du =>
      ⟨(show 3 ≤ sizeLine by decide), fun p np => k _ _ ((s1.trans x1).trans (s2.trans (same_new np))) (.tup (SqT.of upd_same) (.cons (.tup (SqT.of ((s2.trans (same_new np)) _ _ upd_same)) (dps_ints [0, 0, 0, 0, 0])) (.cons (dp_same (same_new np) du) (.cons (.int _) .nil))))⟩
    refine ⟨_, rfl, a, ns.map V.int, rfl, ?_⟩
    rcases ha with ha | ha
    · refine .inl ⟨x1.seq ha, fun t2 n2 => ?_⟩
      exact fin (.ref t2) _ (same_new n2) (.tup (SqT.of upd_same) (dps_ints _))
    · refine .inr ⟨Same.tup x1 ha, ?_⟩
      exact fin (.ref a) _ (Same.refl _) (.tup (Same.tup x1 ha) (dps_ints _))
def BadS (K : PySem.W.Frag) (H : Hp) (v : V) : Prop := ∃ (t0 t1 : Bool) (ds : List PyData) (ns : List Int) (d2 : PyData), Dp K H v (.tuple [seqD t0 ds, seqD t1 (intsD ns), d2]) ∧ (∀ d ∈ ds, flatD d = true) ∧ flatD d2 = true ∧ ds.length ≤ 1000 ∧ ns.length ≤ 1000 ∧ okS t0 t1 ds ns d2 = false
theorem BadS.same {H H' : Hp} {v : V} (s : Same H H') : BadS K H v → BadS K H' v := fun ⟨t0, t1, ds, ns, d2, h, r⟩ => ⟨t0, t1, ds, ns, d2, dp_same s h, r⟩
def spAfterE (K : PySem.W.Frag) (CS CC : Addr) : Sp := fun vs H Q E => ∃ (vw v vb : V) (ws : List Int), vs = [vw, v, vb] ∧ Nums K H vw ws ∧ ws.length ≤ 1000 ∧
  ((wordsB ws = false ∧ RaiseF CC "words" H E) ∨ (wordsB ws = true ∧ BadS K H v ∧ RaiseF CS "form" H E) ∨
  (wordsB ws = true ∧ ∃ (s : Mc) (bi : List Int), Dp K H v (stD s) ∧ Good s ∧ Dp K H vb (.list (intsD bi)) ∧ ∀ (u : V) (H' : Hp), Same H H' → Dp K H' u (onceD ws s bi) → Q u H'))
theorem ok_afterE {CS CC : Addr} {f : Addr} {fd : FuncData} (F : Fun K "after" "after" s_after f fd) (T : Txt K mg) (c_check_words : CalX P w K mg base 3 "check_words" (spWords K CC)) (c_check_state : CalX P w K mg base 4 "check_state" (spState K CS)) (c_once : CalX P w K mg base 5 "once" (spOnce K)) :
    FnOk P w K mg base (L2.CX P w) 6 f fd ["words", "state", "bytes_in"] (spAfterE K CS CC) := by
  refine F.okX sc_after (fun vs H Q E h => ?_) (fun cdv A outer s H vs Q E hr h => ?_)
  · obtain ⟨vw, v, vb, ws, rfl, _⟩ := h
    rfl
  · obtain ⟨vw, v, vb, ws, rfl, hw, hl, h⟩ := h
    refine ⟨_, (pss_cons (ps_expr (pe_cx c_check_words hr (by omega) rfl (takes_of rfl rfl rfl rfl) (pa_cons (pv 0) pa_nil)))
      (pss_cons (ps_expr (pe_cx c_check_state hr (by omega) rfl (takes_of rfl rfl rfl rfl) (pa_cons (pv 1) pa_nil)))
      (pss_one (ps_ret (pe_cx c_once hr (by omega) rfl (takes_of rfl rfl rfl rfl) (pa_cons (pv 0) (pa_cons (pv 1) (pa_cons (pv 2) pa_nil)))))))), ?_⟩
    rcases h with ⟨wb, kr⟩ | ⟨wb, ⟨t0, t1, ds, ns, d2, hd, hf, hf2, hl1, hl2, hk⟩, kr⟩ | ⟨wb, st, bi, hv, hg, hb, k⟩
    · exact ⟨_, rfl, vw, ws, rfl, hw, hl, (fun e => absurd wb (by rw [e]; decide)), fun _ => kr⟩
    · refine ⟨_, rfl, vw, ws, rfl, hw, hl, (fun _ H1 s1 => ?_), fun e => absurd wb (by rw [e]; decide)⟩
      exact ⟨_, rfl, v, t0, t1, ds, ns, d2, rfl, dp_same s1 hd, hf, hf2, hl1, hl2, (fun e => absurd hk (by rw [e]; decide)), fun _ => RaiseF.later s1 kr⟩
    · obtain ⟨wl, wd⟩ := wordsB_ok wb
      have ok := good_okS hg
      refine ⟨_, rfl, vw, ws, rfl, hw, hl, fun _ H1 s1 => ?_, fun e => absurd wb (by rw [e]; decide)⟩
      refine ⟨_, rfl, v, true, true, intsD st.r, st.d, .int st.t, rfl, dp_same s1 hv, flat_ints, rfl, by rw [ints_len, hg.lr]; decide, by rw [hg.ld]; decide, fun _ H2 s2 => ?_, fun e => absurd ok (by rw [e]; decide)⟩
      refine ⟨_, rfl, _, rfl, _, rfl, vw, v, vb, ws, bi, st, rfl, hw.same (s1.trans s2), wd, dp_same (s1.trans s2) hv, hg, dp_same (s1.trans s2) hb, fun u H3 s3 d3 => k u H3 ((s1.trans s2).trans s3) d3⟩
/-! ### _law_told -/
structure WhyT (K : PySem.W.Frag) (mg : Str → Option Value) (CS CC CL CG : Addr) : Prop where
  gC : mg "GateError" = some (.ref CG)
  gS : mg "InvalidState" = some (.ref CS)
  gc : mg "InvalidCode" = some (.ref CC)
  gl : mg "InvalidLine" = some (.ref CL)
  mS : PySem.W.exmOne K (.ref CS) (.ref CG) = some true
  mC : PySem.W.exmOne K (.ref CC) (.ref CG) = some true
  mL : PySem.W.exmOne K (.ref CL) (.ref CG) = some true
  eS : ExcC K CS
  eC : ExcC K CC
  eL : ExcC K CL
  kCC : PySem.W.kitOne K (.ref CC) (.ref CC) = some true
  kSC : PySem.W.kitOne K (.ref CS) (.ref CC) = some false
  kSL : PySem.W.kitOne K (.ref CS) (.ref CL) = some false
  kSS : PySem.W.kitOne K (.ref CS) (.ref CS) = some true
  kLC : PySem.W.kitOne K (.ref CL) (.ref CC) = some false
  kLL : PySem.W.kitOne K (.ref CL) (.ref CL) = some true
  xS : XfC K CS
  xC : XfC K CC
  xL : XfC K CL
  nS : PySem.W.findIn K (.ref CS) "what" = some none
  nC : PySem.W.findIn K (.ref CC) "what" = some none
  nL : PySem.W.findIn K (.ref CL) "sign" = some none
def KTold (K : PySem.W.Frag) (H : Hp) (d : PyData) (Q : VK) : Prop := ∀ (z : V) (H' : Hp), Same H H' → Dp K H' z d → Q z H'
theorem KTold.later {H H' : Hp} {d : PyData} {Q : VK} (s : Same H H') (k : KTold K H d Q) : KTold K H' d Q := fun z H2 s2 h => k z H2 (s.trans s2) h
def pairD (x y : Str) : PyData := .tuple [.str x, .str y]
def spTold (K : PySem.W.Frag) : Sp := fun vs H Q _ => ∃ (ask : Int) (v : V), vs = [.int ask, v] ∧
  ((ask = 0 ∧ ∃ op a b n : Int, Dp K H v (.tuple (intsD [op, a, b, n])) ∧ KTold K H (if inW op a b n = true then .int (4096 * op + 1024 * a + 256 * b + n) else pairD "code" "field") Q) ∨
  (ask = 1 ∧ ∃ w : Int, v = .int w ∧ KTold K H (if wordB w = true then .tuple (intsD [fop w, fa w, fb w, fn w]) else pairD "code" "words") Q) ∨
  (ask = 2 ∧ ∃ w : Int, v = .int w ∧ KTold K H (if wordB w = true then .str (lineT w) else pairD "code" "words") Q) ∨
  (ask = 3 ∧ ∃ (x : Str) (ps : List Str), v = .str x ∧ OkP ps x ∧ KTold K H (lwD (readT ps)) Q) ∨
  (ask = 4 ∧ ∃ ns : List Int, Nums K H v ns ∧ ns.length ≤ 1000 ∧ KTold K H (if dataB ns = true then stD ⟨[0, 0, 0, 0, 0], ns, 0⟩ else pairD "state" "form") Q) ∨
  (ask = 5 ∧ ∃ (t : Addr) (vw vs' vb : V) (ws : List Int), v = .ref t ∧ SqT K H t [vw, vs', vb] ∧ Nums K H vw ws ∧ ws.length ≤ 1000 ∧
    ((wordsB ws = false ∧ KTold K H (pairD "code" "words") Q) ∨ (wordsB ws = true ∧ BadS K H vs' ∧ KTold K H (pairD "state" "form") Q) ∨
    (wordsB ws = true ∧ ∃ (s : Mc) (bi : List Int), Dp K H vs' (stD s) ∧ Good s ∧ Dp K H vb (.list (intsD bi)) ∧ KTold K H (onceD ws s bi) Q))))
structure CalsT (P : Program) (w : World) (K : PySem.W.Frag) (mg : Str → Option Value) (base : Heap) (CS CC CL : Addr) : Prop where
  wordOf : CalX P w K mg base 3 "word_of" (spWordOf K CC)
  fields : CalX P w K mg base 4 "fields_of" (spFieldsE K CC)
  shown : CalX P w K mg base 5 "shown" (spShown K CC)
  read : CalX P w K mg base 4 "read_word" (spRead K CL)
  first : CalX P w K mg base 4 "first_state" (spFirstE K CS)
  after : CalX P w K mg base 6 "after" (spAfterE K CS CC)
theorem ok_told {CS CC CL CG : Addr} {f : Addr} {fd : FuncData} (F : Fun K "_law_told" "_law_told" s__law_told f fd) (T : Txt K mg) (R_GateError : WhyT K mg CS CC CL CG) (c : CalsT P w K mg base CS CC CL) :
    FnOk P w K mg base CX0 7 f fd ["ask", "thing"] (spTold K) := by
  refine F.ok sc__law_told (fun vs H Q E h => ?_) (fun cdv A outer s H vs Q E hr h => ?_)
  · obtain ⟨ask, v, rfl, _⟩ := h
    rfl
  · obtain ⟨ask, v, rfl, h⟩ := h
    have c_word_of := c.wordOf
    have c_fields_of := c.fields
    have c_shown := c.shown
    have c_read_word := c.read
    have c_first_state := c.first
    have c_after := c.after
    have g_InvalidState : ∃ u, mg "InvalidState" = some u ∧ RelV (V.ref CS) u := ⟨_, R_GateError.gS, rfl⟩
    have g_InvalidCode : ∃ u, mg "InvalidCode" = some u ∧ RelV (V.ref CC) u := ⟨_, R_GateError.gc, rfl⟩
    have g_InvalidLine : ∃ u, mg "InvalidLine" = some u ∧ RelV (V.ref CL) u := ⟨_, R_GateError.gl, rfl⟩
    refine ⟨_, (pss_one (ps_try_as (i := 2) rfl rfl sc__law_told.nd rfl rfl ⟨rfl, by decide, .inl R_GateError.gC⟩ takes0 (fun W pn xe tk po => (pss_cons (ps_if (pt_cmpR op_eq (pv 0) pe_int (nomark _)) (pss_one (ps_ret (pe_cx c_word_of hr (by omega) rfl tk (pa_cons (pe_ix (ix_seqK (K := K) rfl) (pv 1) pe_int (fun _ _ => rfl)) (pa_cons (pe_ix (ix_seqK (K := K) rfl) (pv 1) pe_int (fun _ _ => rfl)) (pa_cons (pe_ix (ix_seqK (K := K) rfl) (pv 1) pe_int (fun _ _ => rfl)) (pa_cons (pe_ix (ix_seqK (K := K) rfl) (pv 1) pe_int (fun _ _ => rfl)) pa_nil))))))) pss_nil)
      (pss_cons (ps_if (pt_cmpR op_eq (pv 0) pe_int (nomark _)) (pss_one (ps_ret (pe_cx c_fields_of hr (by omega) rfl tk (pa_cons (pv 1) pa_nil)))) pss_nil)
      (pss_cons (ps_if (pt_cmpR op_eq (pv 0) pe_int (nomark _)) (pss_one (ps_ret (pe_cx c_shown hr (by omega) rfl tk (pa_cons (pv 1) pa_nil)))) pss_nil)
      (pss_cons (ps_if (pt_cmpR op_eq (pv 0) pe_int (nomark _)) (pss_one (ps_ret (pe_cx c_read_word hr (by omega) rfl tk (pa_cons (pv 1) pa_nil)))) pss_nil)
      (pss_cons (ps_if (pt_cmpR op_eq (pv 0) pe_int (nomark _)) (pss_one (ps_ret (pe_cx c_first_state hr (by omega) rfl tk (pa_cons (pv 1) pa_nil)))) pss_nil)
      (pss_one (ps_ret (pe_cx c_after hr (by omega) rfl tk (pa_cons (pe_ix (ix_seqK (K := K) rfl) (pv 1) pe_int (fun _ _ => rfl)) (pa_cons (pe_ix (ix_seqK (K := K) rfl) (pv 1) pe_int (fun _ _ => rfl)) (pa_cons (pe_ix (ix_seqK (K := K) rfl) (pv 1) pe_int (fun _ _ => rfl)) pa_nil)))))))))))) (fun a oe cls d pn hz hf => (pss_cons (ps_if (pt_val (pe_callB (call_isD hz hf) (by rfl) T.b_isinstance boot_isinstance' (pa_cons (pv 2) (pa_cons (pe_gc (by rfl) g_InvalidCode) pa_nil)))) (pss_one (ps_ret (pe_tup (pa_cons pe_str (pa_cons (pe_xg hz hf (pv 2)) pa_nil))))) pss_nil)
      (pss_cons (ps_if (pt_val (pe_callB (call_isD hz hf) (by rfl) T.b_isinstance boot_isinstance' (pa_cons (pv 2) (pa_cons (pe_gc (by rfl) g_InvalidLine) pa_nil)))) (pss_one (ps_ret (pe_tup (pa_cons pe_str (pa_cons (pe_xg hz hf (pv 2)) pa_nil))))) pss_nil)
      (pss_one (ps_ret (pe_ifExp (pt_val (pe_callB (call_isD hz hf) (by rfl) T.b_isinstance boot_isinstance' (pa_cons (pv 2) (pa_cons (pe_gc (by rfl) g_InvalidState) pa_nil)))) (pe_tup (pa_cons pe_str (pa_cons (pe_xg hz hf (pv 2)) pa_nil))) pe_str)))))))), ?_⟩
    rcases h with ⟨rfl, op, a, b, n, hv, k⟩ | ⟨rfl, w, rfl, k⟩ | ⟨rfl, w, rfl, k⟩ | ⟨rfl, x, ps, rfl, O, k⟩ | ⟨rfl, ns, hv, hl, k⟩ | ⟨rfl, t, vw, vs', vb, ws, rfl, ht, hw, hl, h⟩
    · obtain ⟨t, xs, rfl, ht, hxs⟩ := dp_tup hv
      cases dps_ints_of (ns := [op, a, b, n]) hxs
      refine ⟨_, rfl, rfl, _, rfl, ifT rfl ?_⟩
      refine ⟨_, rfl, .inr (.inl ⟨t, _, 0, _, rfl, rfl, ht, atI_nat (j := 0) rfl, _, rfl, .inr (.inl ⟨t, _, 1, _, rfl, rfl, ht, atI_nat (j := 1) rfl, _, rfl, .inr (.inl ⟨t, _, 2, _, rfl, rfl, ht, atI_nat (j := 2) rfl, _, rfl, .inr (.inl ⟨t, _, 3, _, rfl, rfl, ht, atI_nat (j := 3) rfl, op, a, b, n, rfl, fun hk H' s' => ?_, fun hk H' d s1 hd => ?_⟩)⟩)⟩)⟩)⟩
      · exact k _ _ s' (by rw [if_pos hk]; exact .int _)
      · rw [if_neg (by rw [hk]; decide)] at k
        refine ⟨true, R_GateError.mC, fun _ a ha => ?_, fun q => Bool.noConfusion q⟩
        refine ⟨_, rfl, CC, _, .ref CC, true, d, _, rfl, rfl, hd, R_GateError.eC, rfl, fun _ h => h, R_GateError.kCC, _, rfl, ifT rfl ?_⟩
        refine ⟨_, rfl, rfl, CC, d, _, _, rfl, R_GateError.xC, R_GateError.nC, rfl, hd, rfl, (show 2 ≤ sizeLine by decide), fun p np => ?_⟩
        exact k _ _ (s1.trans (same_new np)) (.tup (SqT.of upd_same) (.cons (.str _) (.cons (.str _) .nil)))
    · refine ⟨_, rfl, rfl, _, rfl, ifF rfl ?_⟩
      refine ⟨_, rfl, rfl, _, rfl, ifT rfl ?_⟩
      refine ⟨_, rfl, w, rfl, fun hk t H' s' ht => ?_, fun hk H' d s1 hd => ?_⟩
      · exact k _ _ s' (by rw [if_pos hk]; exact .tup (SqT.of ht) (dps_ints [fop w, fa w, fb w, fn w]))
      · rw [if_neg (by rw [hk]; decide)] at k
        refine ⟨true, R_GateError.mC, fun _ a ha => ?_, fun q => Bool.noConfusion q⟩
        refine ⟨_, rfl, CC, _, .ref CC, true, d, _, rfl, rfl, hd, R_GateError.eC, rfl, fun _ h => h, R_GateError.kCC, _, rfl, ifT rfl ?_⟩
        refine ⟨_, rfl, rfl, CC, d, _, _, rfl, R_GateError.xC, R_GateError.nC, rfl, hd, rfl, (show 2 ≤ sizeLine by decide), fun p np => ?_⟩
        exact k _ _ (s1.trans (same_new np)) (.tup (SqT.of upd_same) (.cons (.str _) (.cons (.str _) .nil)))
    · refine ⟨_, rfl, rfl, _, rfl, ifF rfl ?_⟩
      refine ⟨_, rfl, rfl, _, rfl, ifF rfl ?_⟩
      refine ⟨_, rfl, rfl, _, rfl, ifT rfl ?_⟩
      refine ⟨_, rfl, w, rfl, fun hk H' s' => ?_, fun hk H' d s1 hd => ?_⟩
      · exact k _ _ s' (by rw [if_pos hk]; exact .str _)
      · rw [if_neg (by rw [hk]; decide)] at k
        refine ⟨true, R_GateError.mC, fun _ a ha => ?_, fun q => Bool.noConfusion q⟩
        refine ⟨_, rfl, CC, _, .ref CC, true, d, _, rfl, rfl, hd, R_GateError.eC, rfl, fun _ h => h, R_GateError.kCC, _, rfl, ifT rfl ?_⟩
        refine ⟨_, rfl, rfl, CC, d, _, _, rfl, R_GateError.xC, R_GateError.nC, rfl, hd, rfl, (show 2 ≤ sizeLine by decide), fun p np => ?_⟩
        exact k _ _ (s1.trans (same_new np)) (.tup (SqT.of upd_same) (.cons (.str _) (.cons (.str _) .nil)))
    · refine ⟨_, rfl, rfl, _, rfl, ifF rfl ?_⟩
      refine ⟨_, rfl, rfl, _, rfl, ifF rfl ?_⟩
      refine ⟨_, rfl, rfl, _, rfl, ifF rfl ?_⟩
      refine ⟨_, rfl, rfl, _, rfl, ifT rfl ?_⟩
      refine ⟨_, rfl, x, ps, rfl, O, fun v hk H' s' => ?_, fun hk H' d s1 hd => ?_⟩
      · exact k _ _ s' (by rw [hk]; exact .int _)
      · rw [hk] at k
        refine ⟨true, R_GateError.mL, fun _ a ha => ?_, fun q => Bool.noConfusion q⟩
        refine ⟨_, rfl, CL, _, .ref CC, false, d, _, rfl, rfl, hd, R_GateError.eL, rfl, fun _ h => h, R_GateError.kLC, _, rfl, ifF rfl ?_⟩
        refine ⟨_, rfl, CL, _, .ref CL, true, d, _, rfl, rfl, hd, R_GateError.eL, rfl, fun _ h => h, R_GateError.kLL, _, rfl, ifT rfl ?_⟩
        refine ⟨_, rfl, rfl, CL, d, _, _, rfl, R_GateError.xL, R_GateError.nL, rfl, hd, rfl, (show 2 ≤ sizeLine by decide), fun p np => ?_⟩
        exact k _ _ (s1.trans (same_new np)) (.tup (SqT.of upd_same) (.cons (.str _) (.cons (.int _) .nil)))
    · refine ⟨_, rfl, rfl, _, rfl, ifF rfl ?_⟩
      refine ⟨_, rfl, rfl, _, rfl, ifF rfl ?_⟩
      refine ⟨_, rfl, rfl, _, rfl, ifF rfl ?_⟩
      refine ⟨_, rfl, rfl, _, rfl, ifF rfl ?_⟩
      refine ⟨_, rfl, rfl, _, rfl, ifT rfl ?_⟩
      refine ⟨_, rfl, v, ns, rfl, hv, hl, fun hk u H' s' d' => ?_, fun hk H' d s1 hd => ?_⟩
      · exact k _ _ s' (by rw [if_pos hk]; exact d')
      · rw [if_neg (by rw [hk]; decide)] at k
        refine ⟨true, R_GateError.mS, fun _ a ha => ?_, fun q => Bool.noConfusion q⟩
        refine ⟨_, rfl, CS, _, .ref CC, false, d, _, rfl, rfl, hd, R_GateError.eS, rfl, fun _ h => h, R_GateError.kSC, _, rfl, ifF rfl ?_⟩
        refine ⟨_, rfl, CS, _, .ref CL, false, d, _, rfl, rfl, hd, R_GateError.eS, rfl, fun _ h => h, R_GateError.kSL, _, rfl, ifF rfl ?_⟩
        refine ⟨_, rfl, CS, _, .ref CS, true, d, _, rfl, rfl, hd, R_GateError.eS, rfl, fun _ h => h, R_GateError.kSS, _, rfl, ifT rfl ?_⟩
        refine ⟨_, rfl, rfl, CS, d, _, _, rfl, R_GateError.xS, R_GateError.nS, rfl, hd, rfl, (show 2 ≤ sizeLine by decide), fun p np => ?_⟩
        exact k _ _ (s1.trans (same_new np)) (.tup (SqT.of upd_same) (.cons (.str _) (.cons (.str _) .nil)))
    · refine ⟨_, rfl, rfl, _, rfl, ifF rfl ?_⟩
      refine ⟨_, rfl, rfl, _, rfl, ifF rfl ?_⟩
      refine ⟨_, rfl, rfl, _, rfl, ifF rfl ?_⟩
      refine ⟨_, rfl, rfl, _, rfl, ifF rfl ?_⟩
      refine ⟨_, rfl, rfl, _, rfl, ifF rfl ?_⟩
      refine ⟨_, rfl, .inr (.inl ⟨t, _, 0, _, rfl, rfl, ht, atI_nat (j := 0) rfl, _, rfl, .inr (.inl ⟨t, _, 1, _, rfl, rfl, ht, atI_nat (j := 1) rfl, _, rfl, .inr (.inl ⟨t, _, 2, _, rfl, rfl, ht, atI_nat (j := 2) rfl, vw, vs', vb, ws, rfl, hw, hl, ?_⟩)⟩)⟩)⟩
      rcases h with ⟨wb, k⟩ | ⟨wb, hs, k⟩ | ⟨wb, st, bi, hv, hg, hb, k⟩
      · refine .inl ⟨wb, fun H' d s1 hd => ?_⟩
        refine ⟨true, R_GateError.mC, fun _ a ha => ?_, fun q => Bool.noConfusion q⟩
        refine ⟨_, rfl, CC, _, .ref CC, true, d, _, rfl, rfl, hd, R_GateError.eC, rfl, fun _ h => h, R_GateError.kCC, _, rfl, ifT rfl ?_⟩
        refine ⟨_, rfl, rfl, CC, d, _, _, rfl, R_GateError.xC, R_GateError.nC, rfl, hd, rfl, (show 2 ≤ sizeLine by decide), fun p np => ?_⟩
        exact k _ _ (s1.trans (same_new np)) (.tup (SqT.of upd_same) (.cons (.str _) (.cons (.str _) .nil)))
      · refine .inr (.inl ⟨wb, hs, fun H' d s1 hd => ?_⟩)
        refine ⟨true, R_GateError.mS, fun _ a ha => ?_, fun q => Bool.noConfusion q⟩
        refine ⟨_, rfl, CS, _, .ref CC, false, d, _, rfl, rfl, hd, R_GateError.eS, rfl, fun _ h => h, R_GateError.kSC, _, rfl, ifF rfl ?_⟩
        refine ⟨_, rfl, CS, _, .ref CL, false, d, _, rfl, rfl, hd, R_GateError.eS, rfl, fun _ h => h, R_GateError.kSL, _, rfl, ifF rfl ?_⟩
        refine ⟨_, rfl, CS, _, .ref CS, true, d, _, rfl, rfl, hd, R_GateError.eS, rfl, fun _ h => h, R_GateError.kSS, _, rfl, ifT rfl ?_⟩
        refine ⟨_, rfl, rfl, CS, d, _, _, rfl, R_GateError.xS, R_GateError.nS, rfl, hd, rfl, (show 2 ≤ sizeLine by decide), fun p np => ?_⟩
        exact k _ _ (s1.trans (same_new np)) (.tup (SqT.of upd_same) (.cons (.str _) (.cons (.str _) .nil)))
      · exact .inr (.inr ⟨wb, st, bi, hv, hg, hb, fun u H' s' d' => k u H' s' d'⟩)
end
end Q39




namespace Q39
open PySem L2 G M40
/-! # the law: plain facts -/
/-- the parts of a run's result -/
structure RunA (K : PySem.W.Frag) (H : Hp) (u ao at_ : Addr) (vs : V) (xt : List V) (r : Res) : Prop where
  u : SqT K H u [.ref ao, .str r.fin, vs, .ref at_]
  o : H ao = some (.lst (r.out.map V.int))
  t : H at_ = some (.lst xt)
  x : DpAll K H xt (r.tr.map rowD)
  s : Dp K H vs (stD r.st)
theorem RunA.same {K : PySem.W.Frag} {H H' : Hp} {u ao at_ : Addr} {vs : V} {xt : List V} {r : Res} (h : RunA K H u ao at_ vs xt r) (e : Same H H') : RunA K H' u ao at_ vs xt r :=
  ⟨Same.tup e h.u, e _ _ h.o, e _ _ h.t, dps_same e h.x, dp_same e h.s⟩
theorem RunA.dp {K : PySem.W.Frag} {H : Hp} {u ao at_ : Addr} {vs : V} {xt : List V} {r : Res} (h : RunA K H u ao at_ vs xt r) : Dp K H (.ref u) (runD r) :=
  .tup h.u (.cons (.lst (SqL.of h.o) (dps_ints _)) (.cons (.str _) (.cons h.s (.cons (.lst (SqL.of h.t) h.x) .nil))))
theorem KeepT.del {H : Hp} {D : Addr} {xs : List V} (h : H D = some (.lst xs)) : KeepT H (del1 H D) := fun b u e n => by
  have ne : b ≠ D := fun z => by
    rw [z, h] at e
    exact n _ (Option.some.inj e).symm
  rw [del1_ne ne]
  exact e
theorem RunA.del {K : PySem.W.Frag} {H : Hp} {u ao at_ D : Addr} {vs : V} {xt : List V} {r : Res} (h : RunA K H u ao at_ vs xt r) (hd : Deck H D) (n1 : ao ≠ D) (n2 : at_ ≠ D) : RunA K (del1 H D) u ao at_ vs xt r := by
  obtain ⟨ds, _, hd⟩ := hd
  have k := KeepT.del hd
  exact ⟨SqT.keep k h.u, by rw [del1_ne n1]; exact h.o, by rw [del1_ne n2]; exact h.t, dps_keep k (noL_rows _) h.x, dp_keep k (noL_st _) h.s⟩
/-- a result of new lists -/
theorem KRun.of {K : PySem.W.Frag} {H : Hp} {r : Res} {Q : VK} (h : ∀ (u ao at_ : Addr) (vs : V) (xt : List V) (H' : Hp), Same H H' → H ao = none → H at_ = none → ao ≠ at_ → RunA K H' u ao at_ vs xt r → Q (.ref u) H') : KRun K H r Q :=
  fun u ao at_ vs xt H' s n1 n2 n3 a b c d e => h u ao at_ vs xt H' s n1 n2 n3 ⟨a, b, c, d, e⟩
mutual
/-- data that can be laid, that can be made plain and laid -/
def okD : Nat → PyData → Bool
  | _, .none => true
  | _, .bool _ => true
  | _, .int _ => true
  | _, .str z => PyData.strOk z
  | n + 1, .list ds => decide (ds.length ≤ 10000) && okDs n ds
  | n + 1, .tuple ds => decide (ds.length ≤ 10000) && okDs n ds
  | _, _ => false
def okDs : Nat → List PyData → Bool
  | _, [] => true
  | n, d :: r => okD n d && okDs n r
end
mutual
theorem ok_lay : ∀ {n : Nat} {d : PyData}, okD n d = true → d.canLay0 = true ∧ d.depth ≤ n
  | n, .none, _ => ⟨by simp [PyData.canLay0], by simp [PyData.depth]⟩
  | n, .bool _, _ => ⟨by simp [PyData.canLay0], by simp [PyData.depth]⟩
  | n, .int _, _ => ⟨by simp [PyData.canLay0], by simp [PyData.depth]⟩
  | n, .str z, h => ⟨by simpa [PyData.canLay0, okD] using h, by simp [PyData.depth]⟩
  | n, .dict _, h => by simp [okD] at h
  | 0, .list _, h => by simp [okD] at h
  | 0, .tuple _, h => by simp [okD] at h
  | n + 1, .list xs, h => by
    simp only [okD, Bool.and_eq_true, decide_eq_true_eq] at h
    obtain ⟨h1, h2⟩ := oks_lay h.2
    exact ⟨by simp only [PyData.canLay0]; exact h1, by simp only [PyData.depth]; omega⟩
  | n + 1, .tuple xs, h => by
    simp only [okD, Bool.and_eq_true, decide_eq_true_eq] at h
    obtain ⟨h1, h2⟩ := oks_lay h.2
    exact ⟨by simp only [PyData.canLay0]; exact h1, by simp only [PyData.depth]; omega⟩
theorem oks_lay : ∀ {n : Nat} {ds : List PyData}, okDs n ds = true → PyData.canLayAll0 ds = true ∧ PyData.depthAll ds ≤ n
  | n, [], _ => ⟨by simp [PyData.canLayAll0], by simp [PyData.depthAll]⟩
  | n, x :: xs, h => by
    simp only [okDs, Bool.and_eq_true] at h
    obtain ⟨a1, a2⟩ := ok_lay h.1
    obtain ⟨b1, b2⟩ := oks_lay h.2
    exact ⟨by simp only [PyData.canLayAll0, a1, b1, Bool.and_true], by simp only [PyData.depthAll]; omega⟩
end
theorem ok_shaped {n : Nat} {d : PyData} (h : okD n d = true) (hn : n ≤ 64) : SeqAt.shaped d = true := by
  obtain ⟨h1, h2⟩ := ok_lay h
  show (d.canLay0 && decide (d.depth ≤ 64)) = true
  rw [h1, Bool.true_and]
  exact decide_eq_true (by omega)
mutual
theorem ok_plainD : ∀ {n : Nat} {d : PyData}, okD n d = true → (plain d).canLay0 = true ∧ (plain d).depth ≤ n + 1 ∧ tall d n
  | n, .none, _ => ⟨by decide +kernel, by simp [plain, PyData.depth], by cases n <;> trivial⟩
  | n, .bool b, _ => ⟨by cases b <;> decide +kernel, by cases b <;> simp [plain, PyData.depth], by cases n <;> trivial⟩
  | n, .int _, _ => ⟨by simp [plain, PyData.canLay0, PyData.canLayAll0], by simp [plain, PyData.depth, PyData.depthAll], by cases n <;> trivial⟩
  | n, .str z, h => ⟨by
      have : PyData.strOk z = true := by simpa [okD] using h
      simp [plain, PyData.canLay0, PyData.canLayAll0, this], by simp [plain, PyData.depth, PyData.depthAll], by cases n <;> trivial⟩
  | n, .dict _, h => by simp [okD] at h
  | 0, .list _, h => by simp [okD] at h
  | 0, .tuple _, h => by simp [okD] at h
  | n + 1, .list xs, h => by
    simp only [okD, Bool.and_eq_true, decide_eq_true_eq] at h
    obtain ⟨h1, h2, h3⟩ := oks_plainD h.2
    exact ⟨by simp [plain, PyData.canLay0, PyData.canLayAll0, h1], by simp only [plain, PyData.depth, PyData.depthAll]; omega, h.1, h3⟩
  | n + 1, .tuple xs, h => by
    simp only [okD, Bool.and_eq_true, decide_eq_true_eq] at h
    obtain ⟨h1, h2, h3⟩ := oks_plainD h.2
    exact ⟨by simp [plain, PyData.canLay0, PyData.canLayAll0, h1], by simp only [plain, PyData.depth, PyData.depthAll]; omega, h.1, h3⟩
theorem oks_plainD : ∀ {n : Nat} {ds : List PyData}, okDs n ds = true → PyData.canLayAll0 (plains ds) = true ∧ PyData.depthAll (plains ds) ≤ n + 1 ∧ talls ds n
  | n, [], _ => ⟨by simp [plains, PyData.canLayAll0], by simp [plains, PyData.depthAll], by cases n <;> trivial⟩
  | n, x :: xs, h => by
    simp only [okDs, Bool.and_eq_true] at h
    obtain ⟨a1, a2, a3⟩ := ok_plainD h.1
    obtain ⟨b1, b2, b3⟩ := oks_plainD h.2
    exact ⟨by simp only [plains, PyData.canLayAll0, a1, b1, Bool.and_true], by simp only [plains, PyData.depthAll]; omega, a3, b3⟩
end
theorem okp_shaped {n : Nat} {d : PyData} (h : okD n d = true) (hn : n ≤ 60) : SeqAt.shaped (plain d) = true := by
  obtain ⟨h1, h2, _⟩ := ok_plainD h
  show ((plain d).canLay0 && decide ((plain d).depth ≤ 64)) = true
  rw [h1, Bool.true_and]
  exact decide_eq_true (by omega)
theorem ok_eqv {n : Nat} {d : PyData} (h : okD n d = true) : PyData.eqv d d = true := SeqAt.eqv_refl _ (ok_lay h).1
theorem okp_eqv {n : Nat} {d : PyData} (h : okD n d = true) : PyData.eqv (plain d) (plain d) = true := SeqAt.eqv_refl _ (ok_plainD h).1
theorem okDs_map {α : Type} {n : Nat} {f : α → PyData} : ∀ {l : List α}, (∀ x ∈ l, okD n (f x) = true) → okDs n (l.map f) = true
  | [], _ => by simp [okDs]
  | a :: r, h => by
    have := okDs_map (n := n) (f := f) (l := r) fun x hx => h x (List.mem_cons_of_mem _ hx)
    simp [okDs, h a List.mem_cons_self, this]
theorem okD_ints (n : Nat) (xs : List Int) : okDs n (intsD xs) = true := okDs_map fun x _ => by cases n <;> rfl
theorem okD_st {s : Mc} (h : Good s) (n : Nat) : okD (n + 2) (stD s) = true := by
  have l := h.lr
  have m := h.ld
  unfold stD
  simp [okD, okDs, okD_ints, ints_len, l, m]
theorem okD_row (r : Row) (n : Nat) : okD (n + 2) (rowD r) = true := by
  obtain ⟨i, w⟩ := r
  have e1 : PyData.strOk "r" = true := by decide +kernel
  have e2 : PyData.strOk "b" = true := by decide +kernel
  have e3 : PyData.strOk "in" = true := by decide +kernel
  cases w <;> simp [rowD, whatD, okD, okDs, e1, e2, e3]
theorem okD_run {r : Res} (h : Good r.st) (hf : PyData.strOk r.fin = true) (h1 : r.out.length ≤ 10000) (h2 : r.tr.length ≤ 10000) : okD 4 (runD r) = true := by
  unfold runD
  have a := okD_st h 1
  have b : okDs 2 (r.tr.map rowD) = true := okDs_map fun x _ => okD_row x 0
  simp only [okD, okDs, a, b, okD_ints, ints_len, hf, List.length_map, Bool.and_eq_true, decide_eq_true_eq, and_true, true_and]
  exact ⟨by show 4 ≤ 10000; decide, h1, h2⟩
section
variable {ws bi : List Int}
theorem end_ok {s : Mc} {z : Str} (h : endAt ws s = some z) : PyData.strOk z = true ∧ z ≠ "cut" := by
  unfold endAt endOf at h
  split at h
  · cases h
    split
    · have hn : fn (wordAt ws s) = 0 ∨ fn (wordAt ws s) = 1 ∨ fn (wordAt ws s) = 2 := by
        have : 0 ≤ fn (wordAt ws s) := Int.emod_nonneg _ (by decide)
        omega
      rcases hn with q | q | q <;> rw [q] <;> exact ⟨by decide +kernel, by decide +kernel⟩
    · exact ⟨by decide +kernel, by decide +kernel⟩
  · split at h
    · cases h
      exact ⟨by decide +kernel, by decide +kernel⟩
    · cases h
theorem fin_ok : ∀ (k : Nat) (s : Mc), PyData.strOk (M40.run ws bi k s).fin = true
  | 0, _ => show PyData.strOk "cut" = true by decide +kernel
  | k + 1, s => by
    unfold M40.run
    cases e : endAt ws s with
    | some z => exact (end_ok e).1
    | none => exact fin_ok k _
def rowAt (ws bi : List Int) (s : Mc) : Row := match endAt ws s with
  | some _ => (g s.r 4, .non)
  | none => (nxt ws s bi).2.2
theorem tr_at : ∀ (k i : Nat) (s : Mc), i < (M40.run ws bi k s).tr.length → (M40.run ws bi i s).fin = "cut" ∧ (M40.run ws bi k s).tr[i]? = some (rowAt ws bi (M40.run ws bi i s).st)
  | 0, i, s, h => absurd h (Nat.not_lt_zero _)
  | k + 1, i, s, h => by
    unfold M40.run at h
    cases e : endAt ws s with
    | some z =>
      rw [e] at h
      have i0 : i = 0 := by
        have : i < 1 := h
        omega
      subst i0
      refine ⟨rfl, ?_⟩
      unfold M40.run rowAt
      dsimp only
      rw [e]
      rfl
    | none =>
      rw [e] at h
      cases i with
      | zero =>
        refine ⟨rfl, ?_⟩
        conv => lhs; unfold M40.run
        rw [e]
        show some _ = some (rowAt ws bi s)
        unfold rowAt
        rw [e]
      | succ i =>
        have h' : i < (M40.run ws bi k (nxt ws s bi).1).tr.length := by
          have : i + 1 < (M40.run ws bi k (nxt ws s bi).1).tr.length + 1 := h
          omega
        obtain ⟨a, b⟩ := tr_at k i _ h'
        have e1 : M40.run ws bi (i + 1) s = ⟨(nxt ws s bi).2.1.toList ++ (M40.run ws bi i (nxt ws s bi).1).out, (M40.run ws bi i (nxt ws s bi).1).fin, (M40.run ws bi i (nxt ws s bi).1).st, (nxt ws s bi).2.2 :: (M40.run ws bi i (nxt ws s bi).1).tr⟩ := by
          conv => lhs; unfold M40.run
          rw [e]
        rw [e1]
        refine ⟨a, ?_⟩
        conv => lhs; unfold M40.run
        rw [e]
        exact b
theorem st_next {i : Nat} {s : Mc} (h : (M40.run ws bi i s).fin = "cut") : onceD ws (M40.run ws bi i s).st bi = .tuple [stD (M40.run ws bi (i + 1) s).st, (match endAt ws (M40.run ws bi i s).st with | some _ => .none | none => optI (nxt ws (M40.run ws bi i s).st bi).2.1), (match endAt ws (M40.run ws bi i s).st with | some e => .str e | none => .none), rowD (rowAt ws bi (M40.run ws bi i s).st)] := by
  unfold onceD rowAt
  cases e : endAt ws (M40.run ws bi i s).st with
  | some z => rw [run_stop (k := 0) h e]
  | none => rw [run_step h e]
end
end Q39




namespace Q39
open PySem L2 G M40
/-! # lines read back: no program here -/
theorem strOk_of {x : Str} (h : ∀ c ∈ x.cps.toList, c < 0x110000) : PyData.strOk x = true := by
  unfold PyData.strOk
  rw [← Array.all_toList, List.all_eq_true]
  intro c hc
  exact decide_eq_true (h c hc)
theorem num_toList {n : Int} (h : 0 ≤ n) : (numS n).cps.toList = TL.numL n.toNat := by
  obtain ⟨m, rfl⟩ := Int.eq_ofNat_of_zero_le h
  rw [Int.toNat_natCast]
  exact TL.tl_num m
theorem num_dig {n : Int} (h : 0 ≤ n) : ∀ c ∈ (numS n).cps.toList, 48 ≤ c ∧ c ≤ 57 := by
  rw [num_toList h]
  exact TL.numL_digits _
theorem num_digs {n : Int} (h : 0 ≤ n) : digs (numS n) = true := by
  unfold digs
  rw [List.all_eq_true]
  intro c hc
  have := num_dig h c hc
  rw [decide_eq_true this.1, decide_eq_true this.2]
  rfl
theorem num_val {n : Int} (h : 0 ≤ n) : valS (numS n) = n := by
  unfold valS
  rw [num_toList h, TL.numL_val]
  exact Int.toNat_of_nonneg h
theorem num_ne {n : Int} (h : 0 ≤ n) : numS n ≠ "" := fun z => by
  have := (empty_iff _).mp z
  rw [num_toList h] at this
  exact TL.numL_ne _ this
theorem num_read {n b : Int} (h : 0 ≤ n) (h1 : n ≤ 65535) (hb : n < b) : numIn (numS n) b = some n := by
  rw [num_small (num_digs h) (num_ne h) (Nat.le_trans (numS_len h h1) (by decide)), num_val h, if_pos ⟨rfl, hb⟩]
/-- a word of a line: no blank, can be laid -/
structure Wok (p : Str) : Prop where
  ok : PyData.strOk p = true
  sp : 32 ∉ p.cps.toList
  l : p.length ≤ 100
theorem num_wok {n : Int} (h : 0 ≤ n) (h1 : n ≤ 65535) : Wok (numS n) :=
  ⟨strOk_of fun c hc => by have := num_dig h c hc; omega, fun hc => by have := num_dig h 32 hc; omega, Nat.le_trans (numS_len h h1) (by decide)⟩
theorem reg_wok {n : Int} (h : 0 ≤ n) (h1 : n ≤ 65535) : Wok ("r" ++ numS n) := by
  have e : ("r" ++ numS n : Str).cps.toList = [114] ++ (numS n).cps.toList := TL.tl_append "r" (numS n)
  refine ⟨strOk_of fun c hc => ?_, fun hc => ?_, ?_⟩
  · rw [e] at hc
    rcases List.mem_append.mp hc with hc | hc
    · rw [List.mem_singleton.mp hc]; decide
    · have := num_dig h c hc; omega
  · rw [e] at hc
    rcases List.mem_append.mp hc with hc | hc
    · cases List.mem_singleton.mp hc
    · have := num_dig h 32 hc; omega
  · rw [len_cat]
    have := numS_len h h1
    have : ("r" : Str).length = 1 := by decide +kernel
    omega
theorem arg_wok {a b n : Int} {c : Nat} (a0 : 0 ≤ a) (a1 : a < 4) (b0 : 0 ≤ b) (b1 : b < 4) (n0 : 0 ≤ n) (n1 : n < 256) : Wok (argP a b n c) := by
  unfold argP
  split
  · exact reg_wok a0 (by omega)
  · split
    · exact reg_wok b0 (by omega)
    · exact num_wok n0 (by omega)
def wokB (p : Str) : Bool := PyData.strOk p && !decide (32 ∈ p.cps.toList) && decide (p.length ≤ 100)
theorem wok_of {p : Str} (h : wokB p = true) : Wok p := by
  unfold wokB at h
  simp only [Bool.and_eq_true, Bool.not_eq_true', decide_eq_false_iff_not, decide_eq_true_eq] at h
  exact ⟨h.1.1, h.1.2, h.2⟩
theorem word_wok : Wok "WORD" := wok_of (by decide +kernel)
theorem nm_wok {op n : Int} {nm ff : Str} (h : shapeOf op n = some (nm, ff)) : Wok nm := by
  have h1 : ∀ z ∈ doing, wokB z = true := by decide +kernel
  have h2 : ∀ z ∈ opsN, wokB z.1 = true := by decide +kernel
  unfold shapeOf at h
  split at h
  · split at h
    · have e1 := (Prod.mk.inj (Option.some.inj h)).1
      rw [← e1, List.getD_eq_getElem?_getD]
      cases e : doing[n.toNat]? with
      | none => exact wok_of (by decide +kernel)
      | some x => exact wok_of (h1 x (List.mem_of_getElem? e))
    · cases h
  · obtain ⟨z, hz, e⟩ := Option.map_eq_some_iff.mp h
    cases e
    exact wok_of (h2 z (List.mem_of_find?_eq_some hz))
theorem line_wok {w : Int} (h : wordB w = true) : ∀ p ∈ lineP w, Wok p := by
  have wr := wordB_range h
  have F := flds wr
  intro p hp
  have two : p ∈ (["WORD", numS w] : List Str) → Wok p := fun hp => by
    simp only [List.mem_cons, List.not_mem_nil, or_false] at hp
    rcases hp with rfl | rfl
    · exact word_wok
    · exact num_wok wr.1 wr.2
  rw [lineP_eq] at hp
  cases e : shapeOf (fop w) (fn w) with
  | none =>
    rw [lineQ_none e] at hp
    exact two hp
  | some z =>
    rw [lineQ_some e] at hp
    split at hp
    · exact two hp
    · rcases List.mem_cons.mp hp with rfl | hp
      · exact nm_wok e
      · obtain ⟨c, _, rfl⟩ := List.mem_map.mp hp
        exact arg_wok F.a.1 F.a.2 F.b.1 F.b.2 F.n.1 F.n.2
theorem line_len {w : Int} : 2 ≤ (lineP w).length ∧ (lineP w).length ≤ 4 := by
  rw [lineP_eq]
  cases e : shapeOf (fop w) (fn w) with
  | none =>
    rw [lineQ_none e]
    exact ⟨Nat.le_refl 2, (by decide : 2 ≤ 4)⟩
  | some z =>
    rw [lineQ_some e]
    split
    · exact ⟨Nat.le_refl 2, (by decide : 2 ≤ 4)⟩
    · obtain ⟨_, h, _⟩ := shape_chars (nm := z.1) (ff := z.2) e
      have h1 : 1 ≤ z.2.cps.size := by
        have all : ∀ q ∈ opsN, 1 ≤ q.2.2.cps.size := by decide +kernel
        unfold shapeOf at e
        split at e
        · split at e
          · cases e
            show 1 ≤ ("ab" : Str).cps.size
            decide +kernel
          · cases e
        · obtain ⟨q, hq, e⟩ := Option.map_eq_some_iff.mp e
          cases e
          exact all q (List.mem_of_find?_eq_some hq)
      rw [List.length_cons, List.length_map, Array.length_toList]
      omega
/-- a line of such words -/
theorem okP_of {ps : List Str} (h : ∀ p ∈ ps, Wok p) (hne : ps ≠ []) (hl : ps.length ≤ 10) : OkP ps (Txt.join " " ps) where
  sp := TL.split_join (s := 32) (S := []) rfl (by decide +kernel) hne fun p hp => (h p hp).sp
  ne := hne
  ok := fun p hp => ⟨(h p hp).ok, Nat.le_trans (h p hp).l (by decide)⟩
  lx := by
    rw [TL.join_eq, TL.len_tl, TL.tl_join]
    have key : ∀ (l : List Str), (∀ p ∈ l, Wok p) → (TL.joinL (TL.tl " ") (l.map TL.tl)).length ≤ l.length * 101 := by
      intro l
      induction l with
      | nil => intro _; exact Nat.zero_le _
      | cons x r ih =>
        intro hx
        have := ih fun y hy => hx y (List.mem_cons_of_mem _ hy)
        have lx := (hx x List.mem_cons_self).l
        rw [TL.len_tl] at lx
        cases r with
        | nil =>
          show (TL.tl x).length ≤ 1 * 101
          omega
        | cons y r =>
          show (TL.tl x ++ (TL.tl " " ++ TL.joinL (TL.tl " ") ((y :: r).map TL.tl))).length ≤ _
          rw [List.length_append, List.length_append, List.length_cons (as := y :: r)]
          have : (TL.tl (" " : Str)).length = 1 := by decide +kernel
          omega
    exact Nat.le_trans (key ps h) (by omega)
  lp := Nat.le_trans hl (by decide)
theorem field_arg {a b n : Int} {c : Nat} (a0 : 0 ≤ a) (a1 : a < 4) (b0 : 0 ≤ b) (b1 : b < 4) (n0 : 0 ≤ n) (n1 : n < 256) (hc : c = 97 ∨ c = 98 ∨ c = 110) : fieldV c (argP a b n c) = some (if c = 97 then a else if c = 98 then b else n) := by
  have reg : ∀ x : Int, 0 ≤ x → x < 4 → regV ("r" ++ numS x) = some x := fun x h0 h1 => by
    have : x = 0 ∨ x = 1 ∨ x = 2 ∨ x = 3 := by omega
    rcases this with rfl | rfl | rfl | rfl <;> decide +kernel
  rcases hc with rfl | rfl | rfl
  · exact reg a a0 a1
  · exact reg b b0 b1
  · exact num_read n0 (by omega) n1
theorem readF_args {a b n : Int} (a0 : 0 ≤ a) (a1 : a < 4) (b0 : 0 ≤ b) (b1 : b < 4) (n0 : 0 ≤ n) (n1 : n < 256) : ∀ (cs : List Nat) (z : Int × Int × Int), (∀ c ∈ cs, c = 97 ∨ c = 98 ∨ c = 110) →
    readF cs (cs.map (argP a b n)) z = some (if 97 ∈ cs then a else z.1, if 98 ∈ cs then b else z.2.1, if 110 ∈ cs then n else z.2.2)
  | [], z, _ => by simp [readF]
  | c :: r, z, h => by
    have hc := h c List.mem_cons_self
    rw [List.map_cons, readF, field_arg a0 a1 b0 b1 n0 n1 hc]
    show readF r (r.map (argP a b n)) (stepF z c _) = _
    rw [readF_args a0 a1 b0 b1 n0 n1 r _ fun x hx => h x (List.mem_cons_of_mem _ hx)]
    rcases hc with rfl | rfl | rfl <;> simp [stepF] <;> (repeat' constructor) <;> (intros; simp_all)
theorem read_word2 {w : Int} (h0 : 0 ≤ w) (h1 : w ≤ 65535) : readT ["WORD", numS w] = some w := by
  unfold readT
  rw [if_pos ⟨rfl, rfl⟩, show (["WORD", numS w] : List Str).getD 1 "" = numS w from rfl, num_read h0 h1 (by omega)]
theorem read_head {nm : Str} {as : List Str} {h : Int × Str × Int} (e : headT nm = some h) : readT (nm :: as) = readB h (nm :: as) := by
  have : nm ≠ "WORD" := fun z => by rw [z, head_word] at e; cases e
  unfold readT
  rw [if_neg (fun z => this (Option.some.inj z.1))]
  show (headT nm).bind _ = _
  rw [e]
  rfl
theorem head_shape {op n : Int} {nm ff : Str} (n0 : 0 ≤ n) (h : shapeOf op n = some (nm, ff)) : ∃ m, headT nm = some (op, ff, m) ∧ (op = 2 → m = n) ∧ (op ≠ 2 → m = 0) ∧ (op = 2 → hasB ff 110 = false) := by
  unfold shapeOf at h
  split at h
  · rename_i e2
    split at h
    · rename_i hn
      have e1 := (Prod.mk.inj (Option.some.inj h)).1
      have e3 := (Prod.mk.inj (Option.some.inj h)).2
      subst e2 e1 e3
      have all : ∀ k, k < 9 → headT (doing.getD k "") = (some (2, "ab", ((k : Nat) : Int)) : Option (Int × Str × Int)) := by decide +kernel
      refine ⟨n, ?_, fun _ => rfl, fun z => absurd rfl z, fun _ => by decide +kernel⟩
      rw [all n.toNat (by omega), Int.toNat_of_nonneg n0]
    · cases h
  · rename_i e2
    obtain ⟨z, hz, e⟩ := Option.map_eq_some_iff.mp h
    cases e
    have all : ∀ q ∈ opsN, headT q.1 = some (q.2.1, q.2.2, 0) := by decide +kernel
    have hop : z.2.1 = op := by simpa using List.find?_some hz
    exact ⟨0, by rw [all z (List.mem_of_find?_eq_some hz), hop], fun y => absurd y e2, fun _ => rfl, fun y => absurd y e2⟩
theorem read_line {w : Int} (h : wordB w = true) : readT (lineP w) = some w := by
  have wr := wordB_range h
  have F := flds wr
  rw [lineP_eq]
  cases e : shapeOf (fop w) (fn w) with
  | none =>
    rw [lineQ_none e]
    exact read_word2 wr.1 wr.2
  | some z =>
    obtain ⟨nm, ff⟩ := z
    rw [lineQ_some e]
    obtain ⟨hch, hsz, _⟩ := shape_chars e
    obtain ⟨m, eh, m2, m3, m4⟩ := head_shape F.n.1 e
    split
    · exact read_word2 wr.1 wr.2
    · rename_i hi
      have hi := fun z => hi ((idle_iff F.a.1 F.b.1 F.n.1).mpr z)
      rw [read_head eh]
      unfold readB
      rw [if_neg (by rw [List.length_cons, List.length_map, Array.length_toList]; show ¬ (ff.cps.size + 1 ≠ 1 + ff.cps.size); omega)]
      show (readF ff.cps.toList (ff.cps.toList.map (argP _ _ _)) (0, 0, m)).map _ = _
      rw [readF_args F.a.1 F.a.2 F.b.1 F.b.2 F.n.1 F.n.2 _ _ hch]
      have b1 : ∀ c, hasB ff c = decide (c ∈ ff.cps.toList) := fun c => rfl
      simp only [b1, decide_eq_false_iff_not] at hi m4
      have ea : (if 97 ∈ ff.cps.toList then fa w else 0) = fa w := by
        split
        · rfl
        · rename_i q
          have := F.a.1
          by_cases z : 0 < fa w
          · exact absurd (.inl ⟨q, z⟩) hi
          · omega
      have eb : (if 98 ∈ ff.cps.toList then fb w else 0) = fb w := by
        split
        · rfl
        · rename_i q
          have := F.b.1
          by_cases z : 0 < fb w
          · exact absurd (.inr (.inl ⟨q, z⟩)) hi
          · omega
      have en : (if 110 ∈ ff.cps.toList then fn w else m) = fn w := by
        split
        · rfl
        · rename_i q
          by_cases o2 : fop w = 2
          · exact m2 o2
          · rw [m3 o2]
            have := F.n.1
            by_cases z : 0 < fn w
            · exact absurd (.inr (.inr ⟨q, z, o2⟩)) hi
            · omega
      show some (4096 * fop w + 1024 * (if 97 ∈ ff.cps.toList then fa w else 0) + 256 * (if 98 ∈ ff.cps.toList then fb w else 0) + (if 110 ∈ ff.cps.toList then fn w else m)) = some w
      rw [ea, eb, en]
      unfold fop fa fb fn
      congr 1
      omega
end Q39




set_option pp.maxSteps 1500
namespace Q39
open PySem L2 G M40
open C8 (Cal Met Mak pe_c pe_mk pe_mt pe_mt0 pe_gc pss_cut tCut)
/-! # the law -/
theorem joinL_mem {S : List Nat} {c : Nat} : ∀ {l : List (List Nat)}, c ∈ TL.joinL S l → c ∈ S ∨ ∃ p ∈ l, c ∈ p
  | [], h => by cases h
  | [p], h => .inr ⟨p, List.mem_singleton.mpr rfl, h⟩
  | p :: q :: r, h => by
    rcases List.mem_append.mp (show c ∈ p ++ (S ++ TL.joinL S (q :: r)) from h) with h | h
    · exact .inr ⟨p, List.mem_cons_self, h⟩
    · rcases List.mem_append.mp h with h | h
      · exact .inl h
      · rcases joinL_mem h with h | ⟨z, hz, hc⟩
        · exact .inl h
        · exact .inr ⟨z, List.mem_cons_of_mem _ hz, hc⟩
theorem ok_chars {x : Str} (h : PyData.strOk x = true) : ∀ c ∈ x.cps.toList, c < 0x110000 := by
  unfold PyData.strOk at h
  rw [← Array.all_toList, List.all_eq_true] at h
  intro c hc
  exact of_decide_eq_true (h c hc)
theorem join_ok {ps : List Str} (h : ∀ p ∈ ps, Wok p) : PyData.strOk (Txt.join " " ps) = true := by
  refine strOk_of fun c hc => ?_
  rw [TL.join_eq] at hc
  have hc : c ∈ TL.tl (Str.join " " ps) := hc
  rw [TL.tl_join] at hc
  rcases joinL_mem hc with hc | ⟨z, hz, hc⟩
  · have : ∀ c ∈ TL.tl (" " : Str), c < 0x110000 := by decide +kernel
    exact this c hc
  · obtain ⟨p, hp, rfl⟩ := List.mem_map.mp hz
    exact ok_chars (h p hp).ok c hc
theorem joinL_app {S : List Nat} {q : List Nat} : ∀ {l : List (List Nat)}, l ≠ [] → TL.joinL S (l ++ [q]) = TL.joinL S l ++ (S ++ q)
  | [], h => absurd rfl h
  | [p], _ => rfl
  | p :: q' :: r, _ => by
    have := joinL_app (S := S) (q := q) (l := q' :: r) (by simp)
    show p ++ (S ++ TL.joinL S ((q' :: r) ++ [q])) = p ++ (S ++ TL.joinL S (q' :: r)) ++ (S ++ q)
    rw [this, List.append_assoc, List.append_assoc]
theorem join_app {ps : List Str} {q : Str} (h : ps ≠ []) : Txt.join " " ps ++ (" " ++ q) = Txt.join " " (ps ++ [q]) := by
  refine TL.ext_tl ?_
  rw [TL.tl_append, TL.tl_append, TL.join_eq, TL.join_eq, TL.tl_join, TL.tl_join, List.map_append]
  exact (joinL_app (by simpa using h)).symm
def tails : List Str := ["", " ", " 5", " r0"]
theorem bent_ok {ps : List Str} (h : ∀ p ∈ ps, Wok p) (hne : ps ≠ []) (hl : ps.length ≤ 9) {t : Str} (ht : t ∈ tails) : ∃ qs, OkP qs (Txt.join " " ps ++ t) := by
  have one : ∀ q : Str, wokB q = true → ∃ qs, OkP qs (Txt.join " " ps ++ (" " ++ q)) := fun q hq => by
    rw [join_app hne]
    refine ⟨_, okP_of (fun p hp => ?_) (by simp) (by rw [List.length_append, List.length_singleton]; omega)⟩
    rcases List.mem_append.mp hp with hp | hp
    · exact h p hp
    · rw [List.mem_singleton.mp hp]
      exact wok_of hq
  simp only [tails, List.mem_cons, List.not_mem_nil, or_false] at ht
  rcases ht with rfl | rfl | rfl | rfl
  · refine ⟨ps, ?_⟩
    have e : Txt.join " " ps ++ "" = Txt.join " " ps := TL.ext_tl (by rw [TL.tl_append]; exact List.append_nil _)
    rw [e]
    exact okP_of h hne (by omega)
  · exact one "" (by decide +kernel)
  · exact one "5" (by decide +kernel)
  · exact one "r0" (by decide +kernel)
theorem bent_len {ps : List Str} (h : ∀ p ∈ ps, Wok p) (hne : ps ≠ []) (hl : ps.length ≤ 9) {t : Str} (ht : t ∈ tails) : (Txt.join " " ps).length + t.length ≤ sizeLine := by
  have := (okP_of h hne (by omega)).lx
  have all : ∀ q ∈ tails, q.length ≤ 3 := by decide +kernel
  have := all t ht
  exact Nat.le_trans (show _ ≤ 100010 by omega) (by decide)
theorem flds_in {w : Int} (h : wordB w = true) : inW (fop w) (fa w) (fb w) (fn w) = true := by
  have wr := wordB_range h
  have F := flds wr
  have o1 : fop w < 16 := by unfold fop; omega
  unfold inW
  rw [decide_eq_true F.op.1, decide_eq_true o1, decide_eq_true F.a.1, decide_eq_true F.a.2, decide_eq_true F.b.1, decide_eq_true F.b.2, decide_eq_true F.n.1, decide_eq_true F.n.2]
  rfl
theorem flds_word (w : Int) : 4096 * fop w + 1024 * fa w + 256 * fb w + fn w = w := by
  unfold fop fa fb fn
  omega
def bends : List Str := ["r4", "r1", "007", "256", "255", "", "R1", "set", "SET", "LESS", "WORD", "65536", "-1", "IN"]
theorem bends_ok {p : Str} (h : p ∈ bends) : Wok p := by
  have all : ∀ q ∈ bends, wokB q = true := by decide +kernel
  exact wok_of (all p h)
theorem at_strs {ls : List Str} {i : Int} (h0 : 0 ≤ i) (h1 : i < ls.length) : ∃ p ∈ ls, atI (ls.map V.str) i = some (.str p) := by
  obtain ⟨n, rfl⟩ := Int.eq_ofNat_of_zero_le h0
  have hn : n < ls.length := by omega
  refine ⟨ls[n], List.getElem_mem hn, atI_nat ?_⟩
  rw [List.getElem?_map, List.getElem?_eq_getElem hn]
  rfl
theorem lw_ok (o : Option Int) (n : Nat) : okD (n + 1) (lwD o) = true := by
  have e1 : PyData.strOk "line" = true := by decide +kernel
  cases o <;> simp [lwD, okD, okDs, e1]
/-- the words drawn -/
def WordP (dk D : Addr) (H1 : Hp) (i : Nat) (H : Hp) : Prop := ∃ rs : List Int, rs.length = i ∧ (∀ r ∈ rs, 0 ≤ r ∧ r ≤ 65535) ∧ But dk H1 H ∧ H D = some (.lst (rs.map V.int)) ∧ Deck H dk
theorem wordsB_of {ws : List Int} (h : ws.length ≤ 256) (hw : Wds ws) : wordsB ws = true := by
  unfold wordsB
  rw [decide_eq_true h, Bool.true_and, List.all_eq_true]
  exact fun x hx => wordB_ok (hw x hx)
theorem rep_ints (n : Nat) (x : Int) : (List.replicate n [V.int x]).flatten = (List.replicate n x).map V.int := by
  induction n with
  | zero => rfl
  | succ n ih => rw [List.replicate_succ, List.replicate_succ, List.flatten_cons, ih]; rfl
def outD : List Int → PyData
  | [] => .none
  | x :: _ => .int x
def finD (z : Str) : PyData := if z = "cut" then .none else .str z
/-- one turn, as the law's machine tells it -/
theorem once_run (ws bi : List Int) (s : Mc) : ∃ r : Row, (M40.run ws bi 1 s).tr = [r] ∧ (M40.run ws bi 1 s).out.length ≤ 1 ∧ onceD ws s bi = .tuple [stD (M40.run ws bi 1 s).st, outD (M40.run ws bi 1 s).out, finD (M40.run ws bi 1 s).fin, rowD r] := by
  have e := st_next (ws := ws) (bi := bi) (i := 0) (s := s) rfl
  refine ⟨rowAt ws bi s, ?_, ?_, ?_⟩
  · unfold M40.run rowAt
    cases q : endAt ws s with
    | some z => rfl
    | none => rfl
  · unfold M40.run
    cases q : endAt ws s with
    | some z => exact Nat.zero_le 1
    | none =>
      show ((nxt ws s bi).2.1.toList ++ []).length ≤ 1
      cases (nxt ws s bi).2.1 with
      | none => exact Nat.zero_le 1
      | some x => exact Nat.le_refl 1
  · have e : onceD ws s bi = .tuple [stD (M40.run ws bi 1 s).st, (match endAt ws s with | some _ => .none | none => optI (nxt ws s bi).2.1), (match endAt ws s with | some e => .str e | none => .none), rowD (rowAt ws bi s)] := e
    rw [e]
    have a : (match endAt ws s with | some _ => PyData.none | none => optI (nxt ws s bi).2.1) = outD (M40.run ws bi 1 s).out := by
      unfold M40.run
      cases q : endAt ws s with
      | some z => rfl
      | none =>
        show optI (nxt ws s bi).2.1 = outD ((nxt ws s bi).2.1.toList ++ [])
        cases (nxt ws s bi).2.1 <;> rfl
    have b : (match endAt ws s with | some e => PyData.str e | none => PyData.none) = finD (M40.run ws bi 1 s).fin := by
      unfold M40.run
      cases q : endAt ws s with
      | some z =>
        show PyData.str z = finD z
        unfold finD
        rw [if_neg (end_ok q).2]
      | none => exact (if_pos rfl).symm
    rw [a, b]
theorem okD_once {ws bi : List Int} {s : Mc} {o : List Int} {z : Str} {r : Row} (g : Good s) (hz : PyData.strOk z = true) : okD 4 (.tuple [stD s, outD o, finD z, rowD r]) = true := by
  have a := okD_st g 1
  have b := okD_row r 1
  have c : okD 3 (outD o) = true := by cases o <;> rfl
  have d : okD 3 (finD z) = true := by
    unfold finD
    split
    · rfl
    · simpa [okD] using hz
  simp [okD, okDs, a, b, c, d]
def ansD : List PyData := [pairD "code" "field", pairD "code" "field", pairD "code" "field", pairD "code" "field", pairD "code" "words", pairD "code" "words", pairD "state" "form", pairD "state" "form", pairD "code" "words", pairD "code" "words", pairD "state" "form"]
def outV : List Int → V
  | [] => .non
  | x :: _ => .int x
def finV (z : Str) : V := if z = "cut" then .non else .str z
theorem dp_outV {K : PySem.W.Frag} {H : Hp} (o : List Int) : Dp K H (outV o) (outD o) := by
  cases o with
  | nil => exact .non
  | cons x r => exact .int x
theorem dp_finV {K : PySem.W.Frag} {H : Hp} (z : Str) : Dp K H (finV z) (finD z) := by
  unfold finV finD
  split
  · exact .non
  · exact .str z
theorem if_out {K : PySem.W.Frag} {o : List Int} {i : Nat} {σ : L2.St} {H : Hp} {Q : VK} {b : Addr} (hi : σ[i]? = some (some (.ref b))) (hb : SqL K H b (o.map V.int)) (q : Q (outV o) H) :
    if decide ((0 : Int) < ((o.map V.int).length : Nat)) = true then tOp (rIxL K) (tVar i) (tC (V.int 0)) σ H Q else tC V.non σ H Q := by
  cases o with
  | nil => exact ifF rfl q
  | cons x r =>
    refine ifT (decide_eq_true (by rw [List.length_map, List.length_cons]; omega)) ⟨_, hi, b, _, 0, .int x, rfl, rfl, hb, atI_nat (j := 0) rfl, q⟩
theorem if_fin {z : Str} {i : Nat} {σ : L2.St} {H : Hp} {Q : VK} (hi : σ[i]? = some (some (.str z))) (q : Q (finV z) H) :
    if decide (V.str z = V.str "cut") = true then tC V.non σ H Q else tVar i σ H Q := by
  unfold finV at q
  by_cases h : z = "cut"
  · rw [if_pos h] at q
    exact ifT (decide_eq_true (by rw [h])) q
  · rw [if_neg h] at q
    exact ifF (decide_eq_false fun e => h (V.str.inj e)) ⟨_, hi, q⟩
section
variable {P : Program} {w : World} {K : PySem.W.Frag} {mg : Str → Option Value} {base : Heap}
def spLaw (K : PySem.W.Frag) : Sp := fun vs H Q _ => ∃ (a : Addr) (ns : List Int), vs = [.ref a] ∧ SqL K H a (ns.map V.int) ∧ ns.length ≤ 63 ∧ ∀ H', Q (.bl true) H'
structure Cals (P : Program) (w : World) (K : PySem.W.Frag) (mg : Str → Option Value) (base : Heap) (CS : Addr) : Prop where
  deck : Cal P w K mg base 1 "_law_deck" (spDeck K) []
  take : Cal P w K mg base 1 "_law_take" spTake []
  plain : ∀ n, Cal P w K mg base n "_law_plain" (spPlain K n) []
  machine : Cal P w K mg base 2 "_law_machine" (spMach K) []
  state : Cal P w K mg base 2 "_law_state" (spLState K) []
  word : Cal P w K mg base 2 "_law_drawn_word" spWord []
  line : Cal P w K mg base 1 "_law_line" spLine []
  told : Cal P w K mg base 7 "_law_told" (spTold K) []
  lw : Cal P w K mg base 1 "_law_line_word" (spLW K) []
  first : CalX P w K mg base 4 "first_state" (spFirstE K CS)
theorem ok_law {CS f : Addr} {fd : FuncData} (F : Fun K "law" "law" s_law f fd) (T : Txt K mg) (c : Cals P w K mg base CS) : FnOk P w K mg base CX0 10 f fd ["script"] (spLaw K) := by
  refine F.ok sc_law (fun vs H Q E h => ?_) (fun cdv A outer s H vs Q E hr h => ?_)
  · obtain ⟨a, ns, rfl, _⟩ := h
    rfl
  · obtain ⟨a, ns, rfl, ha, hn, k⟩ := h
    have hu65 := hu65_of hr
    have c__law_deck := c.deck
    have c__law_take := c.take
    have c__law_plain := c.plain 5
    have c__law_machine := c.machine
    have c__law_state := c.state
    have c__law_drawn_word := c.word
    have c__law_line := c.line
    have c__law_told := c.told
    have c__law_line_word := c.lw
    have c_first_state := c.first
    refine ⟨_, (pss_cons (ps_set (i := 1) sc_law.nd rfl (Or.inr rfl) (pe_c c__law_deck hr (by omega) rfl (pa_cons (pv 0) (pa_cons pe_int (pa_cons pe_int pa_nil)))))
      (pss_cut (ps_for PassesOwn.never rfl (pi_range1 (by rfl) T.b_range (pa_cons pe_int pa_nil)) (pg_name (i := 2) sc_law.nd rfl (Or.inl rfl)) (pss_cut (ps_set (i := 3) sc_law.nd rfl (Or.inl rfl) (pe_ix ix_list (pe_lst (pa_cons (pe_c c__law_drawn_word hr (by omega) rfl (pa_cons (pv 1) pa_nil)) (pa_cons (pe_c c__law_take hr (by omega) rfl (pa_cons (pv 1) (pa_cons pe_int pa_nil))) pa_nil))) (pe_c c__law_take hr (by omega) rfl (pa_cons (pv 1) (pa_cons pe_int pa_nil))) (fun _ _ => rfl)))
      (pss_cons (ps_set (i := 4) sc_law.nd rfl (Or.inl rfl) (pe_tup (pa_cons (pe_op op_fdiv (pv 3) pe_int) (pa_cons (pe_op op_sub (pe_op op_fdiv (pv 3) pe_int) (pe_op op_mul (pe_op op_fdiv (pv 3) pe_int) pe_int)) (pa_cons (pe_op op_sub (pe_op op_fdiv (pv 3) pe_int) (pe_op op_mul (pe_op op_fdiv (pv 3) pe_int) pe_int)) (pa_cons (pe_op op_sub (pv 3) (pe_op op_mul (pe_op op_fdiv (pv 3) pe_int) pe_int)) pa_nil))))))
      (pss_cut (ps_set (i := 5) sc_law.nd rfl (Or.inl rfl) (pe_c c__law_line hr (by omega) rfl (pa_cons (pv 3) pa_nil)))
      (pss_cut (ps_if (pt_cmpR (op_neD hr.units) (pe_c c__law_plain hr (by omega) rfl (pa_cons (pe_lst (pa_cons (pe_c c__law_told hr (by omega) rfl (pa_cons pe_int (pa_cons (pv 3) pa_nil))) (pa_cons (pe_c c__law_told hr (by omega) rfl (pa_cons pe_int (pa_cons (pv 4) pa_nil))) (pa_cons (pe_c c__law_told hr (by omega) rfl (pa_cons pe_int (pa_cons (pv 3) pa_nil))) pa_nil)))) pa_nil)) (pe_c c__law_plain hr (by omega) rfl (pa_cons (pe_lst (pa_cons (pv 4) (pa_cons (pv 3) (pa_cons (pv 5) pa_nil)))) pa_nil)) (nomark _)) (pss_one (ps_ret pe_bl)) pss_nil)
      (pss_cut (ps_if (pt_cmpR (op_neD hr.units) (pe_c c__law_plain hr (by omega) rfl (pa_cons (pe_lst (pa_cons (pe_c c__law_told hr (by omega) rfl (pa_cons pe_int (pa_cons (pv 5) pa_nil))) (pa_cons (pe_c c__law_told hr (by omega) rfl (pa_cons pe_int (pa_cons (pe_op op_add_str pe_str (pe_callTy call_str_int (by rfl) T.b_str boot_str' (pa_cons (pv 3) pa_nil))) pa_nil))) pa_nil))) pa_nil)) (pe_c c__law_plain hr (by omega) rfl (pa_cons (pe_lst (pa_cons (pv 3) (pa_cons (pv 3) pa_nil))) pa_nil)) (nomark _)) (pss_one (ps_ret pe_bl)) pss_nil)
      (pss_cut (ps_set (i := 6) sc_law.nd rfl (Or.inl rfl) (pe_bm PySem.F.plainAttrs_str PySem.F.slot_str_split PySem.F.type_str_split mt_split (pv 5) (pa_cons pe_str pa_nil)))
      (pss_cons (ps_set (i := 7) sc_law.nd rfl (Or.inl rfl) (pe_c c__law_take hr (by omega) rfl (pa_cons (pv 1) (pa_cons (pe_callB call_len_seq (by rfl) T.b_len boot_len' (pa_cons (pv 6) pa_nil)) pa_nil))))
      (pss_cut (ps_asg (pe_ix ix_list (pe_lst (pa_cons pe_str (pa_cons pe_str (pa_cons pe_str (pa_cons pe_str (pa_cons pe_str (pa_cons pe_str (pa_cons pe_str (pa_cons pe_str (pa_cons pe_str (pa_cons pe_str (pa_cons pe_str (pa_cons pe_str (pa_cons pe_str (pa_cons pe_str pa_nil))))))))))))))) (pe_c c__law_take hr (by omega) rfl (pa_cons (pv 1) (pa_cons pe_int pa_nil))) (fun _ _ => rfl)) (pg_sub (pv 6) (pv 7) set_list))
      (pss_cut (ps_set (i := 8) sc_law.nd rfl (Or.inl rfl) (pe_op op_add_str (pe_bm PySem.F.plainAttrs_str PySem.F.slot_str_join PySem.F.type_str_join mt_join pe_str (pa_cons (pe_slice sl_list (pv 6) po_none (po_some (pe_op op_sub (pe_callB call_len_seq (by rfl) T.b_len boot_len' (pa_cons (pv 6) pa_nil)) (pe_callTy call_int1 (by rfl) T.b_int boot_int' (pa_cons (pe_cmpR op_eq (pe_c c__law_take hr (by omega) rfl (pa_cons (pv 1) (pa_cons pe_int pa_nil))) pe_int (nomark _)) pa_nil))))) pa_nil)) (pe_ix ix_list (pe_lst (pa_cons pe_str (pa_cons pe_str (pa_cons pe_str (pa_cons pe_str pa_nil))))) (pe_c c__law_take hr (by omega) rfl (pa_cons (pv 1) (pa_cons pe_int pa_nil))) (fun _ _ => rfl))))
      (pss_one (ps_if (pt_cmpR (op_neD hr.units) (pe_c c__law_plain hr (by omega) rfl (pa_cons (pe_c c__law_told hr (by omega) rfl (pa_cons pe_int (pa_cons (pv 8) pa_nil))) pa_nil)) (pe_c c__law_plain hr (by omega) rfl (pa_cons (pe_c c__law_line_word hr (by omega) rfl (pa_cons (pv 8) pa_nil)) pa_nil)) (nomark _)) (pss_one (ps_ret pe_bl)) pss_nil))))))))))))
      (pss_cons (ps_set (i := 9) sc_law.nd rfl (Or.inl rfl) (pe_c c__law_state hr (by omega) rfl (pa_cons (pv 1) pa_nil)))
      (pss_cons (ps_setLc (i := 10) (own := [("turn", 2)]) rfl sc_law.nd rfl rfl (sw_true rfl rfl rfl (by decide +kernel)) (pi_range1 (by rfl) T.b_range (pa_cons pe_int pa_nil)) (blkOk_by (own := [("turn", 2)]) (N := ["script", "deck", "turn", "word", "fields", "line", "parts", "at", "bent", "state", "words", "coming", "out", "end", "there", "trace", "told", "begin", "answers", "due"]) (sc := defScope s_law) (by decide +kernel)) (fun _ _ _ _ _ => (pg_name (i := 2) sc_law.nd rfl (Or.inl rfl))) (fun _ _ _ _ _ => pts_nil) (fun _ _ _ _ _ => (pe_c c__law_drawn_word hr (by omega) rfl (pa_cons (pv 1) pa_nil))))
      (pss_cut (ps_setLc (i := 11) (own := [("turn", 2)]) rfl sc_law.nd rfl rfl (sw_true rfl rfl rfl (by decide +kernel)) (pi_range1 (by rfl) T.b_range (pa_cons (pe_c c__law_take hr (by omega) rfl (pa_cons (pv 1) (pa_cons pe_int pa_nil))) pa_nil)) (blkOk_by (own := [("turn", 2)]) (N := ["script", "deck", "turn", "word", "fields", "line", "parts", "at", "bent", "state", "words", "coming", "out", "end", "there", "trace", "told", "begin", "answers", "due"]) (sc := defScope s_law) (by decide +kernel)) (fun _ _ _ _ _ => (pg_name (i := 2) sc_law.nd rfl (Or.inl rfl))) (fun _ _ _ _ _ => pts_nil) (fun _ _ _ _ _ => (pe_c c__law_take hr (by omega) rfl (pa_cons (pv 1) (pa_cons pe_int pa_nil)))))
      (pss_cut (ps_asg (pe_c c__law_machine hr (by omega) rfl (pa_cons (pv 10) (pa_cons (pe_ix ix_tup (pv 9) pe_int (fun _ _ => rfl)) (pa_cons (pe_ix ix_tup (pv 9) pe_int (fun _ _ => rfl)) (pa_cons (pe_ix ix_tup (pv 9) pe_int (fun _ _ => rfl)) (pa_cons (pv 11) (pa_cons pe_int pa_nil))))))) (pg_tup rfl (pgs_cons (pg_name (i := 12) sc_law.nd rfl (Or.inl rfl)) (pgs_cons (pg_name (i := 13) sc_law.nd rfl (Or.inl rfl)) (pgs_cons (pg_name (i := 14) sc_law.nd rfl (Or.inl rfl)) (pgs_cons (pg_name (i := 15) sc_law.nd rfl (Or.inl rfl)) pgs_nil))))))
      (pss_cut (ps_set (i := 16) sc_law.nd rfl (Or.inl rfl) (pe_c c__law_told hr (by omega) rfl (pa_cons pe_int (pa_cons (pe_tup (pa_cons (pv 10) (pa_cons (pv 9) (pa_cons (pv 11) pa_nil)))) pa_nil))))
      (pss_cut (ps_if (pt_cmpR (op_neD hr.units) (pe_c c__law_plain hr (by omega) rfl (pa_cons (pv 16) pa_nil)) (pe_c c__law_plain hr (by omega) rfl (pa_cons (pe_tup (pa_cons (pv 14) (pa_cons (pe_ifExp (pt_cmpR op_gt (pe_callB call_len_seq (by rfl) T.b_len boot_len' (pa_cons (pv 12) pa_nil)) pe_int (nomark _)) (pe_ix ix_list (pv 12) pe_int (fun _ _ => rfl)) pe_non) (pa_cons (pe_ifExp (pt_cmpR op_eq (pv 13) pe_str (nomark _)) pe_non (pv 13)) (pa_cons (pe_ix ix_list (pv 15) pe_int (fun _ _ => rfl)) pa_nil))))) pa_nil)) (nomark _)) (pss_one (ps_ret pe_bl)) pss_nil)
      (pss_cut (ps_set (i := 17) sc_law.nd rfl (Or.inl rfl) (pe_cx c_first_state hr (by omega) rfl takes0 (pa_cons (pe_callTy call_list_of (by rfl) T.b_list boot_list' (pa_cons (pe_ix ix_tup (pv 9) pe_int (fun _ _ => rfl)) pa_nil)) pa_nil)))
      (pss_cut (ps_set (i := 18) sc_law.nd rfl (Or.inl rfl) (pe_lst (pa_cons (pe_c c__law_told hr (by omega) rfl (pa_cons pe_int (pa_cons (pe_tup (pa_cons pe_int (pa_cons pe_int (pa_cons pe_int (pa_cons pe_int pa_nil))))) pa_nil))) (pa_cons (pe_c c__law_told hr (by omega) rfl (pa_cons pe_int (pa_cons (pe_tup (pa_cons pe_int (pa_cons pe_int (pa_cons pe_int (pa_cons pe_int pa_nil))))) pa_nil))) (pa_cons (pe_c c__law_told hr (by omega) rfl (pa_cons pe_int (pa_cons (pe_tup (pa_cons pe_int (pa_cons pe_int (pa_cons (pe_un un_neg pe_int) (pa_cons pe_int pa_nil))))) pa_nil))) (pa_cons (pe_c c__law_told hr (by omega) rfl (pa_cons pe_int (pa_cons (pe_tup (pa_cons pe_int (pa_cons pe_int (pa_cons pe_int (pa_cons pe_int pa_nil))))) pa_nil))) pa_nil))))))
      (pss_cut (ps_set (i := 18) sc_law.nd rfl (Or.inl rfl) (pe_op op_cat (pv 18) (pe_lst (pa_cons (pe_c c__law_told hr (by omega) rfl (pa_cons pe_int (pa_cons pe_int pa_nil))) (pa_cons (pe_c c__law_told hr (by omega) rfl (pa_cons pe_int (pa_cons (pe_un un_neg pe_int) pa_nil))) (pa_cons (pe_c c__law_told hr (by omega) rfl (pa_cons pe_int (pa_cons (pe_op op_rep (pe_lst (pa_cons pe_int pa_nil)) pe_int) pa_nil))) (pa_cons (pe_c c__law_told hr (by omega) rfl (pa_cons pe_int (pa_cons (pe_op op_rep (pe_lst (pa_cons pe_int pa_nil)) pe_int) pa_nil))) pa_nil)))))))
      (pss_cut (ps_set (i := 18) sc_law.nd rfl (Or.inl rfl) (pe_op op_cat (pv 18) (pe_lst (pa_cons (pe_c c__law_told hr (by omega) rfl (pa_cons pe_int (pa_cons (pe_tup (pa_cons (pe_op op_rep (pe_lst (pa_cons pe_int pa_nil)) pe_int) (pa_cons (pv 9) (pa_cons (pe_lst pa_nil) pa_nil)))) pa_nil))) (pa_cons (pe_c c__law_told hr (by omega) rfl (pa_cons pe_int (pa_cons (pe_tup (pa_cons (pe_lst (pa_cons pe_int pa_nil)) (pa_cons (pv 9) (pa_cons (pe_lst pa_nil) pa_nil)))) pa_nil))) (pa_cons (pe_c c__law_told hr (by omega) rfl (pa_cons pe_int (pa_cons (pe_tup (pa_cons (pv 10) (pa_cons (pe_tup (pa_cons (pe_ix ix_tup (pv 9) pe_int (fun _ _ => rfl)) (pa_cons (pe_slice sl_tupA (pe_ix ix_tup (pv 9) pe_int (fun _ _ => rfl)) po_none (po_some pe_int)) (pa_cons pe_int pa_nil)))) (pa_cons (pe_lst pa_nil) pa_nil)))) pa_nil))) pa_nil))))))
      (pss_cut (ps_set (i := 19) sc_law.nd rfl (Or.inl rfl) (pe_op op_cat (pe_op op_cat (pe_op op_cat (pe_op op_cat (pe_op op_rep (pe_lst (pa_cons (pe_tup (pa_cons pe_str (pa_cons pe_str pa_nil))) pa_nil)) pe_int) (pe_op op_rep (pe_lst (pa_cons (pe_tup (pa_cons pe_str (pa_cons pe_str pa_nil))) pa_nil)) pe_int)) (pe_op op_rep (pe_lst (pa_cons (pe_tup (pa_cons pe_str (pa_cons pe_str pa_nil))) pa_nil)) pe_int)) (pe_op op_rep (pe_lst (pa_cons (pe_tup (pa_cons pe_str (pa_cons pe_str pa_nil))) pa_nil)) pe_int)) (pe_lst (pa_cons (pe_tup (pa_cons pe_str (pa_cons pe_str pa_nil))) pa_nil))))
      (pss_one (ps_ret (pe_and (pe_cmpR (op_eqD hr.units) (pv 18) (pv 19) (nomark _)) (pe_one (pe_cmpR (op_eqD hr.units) (pv 17) (pe_tup (pa_cons (pe_tup (pa_cons pe_int (pa_cons pe_int (pa_cons pe_int (pa_cons pe_int (pa_cons pe_int pa_nil)))))) (pa_cons (pe_ix ix_tup (pv 9) pe_int (fun _ _ => rfl)) (pa_cons pe_int pa_nil)))) (nomark _))))))))))))))))))), ?_⟩
    refine ⟨_, rfl, a, ns, 60, 14, rfl, ha, by omega, by decide, by decide, by decide, fun dk H1 nd s1 k1 => ?_⟩
    refine ⟨fun σ' H' => (∃ o2 o3 o4 o5 o6 o7 o8 : Option V, σ' = [some (.ref a), some (.ref dk), o2, o3, o4, o5, o6, o7, o8, none, none, none, none, none, none, none, none, none, none, none]) ∧ Deck H' dk, ?_, ?_⟩
    · refine ⟨_, rfl, by decide, by decide, for_range (lo := 0) (n := (8 : Int).toNat) (fun i σ' H' => (∃ o2 o3 o4 o5 o6 o7 o8 : Option V, σ' = [some (.ref a), some (.ref dk), o2, o3, o4, o5, o6, o7, o8, none, none, none, none, none, none, none, none, none, none, none]) ∧ Deck H' dk) ⟨⟨none, none, none, none, none, none, none, rfl⟩, k1⟩ ?_ fun σ' H' h => h⟩
      rintro i σ H2 hi ⟨⟨o2, o3, o4, o5, o6, o7, o8, rfl⟩, k2⟩
      refine ⟨fun σ' H' => ∃ w : Int, σ' = [some (.ref a), some (.ref dk), some (.int (0 + i)), some (.int w), o4, o5, o6, o7, o8, none, none, none, none, none, none, none, none, none, none, none] ∧ wordB w = true ∧ Deck H' dk, ?_, ?_⟩
      · refine ⟨_, rfl, dk, rfl, k2, fun r1 G1 a0 a1 b1 k3 => ?_⟩
        refine ⟨_, rfl, dk, 65536, rfl, by decide, k3, fun r2 G2 c0 c1 b2 k4 => ⟨(show 2 ≤ sizeLine by decide), fun pl npl => ?_⟩⟩
        have spl := same_new (o := HO.lst [V.int r1, V.int r2]) npl
        refine ⟨_, rfl, dk, 2, rfl, by decide, k4.same spl, fun r3 G3 d0 d1 b3 k5 => ?_⟩
        obtain ⟨w, hw, hg⟩ : ∃ w : Int, wordB w = true ∧ atI [V.int r1, V.int r2] r3 = some (.int w) := by
          have : r3 = 0 ∨ r3 = 1 := by omega
          rcases this with rfl | rfl
          · exact ⟨r1, wordB_ok ⟨a0, a1⟩, rfl⟩
          · exact ⟨r2, wordB_ok ⟨c0, by omega⟩, rfl⟩
        exact ⟨pl, [V.int r1, V.int r2], r3, .int w, rfl, rfl, SqL.of (b3 _ _ (Deck.ne k4 npl) upd_same), hg, w, rfl, hw, k5⟩
      rintro σ' H2' ⟨w, rfl, hw, k3⟩
      clear k2 o2 o3 H2
      refine ⟨_, rfl, _, _, rfl, rfl, ⟨by decide, by decide⟩, _, rfl, _, _, rfl, rfl, ⟨by decide, by decide⟩, _, rfl, _, _, rfl, rfl, ⟨by decide, by decide⟩, _, _, rfl, rfl, .inr (by decide), _, _, rfl, rfl, _, rfl, _, _, rfl, rfl, ⟨by decide, by decide⟩, _, rfl, _, _, rfl, rfl, ⟨by decide, by decide⟩, _, _, rfl, rfl, .inr (by decide), _, _, rfl, rfl, _, rfl, _, rfl, _, _, rfl, rfl, ⟨by decide, by decide⟩, _, _, rfl, rfl, .inr (by decide), _, _, rfl, rfl, (show 4 ≤ sizeLine by decide), fun t n1 => ?_⟩
      refine ⟨fun σ' H' => σ' = [some (.ref a), some (.ref dk), some (.int (0 + i)), some (.int w), some (.ref t), some (.str (lineT w)), o6, o7, o8, none, none, none, none, none, none, none, none, none, none, none] ∧ H' t = some (.tup [.int (fop w), .int (fa w), .int (fb w), .int (fn w)]) ∧ Deck H' dk, ?_, ?_⟩
      · refine ⟨_, rfl, w, rfl, hw, fun H3 s3 => ⟨rfl, ?_, (k3.same (same_new n1)).same s3⟩⟩
        have e1 : w / 1024 - w / 4096 * 4 = fa w := by unfold fa; omega
        have e2 : w / 256 - w / 1024 * 4 = fb w := by unfold fb; omega
        have e3 : w - w / 256 * 256 = fn w := by unfold fn; omega
        rw [← e1, ← e2, ← e3]
        exact s3 _ _ upd_same
      rintro σ' H3 ⟨rfl, ht, k4⟩
      clear k3 o4 o5 n1 H2'
      have wr := wordB_range hw
      have wk := line_wok hw
      have ll := line_len (w := w)
      have lne : lineP w ≠ [] := fun z => by rw [z] at ll; exact absurd ll.1 (by decide)
      have okl : OkP (lineP w) (lineT w) := okP_of wk lne (by omega)
      have sl : PyData.strOk (lineT w) = true := join_ok wk
      refine ⟨fun σ' H' => σ' = [some (.ref a), some (.ref dk), some (.int (0 + i)), some (.int w), some (.ref t), some (.str (lineT w)), o6, o7, o8, none, none, none, none, none, none, none, none, none, none, none] ∧ Deck H' dk, ?_, ?_⟩
      · have okW : okD 4 (.list [.tuple (intsD [fop w, fa w, fb w, fn w]), .int w, .str (lineT w)]) = true := by simp [okD, okDs, intsD, sl]
        refine ⟨_, rfl, 1, .int w, rfl, .inr (.inl ⟨rfl, w, rfl, fun z1 G1 y1 d1 => ?_⟩)⟩
        refine ⟨_, rfl, 0, .ref t, rfl, .inl ⟨rfl, fop w, fa w, fb w, fn w, .tup (SqT.of (y1 _ _ ht)) (dps_ints [fop w, fa w, fb w, fn w]), fun z2 G2 y2 d2 => ?_⟩⟩
        refine ⟨_, rfl, 2, .int w, rfl, .inr (.inr (.inl ⟨rfl, w, rfl, fun z3 G3 y3 d3 => ?_⟩))⟩
        rw [if_pos hw] at d1 d3
        rw [if_pos (flds_in hw), flds_word] at d2
        refine ⟨(show 3 ≤ sizeLine by decide), fun p np => ?_⟩
        have y4 := same_new (o := HO.lst [z1, z2, z3]) np
        refine ⟨.ref p, _, rfl, .lst (SqL.of upd_same) (.cons (dp_same ((y2.trans y3).trans y4) d1) (.cons (dp_same (y3.trans y4) d2) (.cons (dp_same y4 d3) .nil))), (ok_plainD okW).2.2, fun u1 G4 y5 e1 => ?_⟩
        have S := (((y1.trans y2).trans y3).trans y4).trans y5
        refine ⟨_, rfl, _, rfl, _, rfl, (show 3 ≤ sizeLine by decide), fun p2 np2 => ?_⟩
        have y6 := same_new (o := HO.lst [V.ref t, V.int w, V.str (lineT w)]) np2
        refine ⟨.ref p2, .list [.tuple (intsD [fop w, fa w, fb w, fn w]), .int w, .str (lineT w)], rfl, .lst (SqL.of upd_same) (.cons (.tup (SqT.of ((S.trans y6) _ _ ht)) (dps_ints [fop w, fa w, fb w, fn w])) (.cons (.int _) (.cons (.str _) .nil))), (ok_plainD okW).2.2, fun u2 G5 y7 e2 => ?_⟩
        refine ⟨_, _, dp_same (y6.trans y7) e1, e2, okp_shaped okW (by decide), okp_shaped okW (by decide), _, rfl, ifF (by rw [okp_eqv okW]; rfl) ?_⟩
        exact ⟨rfl, ((k4.same S).same y6).same y7⟩
      rintro σ' H4 ⟨rfl, k5⟩
      clear k4 ht H3
      refine ⟨fun σ' H' => σ' = [some (.ref a), some (.ref dk), some (.int (0 + i)), some (.int w), some (.ref t), some (.str (lineT w)), o6, o7, o8, none, none, none, none, none, none, none, none, none, none, none] ∧ Deck H' dk, ?_, ?_⟩
      · have okW : okD 4 (.list [.int w, .int w]) = true := by simp [okD, okDs]
        have lw := log_small wr.1 wr.2
        have wlen : ("WORD " : Str).length + (numS w).length ≤ sizeLine := by
          have := numS_len wr.1 wr.2
          have h5 : ("WORD " : Str).length = 5 := by decide +kernel
          exact Nat.le_trans (by omega) (show 10 ≤ sizeLine by decide)
        have okw : OkP ["WORD", numS w] ("WORD " ++ numS w) := by
          rw [word_text2]
          refine okP_of (fun p hp => ?_) (by simp) (show 2 ≤ 10 by decide)
          simp only [List.mem_cons, List.not_mem_nil, or_false] at hp
          rcases hp with rfl | rfl
          · exact word_wok
          · exact num_wok wr.1 wr.2
        refine ⟨_, rfl, 3, .str (lineT w), rfl, .inr (.inr (.inr (.inl ⟨rfl, _, _, rfl, okl, fun z1 G1 y1 d1 => ?_⟩)))⟩
        rw [read_line hw] at d1
        refine ⟨_, rfl, _, rfl, lw, _, _, rfl, rfl, wlen, 3, _, rfl, .inr (.inr (.inr (.inl ⟨rfl, _, _, rfl, okw, fun z2 G2 y2 d2 => ?_⟩)))⟩
        rw [read_word2 wr.1 wr.2] at d2
        refine ⟨(show 2 ≤ sizeLine by decide), fun p np => ?_⟩
        have y4 := same_new (o := HO.lst [z1, z2]) np
        refine ⟨.ref p, .list [.int w, .int w], rfl, .lst (SqL.of upd_same) (.cons (dp_same (y2.trans y4) d1) (.cons (dp_same y4 d2) .nil)), (ok_plainD okW).2.2, fun u1 G4 y5 e1 => ?_⟩
        refine ⟨_, rfl, _, rfl, (show 2 ≤ sizeLine by decide), fun p2 np2 => ?_⟩
        have y6 := same_new (o := HO.lst [V.int w, V.int w]) np2
        refine ⟨.ref p2, .list [.int w, .int w], rfl, .lst (SqL.of upd_same) (.cons (.int _) (.cons (.int _) .nil)), (ok_plainD okW).2.2, fun u2 G5 y7 e2 => ?_⟩
        refine ⟨_, _, dp_same (y6.trans y7) e1, e2, okp_shaped okW (by decide), okp_shaped okW (by decide), _, rfl, ifF (by rw [okp_eqv okW]; rfl) ?_⟩
        exact ⟨rfl, (((((k5.same y1).same y2).same y4).same y5).same y6).same y7⟩
      rintro σ' H5 ⟨rfl, k6⟩
      clear k5 H4
      refine ⟨fun σ' H' => ∃ pa : Addr, σ' = [some (.ref a), some (.ref dk), some (.int (0 + i)), some (.int w), some (.ref t), some (.str (lineT w)), some (.ref pa), o7, o8, none, none, none, none, none, none, none, none, none, none, none] ∧ H' pa = some (.lst ((lineP w).map V.str)) ∧ Deck H' dk ∧ pa ≠ dk, ?_, ?_⟩
      · refine ⟨_, rfl, rfl, lineT w, " ", rfl, rfl, by decide +kernel, Nat.le_trans (show (lineT w).length + 2 ≤ 100002 by have := okl.lx; omega) (by decide), fun pw npw => ?_⟩
        rw [okl.sp]
        exact ⟨pw, rfl, upd_same, k6.same (same_new npw), Deck.ne k6 npw⟩
      rintro σ' H6 ⟨pa, rfl, hpa, k7, nk⟩
      clear k6 H5 o6
      refine ⟨_, rfl, _, rfl, pa, _, rfl, .inl (SqL.of hpa), dk, _, rfl, by rw [List.length_map]; omega, k7, fun at_ H7 g0 g1 b7 k8 => ?_⟩
      have hpa := b7 _ _ nk hpa
      rw [List.length_map] at g1
      obtain ⟨n, rfl⟩ := Int.eq_ofNat_of_zero_le g0
      have gn : n < (lineP w).length := by omega
      refine ⟨fun σ' H' => ∃ ps : List Str, σ' = [some (.ref a), some (.ref dk), some (.int (0 + i)), some (.int w), some (.ref t), some (.str (lineT w)), some (.ref pa), some (.int n), o8, none, none, none, none, none, none, none, none, none, none, none] ∧ H' pa = some (.lst (ps.map V.str)) ∧ Deck H' dk ∧ (∀ p ∈ ps, Wok p) ∧ ps.length = (lineP w).length, ?_, ?_⟩
      · refine ⟨(show 14 ≤ sizeLine by decide), fun pl npl => ?_⟩
        have spl := same_new (o := HO.lst (bends.map V.str)) npl
        refine ⟨_, rfl, dk, 14, rfl, by decide, k8.same spl, fun r G d0 d1 b k9 => ?_⟩
        obtain ⟨p, hp, hg⟩ := at_strs (ls := bends) d0 (by show r < ((14 : Nat) : Int); omega)
        refine ⟨pl, bends.map V.str, r, .str p, rfl, rfl, SqL.of (b _ _ (Deck.ne k8 npl) upd_same), hg, ?_⟩
        have hpa := b _ _ nk (spl _ _ hpa)
        refine ⟨_, rfl, _, rfl, pa, _, n, n, rfl, rfl, hpa, ixN_at (by rw [List.length_map]; exact gn), (lineP w).set n p, rfl, ?_, ?_, ?_, ?_⟩
        · rw [upd_same, List.map_set]
        · obtain ⟨ds, x1, x2⟩ := k9
          exact ⟨ds, x1, by rw [upd_ne (Ne.symm nk)]; exact x2⟩
        · intro q hq
          rcases List.mem_or_eq_of_mem_set hq with hq | rfl
          · exact wk q hq
          · exact bends_ok hp
        · rw [List.length_set]
      rintro σ' H8 ⟨ps, rfl, hps, k9, wps, lps⟩
      clear k7 k8 b7 o7
      refine ⟨fun σ' H' => ∃ (x : Str) (qs : List Str), σ' = [some (.ref a), some (.ref dk), some (.int (0 + i)), some (.int w), some (.ref t), some (.str (lineT w)), some (.ref pa), some (.int n), some (.str x), none, none, none, none, none, none, none, none, none, none, none] ∧ Deck H' dk ∧ OkP qs x, ?_, ?_⟩
      · refine ⟨rfl, _, rfl, ?_⟩
        refine ⟨_, rfl, pa, _, rfl, .inl (SqL.of hps), _, rfl, dk, 6, rfl, by decide, k9, fun r G d0 d1 b kA => ?_⟩
        have hps := b _ _ nk hps
        refine ⟨rfl, .inr ⟨_, rfl, _, _, rfl, rfl, _, rfl, pa, _, rfl, SqL.of hps, fun pw npw => ?_⟩⟩
        obtain ⟨m, em, m1, m2⟩ : ∃ m : Nat, (((ps.map V.str).length : Nat) : Int) - (if decide (V.int r = V.int 0) = true then 1 else 0) = (m : Int) ∧ 1 ≤ m ∧ m ≤ ps.length := by
          rw [List.length_map]
          cases decide (V.int r = V.int 0) with
          | true => exact ⟨ps.length - 1, by rw [if_pos rfl]; omega, by omega, by omega⟩
          | false => exact ⟨ps.length, by rw [if_neg (by decide)]; omega, by omega, by omega⟩
        rw [em, cut_to (by rw [List.length_map]; exact m2), ← List.map_take]
        have ypw := same_new (o := HO.lst ((ps.take m).map V.str)) npw
        have wpt : ∀ p ∈ ps.take m, Wok p := fun p hp => wps p (List.mem_of_mem_take hp)
        have lpt : (ps.take m).length = m := by rw [List.length_take, Nat.min_eq_left m2]
        have nept : ps.take m ≠ [] := fun z => by rw [z] at lpt; exact absurd lpt (by show ¬ 0 = m; omega)
        have sumb : ∀ l : List Str, (∀ p ∈ l, Wok p) → (l.map fun z => z.length).sum ≤ l.length * 100 := by
          intro l
          induction l with
          | nil => intro _; exact Nat.le_refl 0
          | cons x r ih =>
            intro h
            have h1 := ih fun y hy => h y (List.mem_cons_of_mem _ hy)
            have h2 := (h x List.mem_cons_self).l
            rw [List.map_cons, List.sum_cons, List.length_cons]
            omega
        have l1 : (" " : Str).length = 1 := by decide +kernel
        refine ⟨" ", pw, ps.take m, rfl, rfl, .inl (SqL.of upd_same), by have := sumb _ wpt; rw [l1]; omega, ?_⟩
        refine ⟨(show 4 ≤ sizeLine by decide), fun pl npl => ?_⟩
        have ypl := same_new (o := HO.lst (tails.map V.str)) npl
        refine ⟨_, rfl, dk, 4, rfl, by decide, (kA.same ypw).same ypl, fun r2 G2 e0 e1 b2 kB => ?_⟩
        obtain ⟨t2, ht2, hg⟩ := at_strs (ls := tails) e0 (by show r2 < ((4 : Nat) : Int); omega)
        refine ⟨pl, tails.map V.str, r2, .str t2, rfl, rfl, SqL.of (b2 _ _ (Deck.ne (kA.same ypw) npl) upd_same), hg, _, _, rfl, rfl, bent_len wpt nept (by omega) ht2, ?_⟩
        obtain ⟨qs, hq⟩ := bent_ok wpt nept (by omega) ht2
        exact ⟨_, qs, rfl, kB, hq⟩
      rintro σ' H9 ⟨x, qs, rfl, kA, okq⟩
      refine ⟨_, rfl, 3, .str x, rfl, .inr (.inr (.inr (.inl ⟨rfl, _, _, rfl, okq, fun z1 G1 y1 d1 => ?_⟩)))⟩
      have okW : okD 4 (lwD (readT qs)) = true := lw_ok _ 3
      refine ⟨z1, _, rfl, d1, (ok_plainD okW).2.2, fun u1 G2 y2 e1 => ?_⟩
      refine ⟨_, rfl, x, qs, rfl, okq, fun z2 G3 y3 d2 => ⟨z2, _, rfl, d2, (ok_plainD okW).2.2, fun u2 G4 y4 e2 => ?_⟩⟩
      refine ⟨_, _, dp_same (y3.trans y4) e1, e2, okp_shaped okW (by decide), okp_shaped okW (by decide), _, rfl, ifF (by rw [okp_eqv okW]; rfl) ?_⟩
      exact ⟨⟨_, _, _, _, _, _, _, rfl⟩, (((kA.same y1).same y2).same y3).same y4⟩
    rintro σ' H2 ⟨⟨o2, o3, o4, o5, o6, o7, o8, rfl⟩, k2⟩
    clear nd s1 k1 ha H1
    -- state
    refine ⟨_, rfl, dk, rfl, k2, fun v1 st H3 hg b3 k3 d3 => ?_⟩
    obtain ⟨sa, _, _, rfl, _⟩ := st_dp d3
    -- words
    refine ⟨_, rfl, by decide, by decide, fun D hD => ?_⟩
    refine lc_range (lo := 0) (n := (12 : Int).toNat) (WordP dk D H3) ⟨[], rfl, (fun _ h => by cases h), But.of (same_new hD), upd_same, k3.same (same_new hD)⟩ (fun j G hj p => ?_) ?_
    · obtain ⟨rs, hl, hrr, b, hd, kG⟩ := p
      have ne := Deck.ne k3 hD
      refine ⟨rfl, _, rfl, dk, rfl, kG, fun r H' r0 r1 b2 k2 => ⟨_, b2 _ _ ne hd, size_lt (by rw [List.length_map]; omega), rs ++ [r], by rw [List.length_append, hl]; rfl, fun x hx => ?_, but_mut (b.trans b2) hD, by rw [upd_same, List.map_append]; rfl, ?_⟩⟩
      · rcases List.mem_append.mp hx with hx | hx
        · exact hrr x hx
        · rw [List.mem_singleton.mp hx]
          exact ⟨r0, r1⟩
      · obtain ⟨ds, h1, h2⟩ := k2
        exact ⟨ds, h1, by rw [upd_ne (Ne.symm ne)]; exact h2⟩
    rintro H4 ⟨ws, wl, wd, b4, hw4, k4⟩
    have nDk : D ≠ dk := Deck.ne k3 hD
    -- coming
    refine ⟨fun σ' H' => ∃ (D3 : Addr) (bi : List Int), σ' = [some (.ref a), some (.ref dk), o2, o3, o4, o5, o6, o7, o8, some (.ref sa), some (.ref D), some (.ref D3), none, none, none, none, none, none, none, none] ∧ bi.length ≤ 4 ∧ Bytes bi ∧ H' D = some (.lst (ws.map V.int)) ∧ H' D3 = some (.lst (bi.map V.int)) ∧ Dp K H' (.ref sa) (stD st), ?_, ?_⟩
    · refine ⟨_, rfl, dk, 4, rfl, by decide, k4, fun r7 H7 c0 c1 b7 k7 => ⟨_, rfl, by omega, by omega, fun D3 hD3 => ?_⟩⟩
      refine lc_range (lo := 0) (n := r7.toNat) (DrawP dk D3 H7 256) (draw0 hD3 k7) (fun j G hj p => ⟨rfl, _, rfl, draw_next (E := C8.E0) hD3 k7 (by decide) (by omega) p⟩) ?_
      rintro H8 ⟨bi, bl, br, b8, hD8, k8⟩
      exact ⟨D3, bi, rfl, by omega, fun x hx => br x hx, b8 _ _ nDk (b7 _ _ nDk hw4), hD8, dp_keep (KeepT.of_but k3 ((b4.trans b7).trans b8)) (noL_st _) d3⟩
    rintro σ' H5 ⟨D3, bi, rfl, bl, hbb, hD, hC, dv⟩
    have hwd : Wds ws := fun x hx => wd x hx
    have wlen : ws.length = 12 := wl
    clear wd wl k4 b4 hw4 k3 b3 d3 k2 H4 
    obtain ⟨sa', ar, ad, e, hsa, har, had⟩ := st_dp dv
    cases e
    -- the machine
    have okw : wordsB ws = true := wordsB_of (by omega) hwd
    refine ⟨fun σ' H' => ∃ (tu bo bt : Addr) (vb : V) (xb : List V), σ' = [some (.ref a), some (.ref dk), o2, o3, o4, o5, o6, o7, o8, some (.ref sa), some (.ref D), some (.ref D3), some (.ref bo), some (.str (M40.run ws bi 1 st).fin), some vb, some (.ref bt), none, none, none, none] ∧ Same H5 H' ∧ RunA K H' tu bo bt vb xb (M40.run ws bi 1 st), ?_, ?_⟩
    · refine ⟨_, rfl, _, rfl, sa, _, 0, _, rfl, rfl, hsa, rfl, _, rfl, sa, _, 1, _, rfl, rfl, hsa, rfl, _, rfl, sa, _, 2, _, rfl, rfl, hsa, rfl, _, rfl, ?_⟩
      refine ⟨.ref D, .ref ar, .ref ad, .ref D3, ws, bi, st, 1, rfl, .lst (SqL.of hD) (dps_ints _), dp_ints har, dp_ints had, .lst (SqL.of hC) (dps_ints _), by omega, hwd, hg, hbb, by omega, KRun.of fun tu bo bt vb xb H6 s6 _ _ _ RA => ?_⟩
      exact ⟨tu, _, rfl, RA.u, rfl, _, _, rfl, _, _, rfl, _, _, rfl, _, _, rfl, rfl, tu, bo, bt, vb, xb, rfl, s6, RA⟩
    rintro σ' H6 ⟨tu, bo, bt, vb, xb, rfl, s6, RA⟩
    obtain ⟨row, etr, lout, eon⟩ := once_run ws bi st
    have gR : Good (M40.run ws bi 1 st).st := run_good hwd hbb 1 hg
    have finR := fin_ok (ws := ws) (bi := bi) 1 st
    generalize M40.run ws bi 1 st = R at RA etr lout eon gR finR ⊢
    have okR : okD 4 (onceD ws st bi) = true := by rw [eon]; exact okD_once (ws := ws) (bi := bi) gR finR
    -- told
    refine ⟨fun σ' H' => ∃ z : V, σ' = [some (.ref a), some (.ref dk), o2, o3, o4, o5, o6, o7, o8, some (.ref sa), some (.ref D), some (.ref D3), some (.ref bo), some (.str R.fin), some vb, some (.ref bt), some z, none, none, none] ∧ Same H6 H' ∧ Dp K H' z (onceD ws st bi), ?_, ?_⟩
    · refine ⟨_, rfl, _, rfl, _, rfl, (show 3 ≤ sizeLine by decide), fun tt ntt => ?_⟩
      have y1 := same_new (o := HO.tup [V.ref D, V.ref sa, V.ref D3]) ntt
      have S := s6.trans y1
      refine ⟨5, .ref tt, rfl, .inr (.inr (.inr (.inr (.inr ⟨rfl, tt, .ref D, .ref sa, .ref D3, ws, rfl, SqT.of upd_same, ⟨D, rfl, .inl (SqL.of (S _ _ hD))⟩, by omega, .inr (.inr ⟨okw, st, bi, dp_same S dv, hg, .lst (SqL.of (S _ _ hC)) (dps_ints _), fun z G y d => ?_⟩)⟩))))⟩
      exact ⟨z, rfl, y1.trans y, d⟩
    rintro σ' H7 ⟨z, rfl, s7, dz⟩
    have RA := RA.same s7
    have S7 := s6.trans s7
    refine ⟨fun σ' H' => σ' = [some (.ref a), some (.ref dk), o2, o3, o4, o5, o6, o7, o8, some (.ref sa), some (.ref D), some (.ref D3), some (.ref bo), some (.str R.fin), some vb, some (.ref bt), some z, none, none, none] ∧ Same H7 H', ?_, ?_⟩
    · refine ⟨_, rfl, z, _, rfl, dz, (ok_plainD okR).2.2, fun u1 G1 y1 e1 => ?_⟩
      have RA := RA.same y1
      refine ⟨_, rfl, _, rfl, bo, _, rfl, .inl (SqL.of RA.o), _, _, rfl, rfl, _, rfl, ?_⟩
      refine if_out (K := K) rfl (SqL.of RA.o) ?_
      refine ⟨_, rfl, rfl, _, rfl, if_fin rfl ?_⟩
      obtain ⟨xr, exr, dxr⟩ : ∃ xr, xb = [xr] ∧ Dp K G1 xr (rowD row) := by
        have x := RA.x
        rw [etr] at x
        cases x with
        | cons h1 h2 =>
          cases h2
          exact ⟨_, rfl, h1⟩
      subst exr
      refine ⟨_, rfl, bt, _, 0, xr, rfl, rfl, SqL.of RA.t, atI_nat (j := 0) rfl, (show 4 ≤ sizeLine by decide), fun tp ntp => ?_⟩
      have y2 := same_new (o := HO.tup [vb, outV R.out, finV R.fin, xr]) ntp
      refine ⟨.ref tp, onceD ws st bi, rfl, ?_, (ok_plainD okR).2.2, fun u2 G2 y3 e2 => ?_⟩
      · rw [eon]
        exact .tup (SqT.of upd_same) (.cons (dp_same y2 RA.s) (.cons (dp_outV _) (.cons (dp_finV _) (.cons (dp_same y2 dxr) .nil))))
      refine ⟨_, _, dp_same (y2.trans y3) e1, e2, okp_shaped okR (by decide), okp_shaped okR (by decide), _, rfl, ifF (by rw [okp_eqv okR]; rfl) ?_⟩
      exact ⟨rfl, (y1.trans y2).trans y3⟩
    rintro σ' H8 ⟨rfl, s8⟩
    have S8 := S7.trans s8
    clear RA dz s7 s8 S7 s6
    -- begin
    have gd := hg.ld
    have db : dataB st.d = true := by
      unfold dataB
      rw [decide_eq_true gd, Bool.true_and, List.all_eq_true]
      intro x hx
      have := hg.bd x hx
      rw [decide_eq_true this.1, decide_eq_true this.2]
      rfl
    refine ⟨fun σ' H' => ∃ z9 : V, σ' = [some (.ref a), some (.ref dk), o2, o3, o4, o5, o6, o7, o8, some (.ref sa), some (.ref D), some (.ref D3), some (.ref bo), some (.str R.fin), some vb, some (.ref bt), some z, some z9, none, none] ∧ Same H5 H' ∧ Dp K H' z9 (stD ⟨[0, 0, 0, 0, 0], st.d, 0⟩), ?_, ?_⟩
    · refine ⟨_, rfl, sa, _, 1, _, rfl, rfl, Same.tup S8 hsa, rfl, ad, _, rfl, .inr (Same.tup S8 had), fun p np => ?_⟩
      have y1 := same_new (o := HO.lst (st.d.map V.int)) np
      refine ⟨.ref p, st.d, rfl, ⟨p, rfl, .inl (SqL.of upd_same)⟩, by rw [gd]; decide, fun _ u G y d => ⟨u, rfl, (S8.trans y1).trans y, d⟩, fun e => absurd db (by rw [e]; decide)⟩
    rintro σ' H9 ⟨z9, rfl, S9, d9⟩
    clear S8
    -- answers
    refine ⟨fun σ' H' => ∃ (la : Addr) (xa : List V), σ' = [some (.ref a), some (.ref dk), o2, o3, o4, o5, o6, o7, o8, some (.ref sa), some (.ref D), some (.ref D3), some (.ref bo), some (.str R.fin), some vb, some (.ref bt), some z, some z9, some (.ref la), none] ∧ Same H9 H' ∧ H' la = some (.lst xa) ∧ DpAll K H' xa (List.replicate 4 (pairD "code" "field")), ?_, ?_⟩
    · refine ⟨(show 4 ≤ sizeLine by decide), fun t1 n1 => ⟨0, .ref t1, rfl, .inl ⟨rfl, 16, 0, 0, 0, .tup (SqT.of upd_same) (dps_ints [16, 0, 0, 0]), fun z1 G1 y1 d1 => ?_⟩⟩⟩
      rw [if_neg (by decide)] at d1
      refine ⟨(show 4 ≤ sizeLine by decide), fun t2 n2 => ⟨0, .ref t2, rfl, .inl ⟨rfl, 1, 4, 0, 0, .tup (SqT.of upd_same) (dps_ints [1, 4, 0, 0]), fun z2 G2 y2 d2 => ?_⟩⟩⟩
      rw [if_neg (by decide)] at d2
      refine ⟨_, rfl, (show 4 ≤ sizeLine by decide), fun t3 n3 => ⟨0, .ref t3, rfl, .inl ⟨rfl, 1, 0, -1, 0, .tup (SqT.of upd_same) (dps_ints [1, 0, -1, 0]), fun z3 G3 y3 d3 => ?_⟩⟩⟩
      rw [if_neg (by decide)] at d3
      refine ⟨(show 4 ≤ sizeLine by decide), fun t4 n4 => ⟨0, .ref t4, rfl, .inl ⟨rfl, 1, 0, 0, 256, .tup (SqT.of upd_same) (dps_ints [1, 0, 0, 256]), fun z4 G4 y4 d4 => ?_⟩⟩⟩
      rw [if_neg (by decide)] at d4
      refine ⟨(show 4 ≤ sizeLine by decide), fun la nla => ?_⟩
      have x1 := (same_new (o := HO.tup ([16, 0, 0, 0].map V.int)) n1).trans y1
      have x2 := (same_new (o := HO.tup ([1, 4, 0, 0].map V.int)) n2).trans y2
      have x3 := (same_new (o := HO.tup ([1, 0, -1, 0].map V.int)) n3).trans y3
      have x4 := (same_new (o := HO.tup ([1, 0, 0, 256].map V.int)) n4).trans y4
      have x5 := same_new (o := HO.lst [z1, z2, z3, z4]) nla
      exact ⟨la, _, rfl, (((x1.trans x2).trans x3).trans x4).trans x5, upd_same, .cons (dp_same (((x2.trans x3).trans x4).trans x5) d1) (.cons (dp_same ((x3.trans x4).trans x5) d2) (.cons (dp_same (x4.trans x5) d3) (.cons (dp_same x5 d4) .nil)))⟩
    rintro σ' HA ⟨la, xa, rfl, sA, hla, dla⟩
    refine ⟨fun σ' H' => ∃ (lb : Addr) (xb : List V), σ' = [some (.ref a), some (.ref dk), o2, o3, o4, o5, o6, o7, o8, some (.ref sa), some (.ref D), some (.ref D3), some (.ref bo), some (.str R.fin), some vb, some (.ref bt), some z, some z9, some (.ref lb), none] ∧ Same HA H' ∧ H' lb = some (.lst xb) ∧ DpAll K H' xb (List.replicate 4 (pairD "code" "field") ++ [pairD "code" "words", pairD "code" "words", pairD "state" "form", pairD "state" "form"]), ?_, ?_⟩
    · refine ⟨_, rfl, 1, .int 65536, rfl, .inr (.inl ⟨rfl, 65536, rfl, fun z1 G1 y1 d1 => ?_⟩)⟩
      rw [if_neg (by decide)] at d1
      refine ⟨_, rfl, 2, .int (-1), rfl, .inr (.inr (.inl ⟨rfl, -1, rfl, fun z2 G2 y2 d2 => ?_⟩))⟩
      rw [if_neg (by decide)] at d2
      refine ⟨(show 1 ≤ sizeLine by decide), fun p1 n1 => ⟨p1, 63, _, rfl, rfl, upd_same, by decide, by decide, (show 1 * 63 ≤ sizeLine by decide), fun p2 n2 => ?_⟩⟩
      have x3 := (same_new (o := HO.lst [V.int 0]) n1).trans (same_new (o := HO.lst (List.replicate 63 [V.int 0]).flatten) n2)
      refine ⟨4, .ref p2, rfl, .inr (.inr (.inr (.inr (.inl ⟨rfl, List.replicate 63 0, ⟨p2, rfl, .inl (SqL.of (by rw [← rep_ints]; exact upd_same))⟩, by decide +kernel, fun z3 G3 y3 d3 => ?_⟩))))⟩
      rw [if_neg (by decide +kernel)] at d3
      refine ⟨(show 1 ≤ sizeLine by decide), fun p3 n3 => ⟨p3, 64, _, rfl, rfl, upd_same, by decide, by decide, (show 1 * 64 ≤ sizeLine by decide), fun p4 n4 => ?_⟩⟩
      have x4 := (same_new (o := HO.lst [V.int 256]) n3).trans (same_new (o := HO.lst (List.replicate 64 [V.int 256]).flatten) n4)
      refine ⟨4, .ref p4, rfl, .inr (.inr (.inr (.inr (.inl ⟨rfl, List.replicate 64 256, ⟨p4, rfl, .inl (SqL.of (by rw [← rep_ints]; exact upd_same))⟩, by decide +kernel, fun z4 G4 y4 d4 => ?_⟩))))⟩
      rw [if_neg (by decide +kernel)] at d4
      refine ⟨(show 4 ≤ sizeLine by decide), fun lq nlq => ?_⟩
      have x5 := same_new (o := HO.lst [z1, z2, z3, z4]) nlq
      have X4 := (x4.trans y4).trans x5
      have X3 := (x3.trans y3).trans X4
      have X2 := y2.trans X3
      have X1 := y1.trans X2
      have xl : xa.length = 4 := by rw [dps_len dla]; rfl
      refine ⟨la, lq, _, _, rfl, rfl, X1 _ _ hla, upd_same, (show xa.length + 4 ≤ sizeLine by rw [xl]; decide), fun lz nlz => ?_⟩
      have x6 := same_new (o := HO.lst (xa ++ [z1, z2, z3, z4])) nlz
      exact ⟨lz, _, rfl, X1.trans x6, upd_same, dps_same x6 (dps_app (dps_same X1 dla) (.cons (dp_same X2 d1) (.cons (dp_same X3 d2) (.cons (dp_same X4 d3) (.cons (dp_same x5 d4) .nil)))))⟩
    rintro σ' HB ⟨lb, xb', rfl, sB, hlb, dlb⟩
    have SB := (S9.trans sA).trans sB
    have d9 := dp_same (sA.trans sB) d9
    clear hla dla sA sB S9
    refine ⟨fun σ' H' => ∃ (lc : Addr) (xc : List V), σ' = [some (.ref a), some (.ref dk), o2, o3, o4, o5, o6, o7, o8, some (.ref sa), some (.ref D), some (.ref D3), some (.ref bo), some (.str R.fin), some vb, some (.ref bt), some z, some z9, some (.ref lc), none] ∧ Same HB H' ∧ H' lc = some (.lst xc) ∧ DpAll K H' xc ansD, ?_, ?_⟩
    · refine ⟨_, rfl, (show 1 ≤ sizeLine by decide), fun p1 n1 => ⟨p1, 257, _, rfl, rfl, upd_same, by decide, by decide, (show 1 * 257 ≤ sizeLine by decide), fun p2 n2 => ?_⟩⟩
      have x1 := (same_new (o := HO.lst [V.int 0]) n1).trans (same_new (o := HO.lst (List.replicate 257 [V.int 0]).flatten) n2)
      refine ⟨_, rfl, Nat.zero_le _, fun p3 n3 => ⟨(show 3 ≤ sizeLine by decide), fun t1 m1 => ?_⟩⟩
      have x2 := (same_new (o := HO.lst []) n3).trans (same_new (o := HO.tup [V.ref p2, V.ref sa, V.ref p3]) m1)
      refine ⟨5, .ref t1, rfl, .inr (.inr (.inr (.inr (.inr ⟨rfl, t1, .ref p2, .ref sa, .ref p3, List.replicate 257 0, rfl, SqT.of upd_same, ⟨p2, rfl, .inl (SqL.of (x2 _ _ (by rw [← rep_ints]; exact upd_same)))⟩, by decide +kernel, .inl ⟨by decide +kernel, fun z1 G1 y1 d1 => ?_⟩⟩))))⟩
      refine ⟨(show 1 ≤ sizeLine by decide), fun p4 n4 => ⟨_, rfl, Nat.zero_le _, fun p5 n5 => ⟨(show 3 ≤ sizeLine by decide), fun t2 m2 => ?_⟩⟩⟩
      have x3 := (same_new (o := HO.lst []) n5).trans (same_new (o := HO.tup [V.ref p4, V.ref sa, V.ref p5]) m2)
      have x3' := (same_new (o := HO.lst [V.int 65536]) n4).trans x3
      refine ⟨5, .ref t2, rfl, .inr (.inr (.inr (.inr (.inr ⟨rfl, t2, .ref p4, .ref sa, .ref p5, [65536], rfl, SqT.of upd_same, ⟨p4, rfl, .inl (SqL.of (x3 _ _ upd_same))⟩, by decide +kernel, .inl ⟨by decide +kernel, fun z2 G2 y2 d2 => ?_⟩⟩))))⟩
      have X12 := ((x1.trans x2).trans y1).trans (x3'.trans y2)
      have Sq := SB.trans X12
      refine ⟨_, rfl, _, rfl, sa, _, 0, _, rfl, rfl, Same.tup Sq hsa, rfl, _, rfl, sa, _, 1, _, rfl, rfl, Same.tup Sq hsa, rfl, _, rfl, ad, _, rfl, Same.tup Sq had, (fun e => absurd e.2 (by rw [List.length_map, gd]; decide)), fun _ p6 n6 => ?_⟩
      have ec : cutV (st.d.map V.int) none (some (9 : Int)) = (st.d.take 9).map V.int := by rw [List.map_take]; exact cut_to (i := 9) (by rw [List.length_map]; omega)
      rw [ec]
      have w1 := same_new (o := HO.tup ((st.d.take 9).map V.int)) n6
      refine ⟨(show 3 ≤ sizeLine by decide), fun t3 m3 => ?_⟩
      have w2 := same_new (o := HO.tup [V.ref ar, V.ref p6, V.int 0]) m3
      refine ⟨Nat.zero_le _, fun p7 n7 => ⟨(show 3 ≤ sizeLine by decide), fun t4 m4 => ?_⟩⟩
      have w3 := (same_new (o := HO.lst []) n7).trans (same_new (o := HO.tup [V.ref D, V.ref t3, V.ref p7]) m4)
      have Sr := ((Sq.trans w1).trans w2).trans w3
      have l9 : (st.d.take 9).length = 9 := by rw [List.length_take, gd]; rfl
      have bad : BadS K _ (.ref t3) := ⟨true, true, intsD st.r, st.d.take 9, .int 0, .tup (SqT.of (w3 _ _ upd_same)) (.cons (dp_ints (Same.tup Sr har)) (.cons (dp_ints (Same.tup (w2.trans w3) (SqT.of upd_same))) (.cons (.int _) .nil))), flat_ints, rfl, by rw [ints_len, hg.lr]; decide, by rw [l9]; decide, by unfold okS dataB; rw [l9]; simp⟩
      refine ⟨5, .ref t4, rfl, .inr (.inr (.inr (.inr (.inr ⟨rfl, t4, .ref D, .ref t3, .ref p7, ws, rfl, SqT.of upd_same, ⟨D, rfl, .inl (SqL.of (Sr _ _ hD))⟩, by omega, .inr (.inl ⟨okw, bad, fun z3 G3 y3 d3 => ?_⟩)⟩))))⟩
      refine ⟨(show 3 ≤ sizeLine by decide), fun lq nlq => ?_⟩
      have w4 := same_new (o := HO.lst [z1, z2, z3]) nlq
      have W3 := y3.trans w4
      have W2 := ((w1.trans w2).trans w3).trans W3
      have W1 := (x3'.trans y2).trans W2
      have W0 := ((x1.trans x2).trans y1).trans W1
      have xl : xb'.length = 8 := by rw [dps_len dlb]; rfl
      refine ⟨lb, lq, _, _, rfl, rfl, W0 _ _ hlb, upd_same, (show xb'.length + 3 ≤ sizeLine by rw [xl]; decide), fun lz nlz => ?_⟩
      have w5 := same_new (o := HO.lst (xb' ++ [z1, z2, z3])) nlz
      exact ⟨lz, _, rfl, W0.trans w5, upd_same, dps_same w5 (dps_app (dps_same W0 dlb) (.cons (dp_same W1 d1) (.cons (dp_same W2 d2) (.cons (dp_same w4 d3) .nil))))⟩
    rintro σ' HC ⟨lc, xc, rfl, sC, hlc, dlc⟩
    have SC := SB.trans sC
    have d9 := dp_same sC d9
    clear hlb dlb sC SB
    -- due
    refine ⟨fun σ' H' => ∃ (ld : Addr) (xd : List V), σ' = [some (.ref a), some (.ref dk), o2, o3, o4, o5, o6, o7, o8, some (.ref sa), some (.ref D), some (.ref D3), some (.ref bo), some (.str R.fin), some vb, some (.ref bt), some z, some z9, some (.ref lc), some (.ref ld)] ∧ Same HC H' ∧ H' ld = some (.lst xd) ∧ DpAll K H' xd ansD, ?_, ?_⟩
    · refine ⟨(show 2 ≤ sizeLine by decide), fun t1 n1 => ⟨(show 1 ≤ sizeLine by decide), fun p1 m1 => ⟨p1, 4, _, rfl, rfl, upd_same, by decide, by decide, (show 1 * 4 ≤ sizeLine by decide), fun q1 r1 => ?_⟩⟩⟩
      refine ⟨(show 2 ≤ sizeLine by decide), fun t2 n2 => ⟨(show 1 ≤ sizeLine by decide), fun p2 m2 => ⟨p2, 2, _, rfl, rfl, upd_same, by decide, by decide, (show 1 * 2 ≤ sizeLine by decide), fun q2 r2 => ?_⟩⟩⟩
      have x2 := ((same_new (o := HO.tup [V.str "code", V.str "words"]) n2).trans (same_new (o := HO.lst [V.ref t2]) m2)).trans (same_new (o := HO.lst (List.replicate 2 [V.ref t2]).flatten) r2)
      refine ⟨q1, q2, _, _, rfl, rfl, x2 _ _ upd_same, upd_same, (show 4 + 2 ≤ sizeLine by decide), fun u1 s1 => ?_⟩
      have y1 := same_new (o := HO.lst ((List.replicate 4 [V.ref t1]).flatten ++ (List.replicate 2 [V.ref t2]).flatten)) s1
      refine ⟨(show 2 ≤ sizeLine by decide), fun t3 n3 => ⟨(show 1 ≤ sizeLine by decide), fun p3 m3 => ⟨p3, 2, _, rfl, rfl, upd_same, by decide, by decide, (show 1 * 2 ≤ sizeLine by decide), fun q3 r3 => ?_⟩⟩⟩
      have x3 := ((same_new (o := HO.tup [V.str "state", V.str "form"]) n3).trans (same_new (o := HO.lst [V.ref t3]) m3)).trans (same_new (o := HO.lst (List.replicate 2 [V.ref t3]).flatten) r3)
      refine ⟨u1, q3, _, _, rfl, rfl, x3 _ _ upd_same, upd_same, (show 6 + 2 ≤ sizeLine by decide), fun u2 s2 => ?_⟩
      have y2 := same_new (o := HO.lst (((List.replicate 4 [V.ref t1]).flatten ++ (List.replicate 2 [V.ref t2]).flatten) ++ (List.replicate 2 [V.ref t3]).flatten)) s2
      refine ⟨(show 2 ≤ sizeLine by decide), fun t4 n4 => ⟨(show 1 ≤ sizeLine by decide), fun p4 m4 => ⟨p4, 2, _, rfl, rfl, upd_same, by decide, by decide, (show 1 * 2 ≤ sizeLine by decide), fun q4 r4 => ?_⟩⟩⟩
      have x4 := ((same_new (o := HO.tup [V.str "code", V.str "words"]) n4).trans (same_new (o := HO.lst [V.ref t4]) m4)).trans (same_new (o := HO.lst (List.replicate 2 [V.ref t4]).flatten) r4)
      refine ⟨u2, q4, _, _, rfl, rfl, x4 _ _ upd_same, upd_same, (show 8 + 2 ≤ sizeLine by decide), fun u3 s3 => ?_⟩
      have y3 := same_new (o := HO.lst ((((List.replicate 4 [V.ref t1]).flatten ++ (List.replicate 2 [V.ref t2]).flatten) ++ (List.replicate 2 [V.ref t3]).flatten) ++ (List.replicate 2 [V.ref t4]).flatten)) s3
      refine ⟨(show 2 ≤ sizeLine by decide), fun t5 n5 => ⟨(show 1 ≤ sizeLine by decide), fun p5 m5 => ?_⟩⟩
      have x5 := (same_new (o := HO.tup [V.str "state", V.str "form"]) n5).trans (same_new (o := HO.lst [V.ref t5]) m5)
      refine ⟨u3, p5, _, _, rfl, rfl, x5 _ _ upd_same, upd_same, (show 10 + 1 ≤ sizeLine by decide), fun u4 s4 => ?_⟩
      have y4 := same_new (o := HO.lst (((((List.replicate 4 [V.ref t1]).flatten ++ (List.replicate 2 [V.ref t2]).flatten) ++ (List.replicate 2 [V.ref t3]).flatten) ++ (List.replicate 2 [V.ref t4]).flatten) ++ [V.ref t5])) s4
      have z5 := (same_new (o := HO.lst [V.ref t5]) m5).trans y4
      have z4 := (((same_new (o := HO.lst [V.ref t4]) m4).trans (same_new (o := HO.lst (List.replicate 2 [V.ref t4]).flatten) r4)).trans y3).trans (x5.trans y4)
      have z3 := (((same_new (o := HO.lst [V.ref t3]) m3).trans (same_new (o := HO.lst (List.replicate 2 [V.ref t3]).flatten) r3)).trans y2).trans ((x4.trans y3).trans (x5.trans y4))
      have z2 := (((same_new (o := HO.lst [V.ref t2]) m2).trans (same_new (o := HO.lst (List.replicate 2 [V.ref t2]).flatten) r2)).trans y1).trans ((x3.trans y2).trans ((x4.trans y3).trans (x5.trans y4)))
      have z1 := ((same_new (o := HO.lst [V.ref t1]) m1).trans (same_new (o := HO.lst (List.replicate 4 [V.ref t1]).flatten) r1)).trans ((x2.trans y1).trans ((x3.trans y2).trans ((x4.trans y3).trans (x5.trans y4))))
      have d1 : Dp K _ (.ref t1) (pairD "code" "field") := .tup (SqT.of (z1 _ _ upd_same)) (.cons (.str _) (.cons (.str _) .nil))
      have d2 : Dp K _ (.ref t2) (pairD "code" "words") := .tup (SqT.of (z2 _ _ upd_same)) (.cons (.str _) (.cons (.str _) .nil))
      have d3 : Dp K _ (.ref t3) (pairD "state" "form") := .tup (SqT.of (z3 _ _ upd_same)) (.cons (.str _) (.cons (.str _) .nil))
      have d4 : Dp K _ (.ref t4) (pairD "code" "words") := .tup (SqT.of (z4 _ _ upd_same)) (.cons (.str _) (.cons (.str _) .nil))
      have d5 : Dp K _ (.ref t5) (pairD "state" "form") := .tup (SqT.of (z5 _ _ upd_same)) (.cons (.str _) (.cons (.str _) .nil))
      have z0 := ((same_new (o := HO.tup [V.str "code", V.str "field"]) n1).trans z1)
      exact ⟨u4, _, rfl, z0, upd_same, .cons d1 (.cons d1 (.cons d1 (.cons d1 (.cons d2 (.cons d2 (.cons d3 (.cons d3 (.cons d4 (.cons d4 (.cons d5 .nil))))))))))⟩
    rintro σ' HD ⟨ld, xd, rfl, sD, hld, dld⟩
    have ansS : SeqAt.shaped (.list ansD) = true := by decide +kernel
    have hsa' := Same.tup (SC.trans sD) hsa
    refine ⟨_, rfl, _, rfl, .list ansD, .list ansD, .lst (SqL.of (sD _ _ hlc)) (dps_same sD dlc), .lst (SqL.of hld) dld, ansS, ansS, _, rfl, ifT (SeqAt.eqv_refl _ (SeqAt.canLay_of_shaped ansS)) ?_⟩
    refine ⟨_, rfl, (show 5 ≤ sizeLine by decide), fun t1 n1 => ?_⟩
    have y1 := same_new (o := HO.tup [V.int 0, V.int 0, V.int 0, V.int 0, V.int 0]) n1
    refine ⟨_, rfl, sa, _, 1, _, rfl, rfl, Same.tup y1 hsa', rfl, (show 3 ≤ sizeLine by decide), fun t2 n2 => ?_⟩
    have y2 := same_new (o := HO.tup [V.ref t1, V.ref ad, V.int 0]) n2
    have okb : okD 2 (stD ⟨[0, 0, 0, 0, 0], st.d, 0⟩) = true := okD_st (s := ⟨[0, 0, 0, 0, 0], st.d, 0⟩) ⟨rfl, gd, fun x hx => by
      have : x = 0 := by simpa using hx
      rw [this]
      exact ⟨by decide, by decide⟩, hg.bd, Int.le_refl 0⟩ 0
    have shb := ok_shaped okb (by decide)
    refine ⟨_, _, dp_same (sD.trans (y1.trans y2)) d9, .tup (SqT.of upd_same) (.cons (.tup (SqT.of (y2 _ _ upd_same)) (dps_ints [0, 0, 0, 0, 0])) (.cons (dp_ints (Same.tup ((SC.trans sD).trans (y1.trans y2)) had)) (.cons (.int 0) .nil))), shb, shb, ?_⟩
    show Q (V.bl ((stD ⟨[0, 0, 0, 0, 0], st.d, 0⟩).eqv (stD ⟨[0, 0, 0, 0, 0], st.d, 0⟩))) _
    rw [ok_eqv okb]
    exact k _
end
end Q39




namespace Q39
open PySem L2 G M40 NdefX
open C8 (Cal Met Mak pe_c pe_mk pe_mt pe_mt0 pe_gc pss_cut tCut)
/-! ### what the top has written, the head -/
theorem all_mk {l : PySem.W.OpenLaw} {w : World} {K : PySem.W.Frag} {h : Heap} {mg : Str → Option Value} {fa f__law_deck f__law_take f__law_plain f_check_words f_fields_of f_is_byte f_is_count f_check_data f_check_state f_first_state f_replaced f_result_of f_set_register f_set_data f_go_to f_take_byte f_moved f_end_of f_once f_after f__law_machine f__law_state f__law_drawn_word f_word_of f_shape_of f_shown f_number_in f_read_word f__law_line f__law_told f__law_line_word f_law d_SHAPES C_InvalidCode f_InvalidCode cc_InvalidCode cda_InvalidCode C_InvalidState f_InvalidState cc_InvalidState cda_InvalidState C_InvalidLine f_InvalidLine cc_InvalidLine cda_InvalidLine C_GateError : Addr} (X : K.In h) (G : h.Ns mainGlobals mg) (hfa : mg "law" = some (.ref fa))
    {od__law_deck an__law_deck : Option Addr} {sl__law_deck : Array (Option Value)} {oc__law_deck kV__law_deck dc__law_deck pm__law_deck cd__law_deck ct__law_deck : Value}
    {od__law_take an__law_take : Option Addr} {sl__law_take : Array (Option Value)} {oc__law_take kV__law_take dc__law_take pm__law_take cd__law_take ct__law_take : Value}
    {od__law_plain an__law_plain : Option Addr} {sl__law_plain : Array (Option Value)} {oc__law_plain kV__law_plain dc__law_plain pm__law_plain cd__law_plain ct__law_plain : Value}
    {od_check_words an_check_words : Option Addr} {sl_check_words : Array (Option Value)} {oc_check_words kV_check_words dc_check_words pm_check_words cd_check_words ct_check_words : Value}
    {od_fields_of an_fields_of : Option Addr} {sl_fields_of : Array (Option Value)} {oc_fields_of kV_fields_of dc_fields_of pm_fields_of cd_fields_of ct_fields_of : Value}
    {od_is_byte an_is_byte : Option Addr} {sl_is_byte : Array (Option Value)} {oc_is_byte kV_is_byte dc_is_byte pm_is_byte cd_is_byte ct_is_byte : Value}
    {od_is_count an_is_count : Option Addr} {sl_is_count : Array (Option Value)} {oc_is_count kV_is_count dc_is_count pm_is_count cd_is_count ct_is_count : Value}
    {od_check_data an_check_data : Option Addr} {sl_check_data : Array (Option Value)} {oc_check_data kV_check_data dc_check_data pm_check_data cd_check_data ct_check_data : Value}
    {od_check_state an_check_state : Option Addr} {sl_check_state : Array (Option Value)} {oc_check_state kV_check_state dc_check_state pm_check_state cd_check_state ct_check_state : Value}
    {od_first_state an_first_state : Option Addr} {sl_first_state : Array (Option Value)} {oc_first_state kV_first_state dc_first_state pm_first_state cd_first_state ct_first_state : Value}
    {od_replaced an_replaced : Option Addr} {sl_replaced : Array (Option Value)} {oc_replaced kV_replaced dc_replaced pm_replaced cd_replaced ct_replaced : Value}
    {od_result_of an_result_of : Option Addr} {sl_result_of : Array (Option Value)} {oc_result_of kV_result_of dc_result_of pm_result_of cd_result_of ct_result_of : Value}
    {od_set_register an_set_register : Option Addr} {sl_set_register : Array (Option Value)} {oc_set_register kV_set_register dc_set_register pm_set_register cd_set_register ct_set_register : Value}
    {od_set_data an_set_data : Option Addr} {sl_set_data : Array (Option Value)} {oc_set_data kV_set_data dc_set_data pm_set_data cd_set_data ct_set_data : Value}
    {od_go_to an_go_to : Option Addr} {sl_go_to : Array (Option Value)} {oc_go_to kV_go_to dc_go_to pm_go_to cd_go_to ct_go_to : Value}
    {od_take_byte an_take_byte : Option Addr} {sl_take_byte : Array (Option Value)} {oc_take_byte kV_take_byte dc_take_byte pm_take_byte cd_take_byte ct_take_byte : Value}
    {od_moved an_moved : Option Addr} {sl_moved : Array (Option Value)} {oc_moved kV_moved dc_moved pm_moved cd_moved ct_moved : Value}
    {od_end_of an_end_of : Option Addr} {sl_end_of : Array (Option Value)} {oc_end_of kV_end_of dc_end_of pm_end_of cd_end_of ct_end_of : Value}
    {od_once an_once : Option Addr} {sl_once : Array (Option Value)} {oc_once kV_once dc_once pm_once cd_once ct_once : Value}
    {od_after an_after : Option Addr} {sl_after : Array (Option Value)} {oc_after kV_after dc_after pm_after cd_after ct_after : Value}
    {od__law_machine an__law_machine : Option Addr} {sl__law_machine : Array (Option Value)} {oc__law_machine kV__law_machine dc__law_machine pm__law_machine cd__law_machine ct__law_machine : Value}
    {od__law_state an__law_state : Option Addr} {sl__law_state : Array (Option Value)} {oc__law_state kV__law_state dc__law_state pm__law_state cd__law_state ct__law_state : Value}
    {od__law_drawn_word an__law_drawn_word : Option Addr} {sl__law_drawn_word : Array (Option Value)} {oc__law_drawn_word kV__law_drawn_word dc__law_drawn_word pm__law_drawn_word cd__law_drawn_word ct__law_drawn_word : Value}
    {od_word_of an_word_of : Option Addr} {sl_word_of : Array (Option Value)} {oc_word_of kV_word_of dc_word_of pm_word_of cd_word_of ct_word_of : Value}
    {od_shape_of an_shape_of : Option Addr} {sl_shape_of : Array (Option Value)} {oc_shape_of kV_shape_of dc_shape_of pm_shape_of cd_shape_of ct_shape_of : Value}
    {od_shown an_shown : Option Addr} {sl_shown : Array (Option Value)} {oc_shown kV_shown dc_shown pm_shown cd_shown ct_shown : Value}
    {od_number_in an_number_in : Option Addr} {sl_number_in : Array (Option Value)} {oc_number_in kV_number_in dc_number_in pm_number_in cd_number_in ct_number_in : Value}
    {od_read_word an_read_word : Option Addr} {sl_read_word : Array (Option Value)} {oc_read_word kV_read_word dc_read_word pm_read_word cd_read_word ct_read_word : Value}
    {od__law_line an__law_line : Option Addr} {sl__law_line : Array (Option Value)} {oc__law_line kV__law_line dc__law_line pm__law_line cd__law_line ct__law_line : Value}
    {od__law_told an__law_told : Option Addr} {sl__law_told : Array (Option Value)} {oc__law_told kV__law_told dc__law_told pm__law_told cd__law_told ct__law_told : Value}
    {od__law_line_word an__law_line_word : Option Addr} {sl__law_line_word : Array (Option Value)} {oc__law_line_word kV__law_line_word dc__law_line_word pm__law_line_word cd__law_line_word ct__law_line_word : Value}
    {od_law an_law : Option Addr} {sl_law : Array (Option Value)} {oc_law kV_law dc_law pm_law cd_law ct_law : Value}
    {es_SHAPES : Array DictEntry} {n_SHAPES : Nat}
    {nm_InvalidCode qu_InvalidCode : Str} {N_InvalidCode : Addr} {bs_InvalidCode bm_InvalidCode : List Value} {sn_InvalidCode : List Str} {sub_InvalidCode : List Value} {ab_InvalidCode : Bool} {col_InvalidCode : Option Bool} {dd_InvalidCode : Option Addr} {m0_InvalidCode m1_InvalidCode m2_InvalidCode m3_InvalidCode m5_InvalidCode : Option Value} {oc_InvalidCode kV_InvalidCode dc_InvalidCode pm_InvalidCode ct_InvalidCode cl_InvalidCode ccl_InvalidCode : Value} {od_InvalidCode an_InvalidCode cld_InvalidCode cdd_InvalidCode : Option Addr} {sl_InvalidCode csl_InvalidCode ccs_InvalidCode : Array (Option Value)} {fv_InvalidCode : Array Value} {fi_InvalidCode : Str} {tf_InvalidCode : Tok}
    {nm_InvalidState qu_InvalidState : Str} {N_InvalidState : Addr} {bs_InvalidState bm_InvalidState : List Value} {sn_InvalidState : List Str} {sub_InvalidState : List Value} {ab_InvalidState : Bool} {col_InvalidState : Option Bool} {dd_InvalidState : Option Addr} {m0_InvalidState m1_InvalidState m2_InvalidState m3_InvalidState m5_InvalidState : Option Value} {oc_InvalidState kV_InvalidState dc_InvalidState pm_InvalidState ct_InvalidState cl_InvalidState ccl_InvalidState : Value} {od_InvalidState an_InvalidState cld_InvalidState cdd_InvalidState : Option Addr} {sl_InvalidState csl_InvalidState ccs_InvalidState : Array (Option Value)} {fv_InvalidState : Array Value} {fi_InvalidState : Str} {tf_InvalidState : Tok}
    {nm_InvalidLine qu_InvalidLine : Str} {N_InvalidLine : Addr} {bs_InvalidLine bm_InvalidLine : List Value} {sn_InvalidLine : List Str} {sub_InvalidLine : List Value} {ab_InvalidLine : Bool} {col_InvalidLine : Option Bool} {dd_InvalidLine : Option Addr} {m0_InvalidLine m1_InvalidLine m2_InvalidLine m3_InvalidLine m5_InvalidLine : Option Value} {oc_InvalidLine kV_InvalidLine dc_InvalidLine pm_InvalidLine ct_InvalidLine cl_InvalidLine ccl_InvalidLine : Value} {od_InvalidLine an_InvalidLine cld_InvalidLine cdd_InvalidLine : Option Addr} {sl_InvalidLine csl_InvalidLine ccs_InvalidLine : Array (Option Value)} {fv_InvalidLine : Array Value} {fi_InvalidLine : Str} {tf_InvalidLine : Tok}
    (a__law_deck : PySem.W.nsIn K mainGlobals "_law_deck" = some (some (.ref f__law_deck)))
    (l__law_deck : K.lookup f__law_deck = some ⟨oc__law_deck, od__law_deck, .func (PySem.W.fnOf "_law_deck" "_law_deck" (defArgs s__law_deck) (defBody s__law_deck) (defScope s__law_deck) .none kV__law_deck dc__law_deck pm__law_deck an__law_deck cd__law_deck ct__law_deck), sl__law_deck⟩) (c__law_deck : PySem.W.codeIn K cd__law_deck "_law_deck" = true) (k__law_deck : PySem.W.keepIn K (.ref f__law_deck) = true)
    (a__law_take : PySem.W.nsIn K mainGlobals "_law_take" = some (some (.ref f__law_take)))
    (l__law_take : K.lookup f__law_take = some ⟨oc__law_take, od__law_take, .func (PySem.W.fnOf "_law_take" "_law_take" (defArgs s__law_take) (defBody s__law_take) (defScope s__law_take) .none kV__law_take dc__law_take pm__law_take an__law_take cd__law_take ct__law_take), sl__law_take⟩) (c__law_take : PySem.W.codeIn K cd__law_take "_law_take" = true) (k__law_take : PySem.W.keepIn K (.ref f__law_take) = true)
    (a__law_plain : PySem.W.nsIn K mainGlobals "_law_plain" = some (some (.ref f__law_plain)))
    (l__law_plain : K.lookup f__law_plain = some ⟨oc__law_plain, od__law_plain, .func (PySem.W.fnOf "_law_plain" "_law_plain" (defArgs s__law_plain) (defBody s__law_plain) (defScope s__law_plain) .none kV__law_plain dc__law_plain pm__law_plain an__law_plain cd__law_plain ct__law_plain), sl__law_plain⟩) (c__law_plain : PySem.W.codeIn K cd__law_plain "_law_plain" = true) (k__law_plain : PySem.W.keepIn K (.ref f__law_plain) = true)
    (a_check_words : PySem.W.nsIn K mainGlobals "check_words" = some (some (.ref f_check_words)))
    (l_check_words : K.lookup f_check_words = some ⟨oc_check_words, od_check_words, .func (PySem.W.fnOf "check_words" "check_words" (defArgs s_check_words) (defBody s_check_words) (defScope s_check_words) .none kV_check_words dc_check_words pm_check_words an_check_words cd_check_words ct_check_words), sl_check_words⟩) (c_check_words : PySem.W.codeIn K cd_check_words "check_words" = true) (k_check_words : PySem.W.keepIn K (.ref f_check_words) = true)
    (a_fields_of : PySem.W.nsIn K mainGlobals "fields_of" = some (some (.ref f_fields_of)))
    (l_fields_of : K.lookup f_fields_of = some ⟨oc_fields_of, od_fields_of, .func (PySem.W.fnOf "fields_of" "fields_of" (defArgs s_fields_of) (defBody s_fields_of) (defScope s_fields_of) .none kV_fields_of dc_fields_of pm_fields_of an_fields_of cd_fields_of ct_fields_of), sl_fields_of⟩) (c_fields_of : PySem.W.codeIn K cd_fields_of "fields_of" = true) (k_fields_of : PySem.W.keepIn K (.ref f_fields_of) = true)
    (a_is_byte : PySem.W.nsIn K mainGlobals "is_byte" = some (some (.ref f_is_byte)))
    (l_is_byte : K.lookup f_is_byte = some ⟨oc_is_byte, od_is_byte, .func (PySem.W.fnOf "is_byte" "is_byte" (defArgs s_is_byte) (defBody s_is_byte) (defScope s_is_byte) .none kV_is_byte dc_is_byte pm_is_byte an_is_byte cd_is_byte ct_is_byte), sl_is_byte⟩) (c_is_byte : PySem.W.codeIn K cd_is_byte "is_byte" = true) (k_is_byte : PySem.W.keepIn K (.ref f_is_byte) = true)
    (a_is_count : PySem.W.nsIn K mainGlobals "is_count" = some (some (.ref f_is_count)))
    (l_is_count : K.lookup f_is_count = some ⟨oc_is_count, od_is_count, .func (PySem.W.fnOf "is_count" "is_count" (defArgs s_is_count) (defBody s_is_count) (defScope s_is_count) .none kV_is_count dc_is_count pm_is_count an_is_count cd_is_count ct_is_count), sl_is_count⟩) (c_is_count : PySem.W.codeIn K cd_is_count "is_count" = true) (k_is_count : PySem.W.keepIn K (.ref f_is_count) = true)
    (a_check_data : PySem.W.nsIn K mainGlobals "check_data" = some (some (.ref f_check_data)))
    (l_check_data : K.lookup f_check_data = some ⟨oc_check_data, od_check_data, .func (PySem.W.fnOf "check_data" "check_data" (defArgs s_check_data) (defBody s_check_data) (defScope s_check_data) .none kV_check_data dc_check_data pm_check_data an_check_data cd_check_data ct_check_data), sl_check_data⟩) (c_check_data : PySem.W.codeIn K cd_check_data "check_data" = true) (k_check_data : PySem.W.keepIn K (.ref f_check_data) = true)
    (a_check_state : PySem.W.nsIn K mainGlobals "check_state" = some (some (.ref f_check_state)))
    (l_check_state : K.lookup f_check_state = some ⟨oc_check_state, od_check_state, .func (PySem.W.fnOf "check_state" "check_state" (defArgs s_check_state) (defBody s_check_state) (defScope s_check_state) .none kV_check_state dc_check_state pm_check_state an_check_state cd_check_state ct_check_state), sl_check_state⟩) (c_check_state : PySem.W.codeIn K cd_check_state "check_state" = true) (k_check_state : PySem.W.keepIn K (.ref f_check_state) = true)
    (a_first_state : PySem.W.nsIn K mainGlobals "first_state" = some (some (.ref f_first_state)))
    (l_first_state : K.lookup f_first_state = some ⟨oc_first_state, od_first_state, .func (PySem.W.fnOf "first_state" "first_state" (defArgs s_first_state) (defBody s_first_state) (defScope s_first_state) .none kV_first_state dc_first_state pm_first_state an_first_state cd_first_state ct_first_state), sl_first_state⟩) (c_first_state : PySem.W.codeIn K cd_first_state "first_state" = true) (k_first_state : PySem.W.keepIn K (.ref f_first_state) = true)
    (a_replaced : PySem.W.nsIn K mainGlobals "replaced" = some (some (.ref f_replaced)))
    (l_replaced : K.lookup f_replaced = some ⟨oc_replaced, od_replaced, .func (PySem.W.fnOf "replaced" "replaced" (defArgs s_replaced) (defBody s_replaced) (defScope s_replaced) .none kV_replaced dc_replaced pm_replaced an_replaced cd_replaced ct_replaced), sl_replaced⟩) (c_replaced : PySem.W.codeIn K cd_replaced "replaced" = true) (k_replaced : PySem.W.keepIn K (.ref f_replaced) = true)
    (a_result_of : PySem.W.nsIn K mainGlobals "result_of" = some (some (.ref f_result_of)))
    (l_result_of : K.lookup f_result_of = some ⟨oc_result_of, od_result_of, .func (PySem.W.fnOf "result_of" "result_of" (defArgs s_result_of) (defBody s_result_of) (defScope s_result_of) .none kV_result_of dc_result_of pm_result_of an_result_of cd_result_of ct_result_of), sl_result_of⟩) (c_result_of : PySem.W.codeIn K cd_result_of "result_of" = true) (k_result_of : PySem.W.keepIn K (.ref f_result_of) = true)
    (a_set_register : PySem.W.nsIn K mainGlobals "set_register" = some (some (.ref f_set_register)))
    (l_set_register : K.lookup f_set_register = some ⟨oc_set_register, od_set_register, .func (PySem.W.fnOf "set_register" "set_register" (defArgs s_set_register) (defBody s_set_register) (defScope s_set_register) .none kV_set_register dc_set_register pm_set_register an_set_register cd_set_register ct_set_register), sl_set_register⟩) (c_set_register : PySem.W.codeIn K cd_set_register "set_register" = true) (k_set_register : PySem.W.keepIn K (.ref f_set_register) = true)
    (a_set_data : PySem.W.nsIn K mainGlobals "set_data" = some (some (.ref f_set_data)))
    (l_set_data : K.lookup f_set_data = some ⟨oc_set_data, od_set_data, .func (PySem.W.fnOf "set_data" "set_data" (defArgs s_set_data) (defBody s_set_data) (defScope s_set_data) .none kV_set_data dc_set_data pm_set_data an_set_data cd_set_data ct_set_data), sl_set_data⟩) (c_set_data : PySem.W.codeIn K cd_set_data "set_data" = true) (k_set_data : PySem.W.keepIn K (.ref f_set_data) = true)
    (a_go_to : PySem.W.nsIn K mainGlobals "go_to" = some (some (.ref f_go_to)))
    (l_go_to : K.lookup f_go_to = some ⟨oc_go_to, od_go_to, .func (PySem.W.fnOf "go_to" "go_to" (defArgs s_go_to) (defBody s_go_to) (defScope s_go_to) .none kV_go_to dc_go_to pm_go_to an_go_to cd_go_to ct_go_to), sl_go_to⟩) (c_go_to : PySem.W.codeIn K cd_go_to "go_to" = true) (k_go_to : PySem.W.keepIn K (.ref f_go_to) = true)
    (a_take_byte : PySem.W.nsIn K mainGlobals "take_byte" = some (some (.ref f_take_byte)))
    (l_take_byte : K.lookup f_take_byte = some ⟨oc_take_byte, od_take_byte, .func (PySem.W.fnOf "take_byte" "take_byte" (defArgs s_take_byte) (defBody s_take_byte) (defScope s_take_byte) .none kV_take_byte dc_take_byte pm_take_byte an_take_byte cd_take_byte ct_take_byte), sl_take_byte⟩) (c_take_byte : PySem.W.codeIn K cd_take_byte "take_byte" = true) (k_take_byte : PySem.W.keepIn K (.ref f_take_byte) = true)
    (a_moved : PySem.W.nsIn K mainGlobals "moved" = some (some (.ref f_moved)))
    (l_moved : K.lookup f_moved = some ⟨oc_moved, od_moved, .func (PySem.W.fnOf "moved" "moved" (defArgs s_moved) (defBody s_moved) (defScope s_moved) .none kV_moved dc_moved pm_moved an_moved cd_moved ct_moved), sl_moved⟩) (c_moved : PySem.W.codeIn K cd_moved "moved" = true) (k_moved : PySem.W.keepIn K (.ref f_moved) = true)
    (a_end_of : PySem.W.nsIn K mainGlobals "end_of" = some (some (.ref f_end_of)))
    (l_end_of : K.lookup f_end_of = some ⟨oc_end_of, od_end_of, .func (PySem.W.fnOf "end_of" "end_of" (defArgs s_end_of) (defBody s_end_of) (defScope s_end_of) .none kV_end_of dc_end_of pm_end_of an_end_of cd_end_of ct_end_of), sl_end_of⟩) (c_end_of : PySem.W.codeIn K cd_end_of "end_of" = true) (k_end_of : PySem.W.keepIn K (.ref f_end_of) = true)
    (a_once : PySem.W.nsIn K mainGlobals "once" = some (some (.ref f_once)))
    (l_once : K.lookup f_once = some ⟨oc_once, od_once, .func (PySem.W.fnOf "once" "once" (defArgs s_once) (defBody s_once) (defScope s_once) .none kV_once dc_once pm_once an_once cd_once ct_once), sl_once⟩) (c_once : PySem.W.codeIn K cd_once "once" = true) (k_once : PySem.W.keepIn K (.ref f_once) = true)
    (a_after : PySem.W.nsIn K mainGlobals "after" = some (some (.ref f_after)))
    (l_after : K.lookup f_after = some ⟨oc_after, od_after, .func (PySem.W.fnOf "after" "after" (defArgs s_after) (defBody s_after) (defScope s_after) .none kV_after dc_after pm_after an_after cd_after ct_after), sl_after⟩) (c_after : PySem.W.codeIn K cd_after "after" = true) (k_after : PySem.W.keepIn K (.ref f_after) = true)
    (a__law_machine : PySem.W.nsIn K mainGlobals "_law_machine" = some (some (.ref f__law_machine)))
    (l__law_machine : K.lookup f__law_machine = some ⟨oc__law_machine, od__law_machine, .func (PySem.W.fnOf "_law_machine" "_law_machine" (defArgs s__law_machine) (defBody s__law_machine) (defScope s__law_machine) .none kV__law_machine dc__law_machine pm__law_machine an__law_machine cd__law_machine ct__law_machine), sl__law_machine⟩) (c__law_machine : PySem.W.codeIn K cd__law_machine "_law_machine" = true) (k__law_machine : PySem.W.keepIn K (.ref f__law_machine) = true)
    (a__law_state : PySem.W.nsIn K mainGlobals "_law_state" = some (some (.ref f__law_state)))
    (l__law_state : K.lookup f__law_state = some ⟨oc__law_state, od__law_state, .func (PySem.W.fnOf "_law_state" "_law_state" (defArgs s__law_state) (defBody s__law_state) (defScope s__law_state) .none kV__law_state dc__law_state pm__law_state an__law_state cd__law_state ct__law_state), sl__law_state⟩) (c__law_state : PySem.W.codeIn K cd__law_state "_law_state" = true) (k__law_state : PySem.W.keepIn K (.ref f__law_state) = true)
    (a__law_drawn_word : PySem.W.nsIn K mainGlobals "_law_drawn_word" = some (some (.ref f__law_drawn_word)))
    (l__law_drawn_word : K.lookup f__law_drawn_word = some ⟨oc__law_drawn_word, od__law_drawn_word, .func (PySem.W.fnOf "_law_drawn_word" "_law_drawn_word" (defArgs s__law_drawn_word) (defBody s__law_drawn_word) (defScope s__law_drawn_word) .none kV__law_drawn_word dc__law_drawn_word pm__law_drawn_word an__law_drawn_word cd__law_drawn_word ct__law_drawn_word), sl__law_drawn_word⟩) (c__law_drawn_word : PySem.W.codeIn K cd__law_drawn_word "_law_drawn_word" = true) (k__law_drawn_word : PySem.W.keepIn K (.ref f__law_drawn_word) = true)
    (a_word_of : PySem.W.nsIn K mainGlobals "word_of" = some (some (.ref f_word_of)))
    (l_word_of : K.lookup f_word_of = some ⟨oc_word_of, od_word_of, .func (PySem.W.fnOf "word_of" "word_of" (defArgs s_word_of) (defBody s_word_of) (defScope s_word_of) .none kV_word_of dc_word_of pm_word_of an_word_of cd_word_of ct_word_of), sl_word_of⟩) (c_word_of : PySem.W.codeIn K cd_word_of "word_of" = true) (k_word_of : PySem.W.keepIn K (.ref f_word_of) = true)
    (a_shape_of : PySem.W.nsIn K mainGlobals "shape_of" = some (some (.ref f_shape_of)))
    (l_shape_of : K.lookup f_shape_of = some ⟨oc_shape_of, od_shape_of, .func (PySem.W.fnOf "shape_of" "shape_of" (defArgs s_shape_of) (defBody s_shape_of) (defScope s_shape_of) .none kV_shape_of dc_shape_of pm_shape_of an_shape_of cd_shape_of ct_shape_of), sl_shape_of⟩) (c_shape_of : PySem.W.codeIn K cd_shape_of "shape_of" = true) (k_shape_of : PySem.W.keepIn K (.ref f_shape_of) = true)
    (a_shown : PySem.W.nsIn K mainGlobals "shown" = some (some (.ref f_shown)))
    (l_shown : K.lookup f_shown = some ⟨oc_shown, od_shown, .func (PySem.W.fnOf "shown" "shown" (defArgs s_shown) (defBody s_shown) (defScope s_shown) .none kV_shown dc_shown pm_shown an_shown cd_shown ct_shown), sl_shown⟩) (c_shown : PySem.W.codeIn K cd_shown "shown" = true) (k_shown : PySem.W.keepIn K (.ref f_shown) = true)
    (a_number_in : PySem.W.nsIn K mainGlobals "number_in" = some (some (.ref f_number_in)))
    (l_number_in : K.lookup f_number_in = some ⟨oc_number_in, od_number_in, .func (PySem.W.fnOf "number_in" "number_in" (defArgs s_number_in) (defBody s_number_in) (defScope s_number_in) .none kV_number_in dc_number_in pm_number_in an_number_in cd_number_in ct_number_in), sl_number_in⟩) (c_number_in : PySem.W.codeIn K cd_number_in "number_in" = true) (k_number_in : PySem.W.keepIn K (.ref f_number_in) = true)
    (a_read_word : PySem.W.nsIn K mainGlobals "read_word" = some (some (.ref f_read_word)))
    (l_read_word : K.lookup f_read_word = some ⟨oc_read_word, od_read_word, .func (PySem.W.fnOf "read_word" "read_word" (defArgs s_read_word) (defBody s_read_word) (defScope s_read_word) .none kV_read_word dc_read_word pm_read_word an_read_word cd_read_word ct_read_word), sl_read_word⟩) (c_read_word : PySem.W.codeIn K cd_read_word "read_word" = true) (k_read_word : PySem.W.keepIn K (.ref f_read_word) = true)
    (a__law_line : PySem.W.nsIn K mainGlobals "_law_line" = some (some (.ref f__law_line)))
    (l__law_line : K.lookup f__law_line = some ⟨oc__law_line, od__law_line, .func (PySem.W.fnOf "_law_line" "_law_line" (defArgs s__law_line) (defBody s__law_line) (defScope s__law_line) .none kV__law_line dc__law_line pm__law_line an__law_line cd__law_line ct__law_line), sl__law_line⟩) (c__law_line : PySem.W.codeIn K cd__law_line "_law_line" = true) (k__law_line : PySem.W.keepIn K (.ref f__law_line) = true)
    (a__law_told : PySem.W.nsIn K mainGlobals "_law_told" = some (some (.ref f__law_told)))
    (l__law_told : K.lookup f__law_told = some ⟨oc__law_told, od__law_told, .func (PySem.W.fnOf "_law_told" "_law_told" (defArgs s__law_told) (defBody s__law_told) (defScope s__law_told) .none kV__law_told dc__law_told pm__law_told an__law_told cd__law_told ct__law_told), sl__law_told⟩) (c__law_told : PySem.W.codeIn K cd__law_told "_law_told" = true) (k__law_told : PySem.W.keepIn K (.ref f__law_told) = true)
    (a__law_line_word : PySem.W.nsIn K mainGlobals "_law_line_word" = some (some (.ref f__law_line_word)))
    (l__law_line_word : K.lookup f__law_line_word = some ⟨oc__law_line_word, od__law_line_word, .func (PySem.W.fnOf "_law_line_word" "_law_line_word" (defArgs s__law_line_word) (defBody s__law_line_word) (defScope s__law_line_word) .none kV__law_line_word dc__law_line_word pm__law_line_word an__law_line_word cd__law_line_word ct__law_line_word), sl__law_line_word⟩) (c__law_line_word : PySem.W.codeIn K cd__law_line_word "_law_line_word" = true) (k__law_line_word : PySem.W.keepIn K (.ref f__law_line_word) = true)
    (a_law : PySem.W.nsIn K mainGlobals "law" = some (some (.ref f_law)))
    (l_law : K.lookup f_law = some ⟨oc_law, od_law, .func (PySem.W.fnOf "law" "law" (defArgs s_law) (defBody s_law) (defScope s_law) .none kV_law dc_law pm_law an_law cd_law ct_law), sl_law⟩) (c_law : PySem.W.codeIn K cd_law "law" = true) (k_law : PySem.W.keepIn K (.ref f_law) = true)
    (z_abs : PySem.W.nsIn K mainGlobals "abs" = some none)
    (z_all : PySem.W.nsIn K mainGlobals "all" = some none)
    (z_any : PySem.W.nsIn K mainGlobals "any" = some none)
    (z_bool : PySem.W.nsIn K mainGlobals "bool" = some none)
    (z_int : PySem.W.nsIn K mainGlobals "int" = some none)
    (z_isinstance : PySem.W.nsIn K mainGlobals "isinstance" = some none)
    (z_len : PySem.W.nsIn K mainGlobals "len" = some none)
    (z_list : PySem.W.nsIn K mainGlobals "list" = some none)
    (z_min : PySem.W.nsIn K mainGlobals "min" = some none)
    (z_range : PySem.W.nsIn K mainGlobals "range" = some none)
    (z_str : PySem.W.nsIn K mainGlobals "str" = some none)
    (z_tuple : PySem.W.nsIn K mainGlobals "tuple" = some none)
    (z_zip : PySem.W.nsIn K mainGlobals "zip" = some none)
    (w_MOST_WORDS : constK K "MOST_WORDS" = some (.int 256))
    (w_MOST_WORD : constK K "MOST_WORD" = some (.int 65535))
    (w_ENDS : constK K "ENDS" = some (.tuple [.str "done", .str "zero", .str "index"]))
    (w_REGISTERS : constK K "REGISTERS" = some (.int 4))
    (w_DATA : constK K "DATA" = some (.int 64))
    (w_BYTE : constK K "BYTE" = some (.int 256))
    (w_RANGES : constK K "RANGES" = some (.tuple [.int 16, .int 4, .int 4, .int 256]))
    (w_DOING : constK K "DOING" = some (.tuple [.str "COPY", .str "ADD", .str "SUB", .str "AND", .str "OR", .str "XOR", .str "LESS", .str "SAME", .str "HALF"]))
    (tk_DOING : tupK K "DOING" = true)
    (a_SHAPES : PySem.W.nsIn K mainGlobals "SHAPES" = some (some (.ref d_SHAPES)))
    (ld_SHAPES : K.lookup d_SHAPES = some ⟨.type "dict", none, .dict es_SHAPES n_SHAPES, #[]⟩)
    (lt_SHAPES : PySem.W.KeysLit w.params es_SHAPES.toList)
    (dd_SHAPES : entsK K es_SHAPES.toList = some ([("HALT", .tuple [.int 0, .str "n"]), ("SET", .tuple [.int 1, .str "an"]), ("LOAD", .tuple [.int 3, .str "abn"]), ("STORE", .tuple [.int 4, .str "abn"]), ("GET", .tuple [.int 5, .str "an"]), ("PUT", .tuple [.int 6, .str "an"]), ("JUMP", .tuple [.int 7, .str "n"]), ("ZERO", .tuple [.int 8, .str "an"]), ("CALL", .tuple [.int 9, .str "an"]), ("BACK", .tuple [.int 10, .str "a"]), ("OUT", .tuple [.int 11, .str "a"]), ("IN", .tuple [.int 12, .str "a"])] : List (Str × PyData)))
    (lw_SHAPES : (d_SHAPES == sysModules) = false)
    (a_InvalidCode : PySem.W.nsIn K mainGlobals "InvalidCode" = some (some (.ref C_InvalidCode)))
    (x_InvalidCode : K.lookup C_InvalidCode = some (excClassObj nm_InvalidCode qu_InvalidCode C_InvalidCode N_InvalidCode bs_InvalidCode bm_InvalidCode true sn_InvalidCode sub_InvalidCode ab_InvalidCode col_InvalidCode dd_InvalidCode m0_InvalidCode m1_InvalidCode m2_InvalidCode m3_InvalidCode m5_InvalidCode "ValueError.__new__"))
    (v_InvalidCode : PySem.HandSPX.refsVE bm_InvalidCode = true)
    (sa_InvalidCode : PySem.W.findIn K (.ref C_InvalidCode) "__setattr__" = some (some (.builtin "object.__setattr__")))
    (ga_InvalidCode : PySem.W.findIn K (.ref C_InvalidCode) "__getattribute__" = some (some (.builtin "BaseException.__getattribute__")))
    (gg_InvalidCode : PySem.W.findIn K (.ref C_InvalidCode) "__getattr__" = some none)
    (n_InvalidCode : PySem.W.findIn K (.ref C_InvalidCode) "what" = some none)
    (i_InvalidCode : PySem.W.findIn K (.ref C_InvalidCode) "__init__" = some (some (.ref f_InvalidCode)))
    (t_InvalidCode : PySem.W.typeIn K (.ref f_InvalidCode) = some (.type "function"))
    (l_InvalidCode : K.lookup f_InvalidCode = some ⟨oc_InvalidCode, od_InvalidCode, .func (PySem.W.fnX "__init__" "InvalidCode.__init__" (defArgs s_InvalidCode___init__) (defBody s_InvalidCode___init__) (defScope s_InvalidCode___init__) [("__class__", cc_InvalidCode)] .none kV_InvalidCode dc_InvalidCode pm_InvalidCode an_InvalidCode (.ref cda_InvalidCode) ct_InvalidCode), sl_InvalidCode⟩)
    (c_InvalidCode : PySem.W.codeIn K (.ref cda_InvalidCode) "InvalidCode.__init__" = true)
    (kc_InvalidCode : PySem.W.keepIn K (.ref C_InvalidCode) = true)
    (e_InvalidCode : PySem.W.subIn K (.ref C_InvalidCode) (.type "BaseException") = some true)
    (tt_InvalidCode : PySem.W.typeIn K (.ref C_InvalidCode) = some (.type "type"))
    (hd_InvalidCode : PySem.W.hasDictIn K C_InvalidCode = true)
    (ic_InvalidCode : PySem.W.isClsIn K C_InvalidCode = true)
    (ss_InvalidCode : PySem.W.subIn K (.ref C_InvalidCode) (.ref C_InvalidCode) = some true)
    (mr_InvalidCode : PySem.W.mroIn K C_InvalidCode (.ref C_InvalidCode) = some true)
    (su_InvalidCode : PySem.W.ks_superIn K C_InvalidCode C_InvalidCode "__init__" = some (some (.builtin "ValueError.__init__")))
    (sb_InvalidCode : PySem.W.subIn K (.ref C_InvalidCode) (.type "ValueError") = some true)
    (th_InvalidCode : PySem.W.nsIn K cStatics "thirdparty.any" = some none)
    (ce_InvalidCode : K.lookup cc_InvalidCode = some ⟨cl_InvalidCode, cld_InvalidCode, .cell (some (.ref C_InvalidCode)), csl_InvalidCode⟩)
    (co_InvalidCode : K.lookup cda_InvalidCode = some ⟨ccl_InvalidCode, cdd_InvalidCode, .fields fv_InvalidCode, ccs_InvalidCode⟩)
    (cv_InvalidCode : fv_InvalidCode[2]? = some (.str fi_InvalidCode tf_InvalidCode))
    (cf_InvalidCode : ((l.prog.main.file : Str) == fi_InvalidCode) = true)
    (tp_InvalidCode : (l.prog.main.scope.names.lookup ("super" : Str)).isSome = false)
    (zs_InvalidCode : PySem.W.nsIn K mainGlobals "super" = some none)
    (a_InvalidState : PySem.W.nsIn K mainGlobals "InvalidState" = some (some (.ref C_InvalidState)))
    (x_InvalidState : K.lookup C_InvalidState = some (excClassObj nm_InvalidState qu_InvalidState C_InvalidState N_InvalidState bs_InvalidState bm_InvalidState true sn_InvalidState sub_InvalidState ab_InvalidState col_InvalidState dd_InvalidState m0_InvalidState m1_InvalidState m2_InvalidState m3_InvalidState m5_InvalidState "ValueError.__new__"))
    (v_InvalidState : PySem.HandSPX.refsVE bm_InvalidState = true)
    (sa_InvalidState : PySem.W.findIn K (.ref C_InvalidState) "__setattr__" = some (some (.builtin "object.__setattr__")))
    (ga_InvalidState : PySem.W.findIn K (.ref C_InvalidState) "__getattribute__" = some (some (.builtin "BaseException.__getattribute__")))
    (gg_InvalidState : PySem.W.findIn K (.ref C_InvalidState) "__getattr__" = some none)
    (n_InvalidState : PySem.W.findIn K (.ref C_InvalidState) "what" = some none)
    (i_InvalidState : PySem.W.findIn K (.ref C_InvalidState) "__init__" = some (some (.ref f_InvalidState)))
    (t_InvalidState : PySem.W.typeIn K (.ref f_InvalidState) = some (.type "function"))
    (l_InvalidState : K.lookup f_InvalidState = some ⟨oc_InvalidState, od_InvalidState, .func (PySem.W.fnX "__init__" "InvalidState.__init__" (defArgs s_InvalidState___init__) (defBody s_InvalidState___init__) (defScope s_InvalidState___init__) [("__class__", cc_InvalidState)] .none kV_InvalidState dc_InvalidState pm_InvalidState an_InvalidState (.ref cda_InvalidState) ct_InvalidState), sl_InvalidState⟩)
    (c_InvalidState : PySem.W.codeIn K (.ref cda_InvalidState) "InvalidState.__init__" = true)
    (kc_InvalidState : PySem.W.keepIn K (.ref C_InvalidState) = true)
    (e_InvalidState : PySem.W.subIn K (.ref C_InvalidState) (.type "BaseException") = some true)
    (tt_InvalidState : PySem.W.typeIn K (.ref C_InvalidState) = some (.type "type"))
    (hd_InvalidState : PySem.W.hasDictIn K C_InvalidState = true)
    (ic_InvalidState : PySem.W.isClsIn K C_InvalidState = true)
    (ss_InvalidState : PySem.W.subIn K (.ref C_InvalidState) (.ref C_InvalidState) = some true)
    (mr_InvalidState : PySem.W.mroIn K C_InvalidState (.ref C_InvalidState) = some true)
    (su_InvalidState : PySem.W.ks_superIn K C_InvalidState C_InvalidState "__init__" = some (some (.builtin "ValueError.__init__")))
    (sb_InvalidState : PySem.W.subIn K (.ref C_InvalidState) (.type "ValueError") = some true)
    (th_InvalidState : PySem.W.nsIn K cStatics "thirdparty.any" = some none)
    (ce_InvalidState : K.lookup cc_InvalidState = some ⟨cl_InvalidState, cld_InvalidState, .cell (some (.ref C_InvalidState)), csl_InvalidState⟩)
    (co_InvalidState : K.lookup cda_InvalidState = some ⟨ccl_InvalidState, cdd_InvalidState, .fields fv_InvalidState, ccs_InvalidState⟩)
    (cv_InvalidState : fv_InvalidState[2]? = some (.str fi_InvalidState tf_InvalidState))
    (cf_InvalidState : ((l.prog.main.file : Str) == fi_InvalidState) = true)
    (tp_InvalidState : (l.prog.main.scope.names.lookup ("super" : Str)).isSome = false)
    (zs_InvalidState : PySem.W.nsIn K mainGlobals "super" = some none)
    (a_InvalidLine : PySem.W.nsIn K mainGlobals "InvalidLine" = some (some (.ref C_InvalidLine)))
    (x_InvalidLine : K.lookup C_InvalidLine = some (excClassObj nm_InvalidLine qu_InvalidLine C_InvalidLine N_InvalidLine bs_InvalidLine bm_InvalidLine true sn_InvalidLine sub_InvalidLine ab_InvalidLine col_InvalidLine dd_InvalidLine m0_InvalidLine m1_InvalidLine m2_InvalidLine m3_InvalidLine m5_InvalidLine "ValueError.__new__"))
    (v_InvalidLine : PySem.HandSPX.refsVE bm_InvalidLine = true)
    (sa_InvalidLine : PySem.W.findIn K (.ref C_InvalidLine) "__setattr__" = some (some (.builtin "object.__setattr__")))
    (ga_InvalidLine : PySem.W.findIn K (.ref C_InvalidLine) "__getattribute__" = some (some (.builtin "BaseException.__getattribute__")))
    (gg_InvalidLine : PySem.W.findIn K (.ref C_InvalidLine) "__getattr__" = some none)
    (n_InvalidLine : PySem.W.findIn K (.ref C_InvalidLine) "sign" = some none)
    (i_InvalidLine : PySem.W.findIn K (.ref C_InvalidLine) "__init__" = some (some (.ref f_InvalidLine)))
    (t_InvalidLine : PySem.W.typeIn K (.ref f_InvalidLine) = some (.type "function"))
    (l_InvalidLine : K.lookup f_InvalidLine = some ⟨oc_InvalidLine, od_InvalidLine, .func (PySem.W.fnX "__init__" "InvalidLine.__init__" (defArgs s_InvalidLine___init__) (defBody s_InvalidLine___init__) (defScope s_InvalidLine___init__) [("__class__", cc_InvalidLine)] .none kV_InvalidLine dc_InvalidLine pm_InvalidLine an_InvalidLine (.ref cda_InvalidLine) ct_InvalidLine), sl_InvalidLine⟩)
    (c_InvalidLine : PySem.W.codeIn K (.ref cda_InvalidLine) "InvalidLine.__init__" = true)
    (kc_InvalidLine : PySem.W.keepIn K (.ref C_InvalidLine) = true)
    (e_InvalidLine : PySem.W.subIn K (.ref C_InvalidLine) (.type "BaseException") = some true)
    (tt_InvalidLine : PySem.W.typeIn K (.ref C_InvalidLine) = some (.type "type"))
    (hd_InvalidLine : PySem.W.hasDictIn K C_InvalidLine = true)
    (ic_InvalidLine : PySem.W.isClsIn K C_InvalidLine = true)
    (ss_InvalidLine : PySem.W.subIn K (.ref C_InvalidLine) (.ref C_InvalidLine) = some true)
    (mr_InvalidLine : PySem.W.mroIn K C_InvalidLine (.ref C_InvalidLine) = some true)
    (su_InvalidLine : PySem.W.ks_superIn K C_InvalidLine C_InvalidLine "__init__" = some (some (.builtin "ValueError.__init__")))
    (sb_InvalidLine : PySem.W.subIn K (.ref C_InvalidLine) (.type "ValueError") = some true)
    (th_InvalidLine : PySem.W.nsIn K cStatics "thirdparty.any" = some none)
    (ce_InvalidLine : K.lookup cc_InvalidLine = some ⟨cl_InvalidLine, cld_InvalidLine, .cell (some (.ref C_InvalidLine)), csl_InvalidLine⟩)
    (co_InvalidLine : K.lookup cda_InvalidLine = some ⟨ccl_InvalidLine, cdd_InvalidLine, .fields fv_InvalidLine, ccs_InvalidLine⟩)
    (cv_InvalidLine : fv_InvalidLine[2]? = some (.str fi_InvalidLine tf_InvalidLine))
    (cf_InvalidLine : ((l.prog.main.file : Str) == fi_InvalidLine) = true)
    (tp_InvalidLine : (l.prog.main.scope.names.lookup ("super" : Str)).isSome = false)
    (zs_InvalidLine : PySem.W.nsIn K mainGlobals "super" = some none)
    (a_GateError : PySem.W.nsIn K mainGlobals "GateError" = some (some (.ref C_GateError)))
    (be_GateError : PySem.W.subIn K (.ref C_GateError) (.type "BaseException") = some true)
    (bh_GateError : PySem.W.hasDictIn K C_GateError = true)
    (bt_GateError : PySem.W.typeIn K (.ref C_GateError) = some (.type "type"))
    (bg_GateError : PySem.W.specialIn K (.builtin "object.__class__") "__get__" = some (some (.builtin "getset_descriptor.__get__")))
    (bx_GateError : PySem.W.takesIn K (.builtin "object.__class__") = some true)
    (gs_InvalidCode : PySem.W.subIn K (.ref C_InvalidCode) (.ref C_GateError) = some true)
    (gc_InvalidCode : PySem.W.findIn K (.ref C_InvalidCode) "__class__" = some (some (.builtin "object.__class__")))
    (gm_InvalidCode : PySem.W.mroIn K C_InvalidCode (.type "object") = some true)
    (gk_InvalidCode_InvalidState : PySem.W.subIn K (.ref C_InvalidCode) (.ref C_InvalidState) = some false)
    (gk_InvalidCode_InvalidLine : PySem.W.subIn K (.ref C_InvalidCode) (.ref C_InvalidLine) = some false)
    (gs_InvalidState : PySem.W.subIn K (.ref C_InvalidState) (.ref C_GateError) = some true)
    (gc_InvalidState : PySem.W.findIn K (.ref C_InvalidState) "__class__" = some (some (.builtin "object.__class__")))
    (gm_InvalidState : PySem.W.mroIn K C_InvalidState (.type "object") = some true)
    (gk_InvalidState_InvalidCode : PySem.W.subIn K (.ref C_InvalidState) (.ref C_InvalidCode) = some false)
    (gk_InvalidState_InvalidLine : PySem.W.subIn K (.ref C_InvalidState) (.ref C_InvalidLine) = some false)
    (gs_InvalidLine : PySem.W.subIn K (.ref C_InvalidLine) (.ref C_GateError) = some true)
    (gc_InvalidLine : PySem.W.findIn K (.ref C_InvalidLine) "__class__" = some (some (.builtin "object.__class__")))
    (gm_InvalidLine : PySem.W.mroIn K C_InvalidLine (.type "object") = some true)
    (gk_InvalidLine_InvalidCode : PySem.W.subIn K (.ref C_InvalidLine) (.ref C_InvalidCode) = some false)
    (gk_InvalidLine_InvalidState : PySem.W.subIn K (.ref C_InvalidLine) (.ref C_InvalidState) = some false) :
    ∃ fd : FuncData, (∀ (s : Shared) (v : Value), BindsTo s fd ⟨[v], []⟩ [("script", v)]) ∧ ∀ base : Heap, K.In base → base.Ns mainGlobals mg → FnOk l.prog w K mg base CX0 10 fa fd ["script"] (spLaw K) := by
  have e := hfa.symm.trans (PySem.W.mg_of X G a_law)
  cases e
  have T : Txt K mg := ⟨PySem.W.mg_none_of X G z_abs, PySem.W.mg_none_of X G z_all, PySem.W.mg_none_of X G z_any, PySem.W.mg_none_of X G z_bool, PySem.W.mg_none_of X G z_int, PySem.W.mg_none_of X G z_isinstance, PySem.W.mg_none_of X G z_len, PySem.W.mg_none_of X G z_list, PySem.W.mg_none_of X G z_min, PySem.W.mg_none_of X G z_range, PySem.W.mg_none_of X G z_str, PySem.W.mg_none_of X G z_tuple, PySem.W.mg_none_of X G z_zip, const_of X G w_MOST_WORDS, const_of X G w_MOST_WORD, const_of X G w_ENDS, const_of X G w_REGISTERS, const_of X G w_DATA, const_of X G w_BYTE, const_of X G w_RANGES, const_of X G w_DOING⟩
  have F__law_deck := fun_mk (st := s__law_deck) l__law_deck c__law_deck k__law_deck
  have B__law_deck := F__law_deck.binds (ps := ["script", "cells", "each"]) fun _ _ _ _ _ _ us hl => match us, hl with | [_, _, _], _ => rfl
  have m__law_deck := PySem.W.mg_of X G a__law_deck
  have F__law_take := fun_mk (st := s__law_take) l__law_take c__law_take k__law_take
  have B__law_take := F__law_take.binds (ps := ["deck", "many"]) fun _ _ _ _ _ _ us hl => match us, hl with | [_, _], _ => rfl
  have m__law_take := PySem.W.mg_of X G a__law_take
  have F__law_plain := fun_mk (st := s__law_plain) l__law_plain c__law_plain k__law_plain
  have B__law_plain := F__law_plain.binds (ps := ["value"]) fun _ _ _ _ _ _ us hl => match us, hl with | [_], _ => rfl
  have m__law_plain := PySem.W.mg_of X G a__law_plain
  have F_check_words := fun_mk (st := s_check_words) l_check_words c_check_words k_check_words
  have B_check_words := F_check_words.binds (ps := ["words"]) fun _ _ _ _ _ _ us hl => match us, hl with | [_], _ => rfl
  have m_check_words := PySem.W.mg_of X G a_check_words
  have F_fields_of := fun_mk (st := s_fields_of) l_fields_of c_fields_of k_fields_of
  have B_fields_of := F_fields_of.binds (ps := ["word"]) fun _ _ _ _ _ _ us hl => match us, hl with | [_], _ => rfl
  have m_fields_of := PySem.W.mg_of X G a_fields_of
  have F_is_byte := fun_mk (st := s_is_byte) l_is_byte c_is_byte k_is_byte
  have B_is_byte := F_is_byte.binds (ps := ["value"]) fun _ _ _ _ _ _ us hl => match us, hl with | [_], _ => rfl
  have m_is_byte := PySem.W.mg_of X G a_is_byte
  have F_is_count := fun_mk (st := s_is_count) l_is_count c_is_count k_is_count
  have B_is_count := F_is_count.binds (ps := ["value"]) fun _ _ _ _ _ _ us hl => match us, hl with | [_], _ => rfl
  have m_is_count := PySem.W.mg_of X G a_is_count
  have F_check_data := fun_mk (st := s_check_data) l_check_data c_check_data k_check_data
  have B_check_data := F_check_data.binds (ps := ["data"]) fun _ _ _ _ _ _ us hl => match us, hl with | [_], _ => rfl
  have m_check_data := PySem.W.mg_of X G a_check_data
  have F_check_state := fun_mk (st := s_check_state) l_check_state c_check_state k_check_state
  have B_check_state := F_check_state.binds (ps := ["state"]) fun _ _ _ _ _ _ us hl => match us, hl with | [_], _ => rfl
  have m_check_state := PySem.W.mg_of X G a_check_state
  have F_first_state := fun_mk (st := s_first_state) l_first_state c_first_state k_first_state
  have B_first_state := F_first_state.binds (ps := ["data"]) fun _ _ _ _ _ _ us hl => match us, hl with | [_], _ => rfl
  have m_first_state := PySem.W.mg_of X G a_first_state
  have F_replaced := fun_mk (st := s_replaced) l_replaced c_replaced k_replaced
  have B_replaced := F_replaced.binds (ps := ["row", "at", "value"]) fun _ _ _ _ _ _ us hl => match us, hl with | [_, _, _], _ => rfl
  have m_replaced := PySem.W.mg_of X G a_replaced
  have F_result_of := fun_mk (st := s_result_of) l_result_of c_result_of k_result_of
  have B_result_of := F_result_of.binds (ps := ["n", "one", "two"]) fun _ _ _ _ _ _ us hl => match us, hl with | [_, _, _], _ => rfl
  have m_result_of := PySem.W.mg_of X G a_result_of
  have F_set_register := fun_mk (st := s_set_register) l_set_register c_set_register k_set_register
  have B_set_register := F_set_register.binds (ps := ["state", "a", "value", "pc"]) fun _ _ _ _ _ _ us hl => match us, hl with | [_, _, _, _], _ => rfl
  have m_set_register := PySem.W.mg_of X G a_set_register
  have F_set_data := fun_mk (st := s_set_data) l_set_data c_set_data k_set_data
  have B_set_data := F_set_data.binds (ps := ["state", "address", "value", "pc"]) fun _ _ _ _ _ _ us hl => match us, hl with | [_, _, _, _], _ => rfl
  have m_set_data := PySem.W.mg_of X G a_set_data
  have F_go_to := fun_mk (st := s_go_to) l_go_to c_go_to k_go_to
  have B_go_to := F_go_to.binds (ps := ["state", "pc"]) fun _ _ _ _ _ _ us hl => match us, hl with | [_, _], _ => rfl
  have m_go_to := PySem.W.mg_of X G a_go_to
  have F_take_byte := fun_mk (st := s_take_byte) l_take_byte c_take_byte k_take_byte
  have B_take_byte := F_take_byte.binds (ps := ["state", "a", "bytes_in", "pc"]) fun _ _ _ _ _ _ us hl => match us, hl with | [_, _, _, _], _ => rfl
  have m_take_byte := PySem.W.mg_of X G a_take_byte
  have F_moved := fun_mk (st := s_moved) l_moved c_moved k_moved
  have B_moved := F_moved.binds (ps := ["state", "fields", "bytes_in"]) fun _ _ _ _ _ _ us hl => match us, hl with | [_, _, _], _ => rfl
  have m_moved := PySem.W.mg_of X G a_moved
  have F_end_of := fun_mk (st := s_end_of) l_end_of c_end_of k_end_of
  have B_end_of := F_end_of.binds (ps := ["fields"]) fun _ _ _ _ _ _ us hl => match us, hl with | [_], _ => rfl
  have m_end_of := PySem.W.mg_of X G a_end_of
  have F_once := fun_mk (st := s_once) l_once c_once k_once
  have B_once := F_once.binds (ps := ["words", "state", "bytes_in"]) fun _ _ _ _ _ _ us hl => match us, hl with | [_, _, _], _ => rfl
  have m_once := PySem.W.mg_of X G a_once
  have F_after := fun_mk (st := s_after) l_after c_after k_after
  have B_after := F_after.binds (ps := ["words", "state", "bytes_in"]) fun _ _ _ _ _ _ us hl => match us, hl with | [_, _, _], _ => rfl
  have m_after := PySem.W.mg_of X G a_after
  have F__law_machine := fun_mk (st := s__law_machine) l__law_machine c__law_machine k__law_machine
  have B__law_machine := F__law_machine.binds (ps := ["words", "registers", "data", "taken", "bytes_in", "most"]) fun _ _ _ _ _ _ us hl => match us, hl with | [_, _, _, _, _, _], _ => rfl
  have m__law_machine := PySem.W.mg_of X G a__law_machine
  have F__law_state := fun_mk (st := s__law_state) l__law_state c__law_state k__law_state
  have B__law_state := F__law_state.binds (ps := ["deck"]) fun _ _ _ _ _ _ us hl => match us, hl with | [_], _ => rfl
  have m__law_state := PySem.W.mg_of X G a__law_state
  have F__law_drawn_word := fun_mk (st := s__law_drawn_word) l__law_drawn_word c__law_drawn_word k__law_drawn_word
  have B__law_drawn_word := F__law_drawn_word.binds (ps := ["deck"]) fun _ _ _ _ _ _ us hl => match us, hl with | [_], _ => rfl
  have m__law_drawn_word := PySem.W.mg_of X G a__law_drawn_word
  have F_word_of := fun_mk (st := s_word_of) l_word_of c_word_of k_word_of
  have B_word_of := F_word_of.binds (ps := ["op", "a", "b", "n"]) fun _ _ _ _ _ _ us hl => match us, hl with | [_, _, _, _], _ => rfl
  have m_word_of := PySem.W.mg_of X G a_word_of
  have F_shape_of := fun_mk (st := s_shape_of) l_shape_of c_shape_of k_shape_of
  have B_shape_of := F_shape_of.binds (ps := ["op", "n"]) fun _ _ _ _ _ _ us hl => match us, hl with | [_, _], _ => rfl
  have m_shape_of := PySem.W.mg_of X G a_shape_of
  have F_shown := fun_mk (st := s_shown) l_shown c_shown k_shown
  have B_shown := F_shown.binds (ps := ["word"]) fun _ _ _ _ _ _ us hl => match us, hl with | [_], _ => rfl
  have m_shown := PySem.W.mg_of X G a_shown
  have F_number_in := fun_mk (st := s_number_in) l_number_in c_number_in k_number_in
  have B_number_in := F_number_in.binds (ps := ["text", "bound"]) fun _ _ _ _ _ _ us hl => match us, hl with | [_, _], _ => rfl
  have m_number_in := PySem.W.mg_of X G a_number_in
  have F_read_word := fun_mk (st := s_read_word) l_read_word c_read_word k_read_word
  have B_read_word := F_read_word.binds (ps := ["line"]) fun _ _ _ _ _ _ us hl => match us, hl with | [_], _ => rfl
  have m_read_word := PySem.W.mg_of X G a_read_word
  have F__law_line := fun_mk (st := s__law_line) l__law_line c__law_line k__law_line
  have B__law_line := F__law_line.binds (ps := ["word"]) fun _ _ _ _ _ _ us hl => match us, hl with | [_], _ => rfl
  have m__law_line := PySem.W.mg_of X G a__law_line
  have F__law_told := fun_mk (st := s__law_told) l__law_told c__law_told k__law_told
  have B__law_told := F__law_told.binds (ps := ["ask", "thing"]) fun _ _ _ _ _ _ us hl => match us, hl with | [_, _], _ => rfl
  have m__law_told := PySem.W.mg_of X G a__law_told
  have F__law_line_word := fun_mk (st := s__law_line_word) l__law_line_word c__law_line_word k__law_line_word
  have B__law_line_word := F__law_line_word.binds (ps := ["line"]) fun _ _ _ _ _ _ us hl => match us, hl with | [_], _ => rfl
  have m__law_line_word := PySem.W.mg_of X G a__law_line_word
  have F_law := fun_mk (st := s_law) l_law c_law k_law
  have B_law := F_law.binds (ps := ["script"]) fun _ _ _ _ _ _ us hl => match us, hl with | [_], _ => rfl
  have m_law := PySem.W.mg_of X G a_law
  have TK_DOING := tupK_of X G tk_DOING
  have m_SHAPES := PySem.W.mg_of X G a_SHAPES
  have KD_SHAPES : KTxt K w mg "SHAPES" [("HALT", .tuple [.int 0, .str "n"]), ("SET", .tuple [.int 1, .str "an"]), ("LOAD", .tuple [.int 3, .str "abn"]), ("STORE", .tuple [.int 4, .str "abn"]), ("GET", .tuple [.int 5, .str "an"]), ("PUT", .tuple [.int 6, .str "an"]), ("JUMP", .tuple [.int 7, .str "n"]), ("ZERO", .tuple [.int 8, .str "an"]), ("CALL", .tuple [.int 9, .str "an"]), ("BACK", .tuple [.int 10, .str "a"]), ("OUT", .tuple [.int 11, .str "a"]), ("IN", .tuple [.int 12, .str "a"])] := ⟨⟨_, m_SHAPES, ⟨⟨_, _, ⟨ld_SHAPES, lt_SHAPES, lw_SHAPES⟩, dd_SHAPES⟩⟩⟩⟩
  have m_InvalidCode := PySem.W.mg_of X G a_InvalidCode
  have X_InvalidCode : SupTxt l.prog K mg C_InvalidCode cc_InvalidCode cda_InvalidCode := { ox := ⟨⟨nm_InvalidCode, qu_InvalidCode, N_InvalidCode, bs_InvalidCode, bm_InvalidCode, sn_InvalidCode, sub_InvalidCode, ab_InvalidCode, col_InvalidCode, dd_InvalidCode, m0_InvalidCode, m1_InvalidCode, m2_InvalidCode, m3_InvalidCode, m5_InvalidCode, x_InvalidCode, v_InvalidCode⟩, sa_InvalidCode, e_InvalidCode, tt_InvalidCode, kc_InvalidCode⟩, mro := mr_InvalidCode, sup := su_InvalidCode, sub := sb_InvalidCode, third := th_InvalidCode, cell := ⟨_, _, _, ce_InvalidCode⟩, code := ⟨_, _, _, _, _, _, co_InvalidCode, cv_InvalidCode, cf_InvalidCode⟩, top := tp_InvalidCode, mgs := PySem.W.mg_none_of X G zs_InvalidCode }
  have R_InvalidCode : ErrT K mg "InvalidCode" C_InvalidCode "what" := ⟨m_InvalidCode, PySem.W.exm_ref e_InvalidCode hd_InvalidCode tt_InvalidCode ss_InvalidCode, ⟨ga_InvalidCode, gg_InvalidCode, e_InvalidCode, hd_InvalidCode⟩, n_InvalidCode⟩
  have m_InvalidState := PySem.W.mg_of X G a_InvalidState
  have X_InvalidState : SupTxt l.prog K mg C_InvalidState cc_InvalidState cda_InvalidState := { ox := ⟨⟨nm_InvalidState, qu_InvalidState, N_InvalidState, bs_InvalidState, bm_InvalidState, sn_InvalidState, sub_InvalidState, ab_InvalidState, col_InvalidState, dd_InvalidState, m0_InvalidState, m1_InvalidState, m2_InvalidState, m3_InvalidState, m5_InvalidState, x_InvalidState, v_InvalidState⟩, sa_InvalidState, e_InvalidState, tt_InvalidState, kc_InvalidState⟩, mro := mr_InvalidState, sup := su_InvalidState, sub := sb_InvalidState, third := th_InvalidState, cell := ⟨_, _, _, ce_InvalidState⟩, code := ⟨_, _, _, _, _, _, co_InvalidState, cv_InvalidState, cf_InvalidState⟩, top := tp_InvalidState, mgs := PySem.W.mg_none_of X G zs_InvalidState }
  have R_InvalidState : ErrT K mg "InvalidState" C_InvalidState "what" := ⟨m_InvalidState, PySem.W.exm_ref e_InvalidState hd_InvalidState tt_InvalidState ss_InvalidState, ⟨ga_InvalidState, gg_InvalidState, e_InvalidState, hd_InvalidState⟩, n_InvalidState⟩
  have m_InvalidLine := PySem.W.mg_of X G a_InvalidLine
  have X_InvalidLine : SupTxt l.prog K mg C_InvalidLine cc_InvalidLine cda_InvalidLine := { ox := ⟨⟨nm_InvalidLine, qu_InvalidLine, N_InvalidLine, bs_InvalidLine, bm_InvalidLine, sn_InvalidLine, sub_InvalidLine, ab_InvalidLine, col_InvalidLine, dd_InvalidLine, m0_InvalidLine, m1_InvalidLine, m2_InvalidLine, m3_InvalidLine, m5_InvalidLine, x_InvalidLine, v_InvalidLine⟩, sa_InvalidLine, e_InvalidLine, tt_InvalidLine, kc_InvalidLine⟩, mro := mr_InvalidLine, sup := su_InvalidLine, sub := sb_InvalidLine, third := th_InvalidLine, cell := ⟨_, _, _, ce_InvalidLine⟩, code := ⟨_, _, _, _, _, _, co_InvalidLine, cv_InvalidLine, cf_InvalidLine⟩, top := tp_InvalidLine, mgs := PySem.W.mg_none_of X G zs_InvalidLine }
  have R_InvalidLine : ErrT K mg "InvalidLine" C_InvalidLine "sign" := ⟨m_InvalidLine, PySem.W.exm_ref e_InvalidLine hd_InvalidLine tt_InvalidLine ss_InvalidLine, ⟨ga_InvalidLine, gg_InvalidLine, e_InvalidLine, hd_InvalidLine⟩, n_InvalidLine⟩
  have m_GateError := PySem.W.mg_of X G a_GateError
  have E_InvalidCode : ExcC K C_InvalidCode := ⟨ga_InvalidCode, gg_InvalidCode, e_InvalidCode, hd_InvalidCode, gc_InvalidCode, bg_GateError, bx_GateError, gm_InvalidCode⟩
  have M_InvalidCode : PySem.W.exmOne K (.ref C_InvalidCode) (.ref C_GateError) = some true := PySem.W.exm_ref be_GateError bh_GateError bt_GateError gs_InvalidCode
  have E_InvalidState : ExcC K C_InvalidState := ⟨ga_InvalidState, gg_InvalidState, e_InvalidState, hd_InvalidState, gc_InvalidState, bg_GateError, bx_GateError, gm_InvalidState⟩
  have M_InvalidState : PySem.W.exmOne K (.ref C_InvalidState) (.ref C_GateError) = some true := PySem.W.exm_ref be_GateError bh_GateError bt_GateError gs_InvalidState
  have E_InvalidLine : ExcC K C_InvalidLine := ⟨ga_InvalidLine, gg_InvalidLine, e_InvalidLine, hd_InvalidLine, gc_InvalidLine, bg_GateError, bx_GateError, gm_InvalidLine⟩
  have M_InvalidLine : PySem.W.exmOne K (.ref C_InvalidLine) (.ref C_GateError) = some true := PySem.W.exm_ref be_GateError bh_GateError bt_GateError gs_InvalidLine
  refine ⟨PySem.W.fnOf "law" "law" (defArgs s_law) (defBody s_law) (defScope s_law) .none kV_law dc_law pm_law an_law cd_law ct_law, fun s v => .of_eq rfl, fun base _ _ => ?_⟩
  have c_InvalidCode : Erm l.prog w K mg base 1 "InvalidCode" C_InvalidCode "what" := ⟨_, _, _, X_InvalidCode.ox, i_InvalidCode, t_InvalidCode, ok_err X_InvalidCode n_InvalidCode l_InvalidCode rfl c_InvalidCode (nscope_by (by decide +kernel)) rfl rfl rfl rfl rfl (fun _ => ⟨_, rfl⟩), Binds.all (fun us hl => match us, hl with | [_, _], _ => rfl), m_InvalidCode⟩
  have c_InvalidState : Erm l.prog w K mg base 1 "InvalidState" C_InvalidState "what" := ⟨_, _, _, X_InvalidState.ox, i_InvalidState, t_InvalidState, ok_err X_InvalidState n_InvalidState l_InvalidState rfl c_InvalidState (nscope_by (by decide +kernel)) rfl rfl rfl rfl rfl (fun _ => ⟨_, rfl⟩), Binds.all (fun us hl => match us, hl with | [_, _], _ => rfl), m_InvalidState⟩
  have c_InvalidLine : Erm l.prog w K mg base 1 "InvalidLine" C_InvalidLine "sign" := ⟨_, _, _, X_InvalidLine.ox, i_InvalidLine, t_InvalidLine, ok_err X_InvalidLine n_InvalidLine l_InvalidLine rfl c_InvalidLine (nscope_by (by decide +kernel)) rfl rfl rfl rfl rfl (fun _ => ⟨_, rfl⟩), Binds.all (fun us hl => match us, hl with | [_, _], _ => rfl), m_InvalidLine⟩
  have WT : WhyT K mg C_InvalidState C_InvalidCode C_InvalidLine C_GateError := {
    gC := m_GateError
    gS := m_InvalidState
    gc := m_InvalidCode
    gl := m_InvalidLine
    mS := M_InvalidState
    mC := M_InvalidCode
    mL := M_InvalidLine
    eS := E_InvalidState
    eC := E_InvalidCode
    eL := E_InvalidLine
    kCC := kit_self
    kSC := kit_not hd_InvalidCode tt_InvalidCode ss_InvalidState gk_InvalidState_InvalidCode
    kSL := kit_not hd_InvalidLine tt_InvalidLine ss_InvalidState gk_InvalidState_InvalidLine
    kSS := kit_self
    kLC := kit_not hd_InvalidCode tt_InvalidCode ss_InvalidLine gk_InvalidLine_InvalidCode
    kLL := kit_self
    xS := R_InvalidState.xf
    xC := R_InvalidCode.xf
    xL := R_InvalidLine.xf
    nS := n_InvalidState
    nC := n_InvalidCode
    nL := n_InvalidLine }
  have c_take : Cal l.prog w K mg base 1 "_law_take" spTake [] := ⟨_, _, _, _, ok_take F__law_take T, m__law_take, F__law_take.kp, B__law_take, .nil⟩
  have c_byte : Cal l.prog w K mg base 1 "is_byte" (spByte K) [] := ⟨_, _, _, _, ok_byte F_is_byte T, m_is_byte, F_is_byte.kp, B_is_byte, .nil⟩
  have c_count : Cal l.prog w K mg base 1 "is_count" (spCount K) [] := ⟨_, _, _, _, ok_count F_is_count T, m_is_count, F_is_count.kp, B_is_count, .nil⟩
  have c_repl : Cal l.prog w K mg base 1 "replaced" (spRepl K) [] := ⟨_, _, _, _, ok_repl F_replaced T, m_replaced, F_replaced.kp, B_replaced, .nil⟩
  have c_words : CalX l.prog w K mg base 3 "check_words" (spWords K C_InvalidCode) := ⟨_, _, _, ok_words F_check_words T c_InvalidCode, m_check_words, F_check_words.kp, B_check_words⟩
  have c_data : CalX l.prog w K mg base 3 "check_data" (spData K C_InvalidState) := ⟨_, _, _, ok_data F_check_data T c_InvalidState c_byte, m_check_data, F_check_data.kp, B_check_data⟩
  have c_state : CalX l.prog w K mg base 4 "check_state" (spState K C_InvalidState) := ⟨_, _, _, ok_state F_check_state T c_InvalidState c_byte c_count c_data, m_check_state, F_check_state.kp, B_check_state⟩
  have c_once : CalX l.prog w K mg base 5 "once" (spOnce K) := ⟨_, _, _, ok_once F_once T {
    fields := ⟨_, _, _, ok_fields F_fields_of T c_words, m_fields_of, F_fields_of.kp, B_fields_of⟩
    endOf := ⟨_, _, _, _, ok_end F_end_of T, m_end_of, F_end_of.kp, B_end_of, .nil⟩
    moved := ⟨_, _, _, _, ok_moved F_moved T {
      setR := ⟨_, _, _, _, ok_setR F_set_register T c_repl, m_set_register, F_set_register.kp, B_set_register, .nil⟩
      setD := ⟨_, _, _, _, ok_setD F_set_data T c_repl, m_set_data, F_set_data.kp, B_set_data, .nil⟩
      goTo := ⟨_, _, _, _, ok_goTo F_go_to T c_repl, m_go_to, F_go_to.kp, B_go_to, .nil⟩
      takeB := ⟨_, _, _, _, ok_takeB F_take_byte T c_repl, m_take_byte, F_take_byte.kp, B_take_byte, .nil⟩
      res := ⟨_, _, _, _, ok_res F_result_of T, m_result_of, F_result_of.kp, B_result_of, .nil⟩ }, m_moved, F_moved.kp, B_moved, .nil⟩ }, m_once, F_once.kp, B_once⟩
  have c_fieldsE : CalX l.prog w K mg base 4 "fields_of" (spFieldsE K C_InvalidCode) := ⟨_, _, _, ok_fieldsE F_fields_of T c_words, m_fields_of, F_fields_of.kp, B_fields_of⟩
  have c_shape : Cal l.prog w K mg base 1 "shape_of" (spShape K) [] := ⟨_, _, _, _, ok_shape F_shape_of T KD_SHAPES, m_shape_of, F_shape_of.kp, B_shape_of, .nil⟩
  have c_num : Cal l.prog w K mg base 1 "number_in" spNum [] := ⟨_, _, _, _, ok_num F_number_in T, m_number_in, F_number_in.kp, B_number_in, .nil⟩
  have c_wordof : CalX l.prog w K mg base 3 "word_of" (spWordOf K C_InvalidCode) := ⟨_, _, _, ok_wordof F_word_of T c_InvalidCode, m_word_of, F_word_of.kp, B_word_of⟩
  have c_firstE : CalX l.prog w K mg base 4 "first_state" (spFirstE K C_InvalidState) := ⟨_, _, _, ok_firstE F_first_state T c_data, m_first_state, F_first_state.kp, B_first_state⟩
  have CT : CalsT l.prog w K mg base C_InvalidState C_InvalidCode C_InvalidLine := {
    wordOf := c_wordof
    fields := c_fieldsE
    shown := ⟨_, _, _, ok_shown F_shown T c_fieldsE c_shape, m_shown, F_shown.kp, B_shown⟩
    read := ⟨_, _, _, ok_read F_read_word T KD_SHAPES TK_DOING c_InvalidLine c_num c_wordof, m_read_word, F_read_word.kp, B_read_word⟩
    first := c_firstE
    after := ⟨_, _, _, ok_afterE F_after T c_words c_state c_once, m_after, F_after.kp, B_after⟩ }
  exact ok_law F_law T {
    deck := ⟨_, _, _, _, ok_deck F__law_deck T, m__law_deck, F__law_deck.kp, B__law_deck, .nil⟩
    take := c_take
    plain := fun n => ⟨_, _, _, _, ok_plain F__law_plain T m__law_plain B__law_plain n, m__law_plain, F__law_plain.kp, B__law_plain, .nil⟩
    machine := ⟨_, _, _, _, ok_mach F__law_machine T, m__law_machine, F__law_machine.kp, B__law_machine, .nil⟩
    state := ⟨_, _, _, _, ok_lstate F__law_state T c_take, m__law_state, F__law_state.kp, B__law_state, .nil⟩
    word := ⟨_, _, _, _, ok_word F__law_drawn_word T c_take, m__law_drawn_word, F__law_drawn_word.kp, B__law_drawn_word, .nil⟩
    line := ⟨_, _, _, _, ok_line F__law_line T, m__law_line, F__law_line.kp, B__law_line, .nil⟩
    told := ⟨_, _, _, _, ok_told F__law_told T WT CT, m__law_told, F__law_told.kp, B__law_told, .nil⟩
    lw := ⟨_, _, _, _, ok_lw F__law_line_word T, m__law_line_word, F__law_line_word.kp, B__law_line_word, .nil⟩
    first := c_firstE }
theorem walk {l : PySem.W.OpenLaw} {q : Program} {loose : List Str} {XP : (Str → Option Value) → Heap → Prop} {YP : World → Heap → Prop} {d : DefRec} {K : Params → PySem.W.Frag} (hn : l.most = some 63) (hdf : d.params.defaults = [])
    (hY : ∀ (w : World) (h : Heap), YP w h → (K w.params).In h)
    (F : ∀ (w : World) (mg : Str → Option Value) (fa : Addr) (h : Heap), (K w.params).In h → h.Ns mainGlobals mg → mg d.name = some (.ref fa) →
      ∃ fd : FuncData, (∀ (s : Shared) (u : Value), BindsTo s fd ⟨[u], []⟩ [("script", u)]) ∧ ∀ base : Heap, (K w.params).In base → base.Ns mainGlobals mg → FnOk l.prog w (K w.params) mg base CX0 10 fa fd ["script"] (spLaw (K w.params))) :
    PySem.W.WalkO q loose XP YP l.row.toRowW d [] (fun f vs => PySem.call f vs) :=
  L2.walk_of (n := 63) (k := 10) (x := "script") (CX := fun _ => CX0) (sp := fun w => spLaw (K w.params)) hn (by decide) hdf ⟨rfl, by decide, by decide⟩ hY F (fun _ _ a ns hl _ hS => ⟨a, ns, rfl, hS, hl, fun _ => rfl⟩) fun _ _ _ _ _ z => z
end Q39

open PySem PySem.W PyProof.Rows in
set_option maxRecDepth 100000 in
set_option maxHeartbeats 0 in
theorem PySem.Challenge.cw_gatework_k39_words_holds : PySem.Challenge.rw_gatework_k39_words.Holds := by
  w_on; o_law; k_head; (case hw => w_witness2)
  k_fill
  refine Q39.walk (l := PySem.Challenge.rw_gatework_k39_words) rfl rfl (fun w h Y => PySem.W.kIn_of Y) ?F
  case F =>
    intro w mg fa h KX G hmg
    refine' Q39.all_mk KX G hmg ?a__law_deck ?l__law_deck ?c__law_deck ?k__law_deck ?a__law_take ?l__law_take ?c__law_take ?k__law_take ?a__law_plain ?l__law_plain ?c__law_plain ?k__law_plain ?a_check_words ?l_check_words ?c_check_words ?k_check_words ?a_fields_of ?l_fields_of ?c_fields_of ?k_fields_of ?a_is_byte ?l_is_byte ?c_is_byte ?k_is_byte ?a_is_count ?l_is_count ?c_is_count ?k_is_count ?a_check_data ?l_check_data ?c_check_data ?k_check_data ?a_check_state ?l_check_state ?c_check_state ?k_check_state ?a_first_state ?l_first_state ?c_first_state ?k_first_state ?a_replaced ?l_replaced ?c_replaced ?k_replaced ?a_result_of ?l_result_of ?c_result_of ?k_result_of ?a_set_register ?l_set_register ?c_set_register ?k_set_register ?a_set_data ?l_set_data ?c_set_data ?k_set_data ?a_go_to ?l_go_to ?c_go_to ?k_go_to ?a_take_byte ?l_take_byte ?c_take_byte ?k_take_byte ?a_moved ?l_moved ?c_moved ?k_moved ?a_end_of ?l_end_of ?c_end_of ?k_end_of ?a_once ?l_once ?c_once ?k_once ?a_after ?l_after ?c_after ?k_after ?a__law_machine ?l__law_machine ?c__law_machine ?k__law_machine ?a__law_state ?l__law_state ?c__law_state ?k__law_state ?a__law_drawn_word ?l__law_drawn_word ?c__law_drawn_word ?k__law_drawn_word ?a_word_of ?l_word_of ?c_word_of ?k_word_of ?a_shape_of ?l_shape_of ?c_shape_of ?k_shape_of ?a_shown ?l_shown ?c_shown ?k_shown ?a_number_in ?l_number_in ?c_number_in ?k_number_in ?a_read_word ?l_read_word ?c_read_word ?k_read_word ?a__law_line ?l__law_line ?c__law_line ?k__law_line ?a__law_told ?l__law_told ?c__law_told ?k__law_told ?a__law_line_word ?l__law_line_word ?c__law_line_word ?k__law_line_word ?a_law ?l_law ?c_law ?k_law ?z_abs ?z_all ?z_any ?z_bool ?z_int ?z_isinstance ?z_len ?z_list ?z_min ?z_range ?z_str ?z_tuple ?z_zip ?w_MOST_WORDS ?w_MOST_WORD ?w_ENDS ?w_REGISTERS ?w_DATA ?w_BYTE ?w_RANGES ?w_DOING ?tk_DOING ?a_SHAPES ?ld_SHAPES ?lt_SHAPES ?dd_SHAPES ?lw_SHAPES ?a_InvalidCode ?x_InvalidCode ?v_InvalidCode ?sa_InvalidCode ?ga_InvalidCode ?gg_InvalidCode ?n_InvalidCode ?i_InvalidCode ?t_InvalidCode ?l_InvalidCode ?c_InvalidCode ?kc_InvalidCode ?e_InvalidCode ?tt_InvalidCode ?hd_InvalidCode ?ic_InvalidCode ?ss_InvalidCode ?mr_InvalidCode ?su_InvalidCode ?sb_InvalidCode ?th_InvalidCode ?ce_InvalidCode ?co_InvalidCode ?cv_InvalidCode ?cf_InvalidCode ?tp_InvalidCode ?zs_InvalidCode ?a_InvalidState ?x_InvalidState ?v_InvalidState ?sa_InvalidState ?ga_InvalidState ?gg_InvalidState ?n_InvalidState ?i_InvalidState ?t_InvalidState ?l_InvalidState ?c_InvalidState ?kc_InvalidState ?e_InvalidState ?tt_InvalidState ?hd_InvalidState ?ic_InvalidState ?ss_InvalidState ?mr_InvalidState ?su_InvalidState ?sb_InvalidState ?th_InvalidState ?ce_InvalidState ?co_InvalidState ?cv_InvalidState ?cf_InvalidState ?tp_InvalidState ?zs_InvalidState ?a_InvalidLine ?x_InvalidLine ?v_InvalidLine ?sa_InvalidLine ?ga_InvalidLine ?gg_InvalidLine ?n_InvalidLine ?i_InvalidLine ?t_InvalidLine ?l_InvalidLine ?c_InvalidLine ?kc_InvalidLine ?e_InvalidLine ?tt_InvalidLine ?hd_InvalidLine ?ic_InvalidLine ?ss_InvalidLine ?mr_InvalidLine ?su_InvalidLine ?sb_InvalidLine ?th_InvalidLine ?ce_InvalidLine ?co_InvalidLine ?cv_InvalidLine ?cf_InvalidLine ?tp_InvalidLine ?zs_InvalidLine ?a_GateError ?be_GateError ?bh_GateError ?bt_GateError ?bg_GateError ?bx_GateError ?gs_InvalidCode ?gc_InvalidCode ?gm_InvalidCode ?gk_InvalidCode_InvalidState ?gk_InvalidCode_InvalidLine ?gs_InvalidState ?gc_InvalidState ?gm_InvalidState ?gk_InvalidState_InvalidCode ?gk_InvalidState_InvalidLine ?gs_InvalidLine ?gc_InvalidLine ?gm_InvalidLine ?gk_InvalidLine_InvalidCode ?gk_InvalidLine_InvalidState
    (case a_SHAPES => k_is)
    (case ld_SHAPES => k_is)
    (case a_InvalidCode => k_is)
    (case a_InvalidState => k_is)
    (case a_InvalidLine => k_is)
    (case a_GateError => k_is)
    (case a__law_deck => k_is)
    (case l__law_deck => k_is)
    (case c__law_deck => k_is)
    (case k__law_deck => k_is)
    (case a__law_take => k_is)
    (case l__law_take => k_is)
    (case c__law_take => k_is)
    (case k__law_take => k_is)
    (case a__law_plain => k_is)
    (case l__law_plain => k_is)
    (case c__law_plain => k_is)
    (case k__law_plain => k_is)
    (case a_check_words => k_is)
    (case l_check_words => k_is)
    (case c_check_words => k_is)
    (case k_check_words => k_is)
    (case a_fields_of => k_is)
    (case l_fields_of => k_is)
    (case c_fields_of => k_is)
    (case k_fields_of => k_is)
    (case a_is_byte => k_is)
    (case l_is_byte => k_is)
    (case c_is_byte => k_is)
    (case k_is_byte => k_is)
    (case a_is_count => k_is)
    (case l_is_count => k_is)
    (case c_is_count => k_is)
    (case k_is_count => k_is)
    (case a_check_data => k_is)
    (case l_check_data => k_is)
    (case c_check_data => k_is)
    (case k_check_data => k_is)
    (case a_check_state => k_is)
    (case l_check_state => k_is)
    (case c_check_state => k_is)
    (case k_check_state => k_is)
    (case a_first_state => k_is)
    (case l_first_state => k_is)
    (case c_first_state => k_is)
    (case k_first_state => k_is)
    (case a_replaced => k_is)
    (case l_replaced => k_is)
    (case c_replaced => k_is)
    (case k_replaced => k_is)
    (case a_result_of => k_is)
    (case l_result_of => k_is)
    (case c_result_of => k_is)
    (case k_result_of => k_is)
    (case a_set_register => k_is)
    (case l_set_register => k_is)
    (case c_set_register => k_is)
    (case k_set_register => k_is)
    (case a_set_data => k_is)
    (case l_set_data => k_is)
    (case c_set_data => k_is)
    (case k_set_data => k_is)
    (case a_go_to => k_is)
    (case l_go_to => k_is)
    (case c_go_to => k_is)
    (case k_go_to => k_is)
    (case a_take_byte => k_is)
    (case l_take_byte => k_is)
    (case c_take_byte => k_is)
    (case k_take_byte => k_is)
    (case a_moved => k_is)
    (case l_moved => k_is)
    (case c_moved => k_is)
    (case k_moved => k_is)
    (case a_end_of => k_is)
    (case l_end_of => k_is)
    (case c_end_of => k_is)
    (case k_end_of => k_is)
    (case a_once => k_is)
    (case l_once => k_is)
    (case c_once => k_is)
    (case k_once => k_is)
    (case a_after => k_is)
    (case l_after => k_is)
    (case c_after => k_is)
    (case k_after => k_is)
    (case a__law_machine => k_is)
    (case l__law_machine => k_is)
    (case c__law_machine => k_is)
    (case k__law_machine => k_is)
    (case a__law_state => k_is)
    (case l__law_state => k_is)
    (case c__law_state => k_is)
    (case k__law_state => k_is)
    (case a__law_drawn_word => k_is)
    (case l__law_drawn_word => k_is)
    (case c__law_drawn_word => k_is)
    (case k__law_drawn_word => k_is)
    (case a_word_of => k_is)
    (case l_word_of => k_is)
    (case c_word_of => k_is)
    (case k_word_of => k_is)
    (case a_shape_of => k_is)
    (case l_shape_of => k_is)
    (case c_shape_of => k_is)
    (case k_shape_of => k_is)
    (case a_shown => k_is)
    (case l_shown => k_is)
    (case c_shown => k_is)
    (case k_shown => k_is)
    (case a_number_in => k_is)
    (case l_number_in => k_is)
    (case c_number_in => k_is)
    (case k_number_in => k_is)
    (case a_read_word => k_is)
    (case l_read_word => k_is)
    (case c_read_word => k_is)
    (case k_read_word => k_is)
    (case a__law_line => k_is)
    (case l__law_line => k_is)
    (case c__law_line => k_is)
    (case k__law_line => k_is)
    (case a__law_told => k_is)
    (case l__law_told => k_is)
    (case c__law_told => k_is)
    (case k__law_told => k_is)
    (case a__law_line_word => k_is)
    (case l__law_line_word => k_is)
    (case c__law_line_word => k_is)
    (case k__law_line_word => k_is)
    (case a_law => k_is)
    (case l_law => k_is)
    (case c_law => k_is)
    (case k_law => k_is)
    (case z_abs => k_is)
    (case z_all => k_is)
    (case z_any => k_is)
    (case z_bool => k_is)
    (case z_int => k_is)
    (case z_isinstance => k_is)
    (case z_len => k_is)
    (case z_list => k_is)
    (case z_min => k_is)
    (case z_range => k_is)
    (case z_str => k_is)
    (case z_tuple => k_is)
    (case z_zip => k_is)
    (case w_MOST_WORDS => kernel_rfl)
    (case w_MOST_WORD => kernel_rfl)
    (case w_ENDS => kernel_rfl)
    (case w_REGISTERS => kernel_rfl)
    (case w_DATA => kernel_rfl)
    (case w_BYTE => kernel_rfl)
    (case w_RANGES => kernel_rfl)
    (case w_DOING => kernel_rfl)
    (case tk_DOING => kernel_rfl)
    (case lt_SHAPES => (repeat' (first | exact trivial | refine ⟨⟨_, _, rfl, rfl⟩, ?_⟩)))
    (case dd_SHAPES => kernel_rfl)
    (case lw_SHAPES => rfl)
    (case x_InvalidCode => k_is)
    (case v_InvalidCode => rfl)
    (case sa_InvalidCode => k_is)
    (case ga_InvalidCode => k_is)
    (case gg_InvalidCode => k_is)
    (case n_InvalidCode => k_is)
    (case i_InvalidCode => k_is)
    (case t_InvalidCode => k_is)
    (case l_InvalidCode => k_is)
    (case c_InvalidCode => k_is)
    (case kc_InvalidCode => k_is)
    (case e_InvalidCode => k_is)
    (case tt_InvalidCode => k_is)
    (case hd_InvalidCode => k_is)
    (case ic_InvalidCode => k_is)
    (case ss_InvalidCode => k_is)
    (case mr_InvalidCode => k_is)
    (case su_InvalidCode => ks_is)
    (case sb_InvalidCode => k_is)
    (case th_InvalidCode => k_is)
    (case ce_InvalidCode => k_is)
    (case co_InvalidCode => k_is)
    (case cv_InvalidCode => rfl)
    (case cf_InvalidCode => decide +kernel)
    (case tp_InvalidCode => decide +kernel)
    (case zs_InvalidCode => k_is)
    (case x_InvalidState => k_is)
    (case v_InvalidState => rfl)
    (case sa_InvalidState => k_is)
    (case ga_InvalidState => k_is)
    (case gg_InvalidState => k_is)
    (case n_InvalidState => k_is)
    (case i_InvalidState => k_is)
    (case t_InvalidState => k_is)
    (case l_InvalidState => k_is)
    (case c_InvalidState => k_is)
    (case kc_InvalidState => k_is)
    (case e_InvalidState => k_is)
    (case tt_InvalidState => k_is)
    (case hd_InvalidState => k_is)
    (case ic_InvalidState => k_is)
    (case ss_InvalidState => k_is)
    (case mr_InvalidState => k_is)
    (case su_InvalidState => ks_is)
    (case sb_InvalidState => k_is)
    (case th_InvalidState => k_is)
    (case ce_InvalidState => k_is)
    (case co_InvalidState => k_is)
    (case cv_InvalidState => rfl)
    (case cf_InvalidState => decide +kernel)
    (case tp_InvalidState => decide +kernel)
    (case zs_InvalidState => k_is)
    (case x_InvalidLine => k_is)
    (case v_InvalidLine => rfl)
    (case sa_InvalidLine => k_is)
    (case ga_InvalidLine => k_is)
    (case gg_InvalidLine => k_is)
    (case n_InvalidLine => k_is)
    (case i_InvalidLine => k_is)
    (case t_InvalidLine => k_is)
    (case l_InvalidLine => k_is)
    (case c_InvalidLine => k_is)
    (case kc_InvalidLine => k_is)
    (case e_InvalidLine => k_is)
    (case tt_InvalidLine => k_is)
    (case hd_InvalidLine => k_is)
    (case ic_InvalidLine => k_is)
    (case ss_InvalidLine => k_is)
    (case mr_InvalidLine => k_is)
    (case su_InvalidLine => ks_is)
    (case sb_InvalidLine => k_is)
    (case th_InvalidLine => k_is)
    (case ce_InvalidLine => k_is)
    (case co_InvalidLine => k_is)
    (case cv_InvalidLine => rfl)
    (case cf_InvalidLine => decide +kernel)
    (case tp_InvalidLine => decide +kernel)
    (case zs_InvalidLine => k_is)
    (case be_GateError => k_is)
    (case bh_GateError => k_is)
    (case bt_GateError => k_is)
    (case bg_GateError => k_is)
    (case bx_GateError => k_is)
    (case gs_InvalidCode => k_is)
    (case gc_InvalidCode => k_is)
    (case gm_InvalidCode => k_is)
    (case gk_InvalidCode_InvalidState => k_is)
    (case gk_InvalidCode_InvalidLine => k_is)
    (case gs_InvalidState => k_is)
    (case gc_InvalidState => k_is)
    (case gm_InvalidState => k_is)
    (case gk_InvalidState_InvalidCode => k_is)
    (case gk_InvalidState_InvalidLine => k_is)
    (case gs_InvalidLine => k_is)
    (case gc_InvalidLine => k_is)
    (case gm_InvalidLine => k_is)
    (case gk_InvalidLine_InvalidCode => k_is)
    (case gk_InvalidLine_InvalidState => k_is)

