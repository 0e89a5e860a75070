import PyProof.Rows.All
import Wide.All
import OpenK.AllK
import Wide.FinOn
import HandS.ForMost
import HandS.ForExc
import HandS.EndTab
import HandS.Flow
import HandS.Style
import HandS.TupAny
import HandS.TupLe
import HandS.IsInst
import HandS.ExcInit
import HandS.ExcField
import HandS.TryMany
import HandS.Small
import HandS.RaiseMore
import HandS.Conv
import HandS.Deep
import HandS.DictComp
import HandS.Codes
import HandS.Lambda
import HandS.Strs
import HandS.SetFor
import HandS.TupSets
import HandS.NoneIn
import HandS.Evl
import HandS.Walk
import KE.SortData
import KE.KExcMake
import KE.DataCmp
import KE.DataMinMax
import KE.GoesEnum
import KE.KeyNested
import KE.KDictKeyed
import HandS.JoinGen
import PySem.Challenge.RW_laidplates_k28_whole_texts_spoiled
set_option Elab.async false
set_option linter.all false
set_option maxRecDepth 100000
set_option maxHeartbeats 8000000
/-! # Words: the text by places, what the top has written, heaps that grow -/
namespace K28
open PySem PySem.Spec PyProof.Rows L2
open Evl (Ex ex_l ex_t)

def top (i : Nat) : Stmt := PySem.Challenge.pw_laidplates_k28_whole_texts_spoiled.main.body.getD i (.Pass ⟨0, 0, 0, 0⟩)

/-- a def of the module under its name -/
structure Dn (K : PySem.W.Frag) (mg : Str → Option Value) (x : Str) (st : Stmt) (ps : List Str) : Prop where
  ex : ∃ (f : Addr) (fd : FuncData), Fun K x x st f fd ∧ mg x = some (.ref f) ∧ Binds K fd ps []

section
variable {P : Program} {w : World} {K : PySem.W.Frag} {mg : Str → Option Value} {base : Heap}
theorem Dn.ok {x : Str} {st : Stmt} {N ps : List Str} {k : Nat} {sp : Sp} (F : Dn K mg x st ps) (S : FnScope N ps (defScope st)) (len : ∀ vs H Q E, sp vs H Q E → vs.length = ps.length)
    (body : ∀ (f : Addr) (cdv : Value) (A : Around) (outer : List Env) (s : Shared) (H : Hp) (vs : List V) (Q : VK) (E : XK), Room k (A.deeper (envOfC x (defScope st) s.heap.objs.size f cdv)) → sp vs H Q E →
      ∃ t, PSs (cxOf L2.CX0 P w K mg base N x (defScope st) f cdv A outer s H E).nox (defBody st) t ∧ t { nx := fun _ H' => Q .non H', rt := Q } (start N vs) H) : C8.Cal P w K mg base (k + 1) x sp [] := by
  obtain ⟨f, fd, F, m, b⟩ := F.ex
  exact ⟨f, fd, ps, [], F.ok S len (fun cdv A outer s H vs Q E hr h => body f cdv A outer s H vs Q E hr h), m, F.kp, b, .nil⟩
/-- a def that may raise, under its name -/
structure CalX (P : Program) (w : World) (K : PySem.W.Frag) (mg : Str → Option Value) (base : Heap) (k : Nat) (x : Str) (sp : Sp) : Prop where
  ex : ∃ (f : Addr) (fd : FuncData) (ps : List Str), FnOk P w K mg base (L2.CX P w) k f fd ps sp ∧ mg x = some (.ref f) ∧ PySem.W.keepIn K (.ref f) = true ∧ Binds K fd ps []
theorem Dn.okX {x : Str} {st : Stmt} {N ps : List Str} {k : Nat} {sp : Sp} (F : Dn K mg x st ps) (S : FnScope N ps (defScope st)) (len : ∀ vs H Q E, sp vs H Q E → vs.length = ps.length)
    (body : ∀ (f : Addr) (cdv : Value) (A : Around) (outer : List Env) (s : Shared) (H : Hp) (vs : List V) (Q : VK) (E : XK), Room k (A.deeper (envOfC x (defScope st) s.heap.objs.size f cdv)) → sp vs H Q E →
      ∃ t, PSs (cxOf (L2.CX P w) P w K mg base N x (defScope st) f cdv A outer s H E) (defBody st) t ∧ t { nx := fun _ H' => Q .non H', rt := Q } (start N vs) H) : CalX P w K mg base (k + 1) x sp := by
  obtain ⟨f, fd, F, m, b⟩ := F.ex
  exact ⟨f, fd, ps, F.okX S len (fun cdv A outer s H vs Q E hr h => body f cdv A outer s H vs Q E hr h), m, F.kp, b⟩
end
section
variable {X : Cx}
/-- a call of a def that may raise, at the caller's wish W -/
theorem pe_cX {k j : Nat} {x : Str} {sp : Sp} {p pos : Pos} {e : Expr} {es : List Expr} {t : TA} {W : WX} (c : CalX X.prog X.w X.K X.mg X.base k x sp) (hr : Room j X.A) (hk : k ≤ j) (hg : Gl X x) (tk : Takes X W) (ha : PA X (e :: es) t)
    (hdb : (x == ("__debug__" : Str)) = false := by decide) (he : starEach (e :: es) X.env = (false, eval e X.env) :: starEach es X.env := by rfl) (hpl : (backTo pos (starEach es X.env)).any (·.1) = false := by rfl) :
    PE X (.Call (.Name x p) (e :: es) [] pos) (tCallS sp (WE W) t) := by
  obtain ⟨f, fd, ps, F, m, kp, b⟩ := c.ex
  exact pe_callS F (hr.mono hk) hg m kp b (fun σ => passAt tk σ) ha hdb he hpl
end

/-! ### heaps that grow -/
/-- fresh for a later heap is fresh for an earlier one -/
theorem fr_back {H H' : Hp} {p : Addr} (e : Ex H H') (h : H' p = none) : H p = none := Evl.fresh_back e h
theorem Ex.of_same {H H' : Hp} (e : Same H H') : Ex H H' := e
/-- the object at p forgotten -/
def off (p : Addr) (H : Hp) : Hp := fun b => if b = p then none else H b
theorem off_same {p : Addr} {H : Hp} : off p H p = none := if_pos rfl
theorem off_ne {p b : Addr} {H : Hp} (h : b ≠ p) : off p H b = H b := if_neg h
theorem off_ex {p : Addr} {H : Hp} : Ex (off p H) H := fun b o e => by
  by_cases h : b = p
  · rw [h, off_same] at e; cases e
  · rw [off_ne h] at e; exact e
/-- all but the object at p stays -/
def ExB (p : Addr) (H H' : Hp) : Prop := ∀ b o, b ≠ p → H b = some o → H' b = some o
theorem ExB.refl (p : Addr) (H : Hp) : ExB p H H := fun _ _ _ h => h
theorem ExB.trans {p : Addr} {H H1 H2 : Hp} (a : ExB p H H1) (b : ExB p H1 H2) : ExB p H H2 := fun c o n h => b c o n (a c o n h)
theorem ExB.of {p : Addr} {H H' : Hp} (e : Ex H H') : ExB p H H' := fun b o _ h => e b o h
theorem ExB.ex {p : Addr} {G H H' : Hp} (e : ExB p H H') (g : Ex G H) (n : G p = none) : Ex G H' := fun b o h => e b o (ne_of_none h n) (g b o h)
theorem ExB.upd {p : Addr} {H H' : Hp} {o : HO} (e : ExB p H H') : ExB p H (upd H' p o) := fun b u n h => by rw [upd_ne n]; exact e b u n h
theorem ex_upd {G H : Hp} {p : Addr} {o : HO} (g : Ex G H) (n : G p = none) : Ex G (upd H p o) := fun b u h => by rw [upd_ne (ne_of_none h n)]; exact g b u h
theorem ex_add {G H : Hp} {p : Addr} {o : HO} (g : Ex G H) (h : H p = some o) : Ex (upd G p o) H := fun b u e => by
  by_cases hb : b = p
  · subst hb; rw [upd_same] at e; cases e; exact h
  · rw [upd_ne hb] at e; exact g b u e

/-- all but the lists stays -/
def ExL (H H' : Hp) : Prop := ∀ b o, H b = some o → (∀ xs, o ≠ .lst xs) → H' b = some o
theorem ExL.of {H H' : Hp} (e : Ex H H') : ExL H H' := fun b o h _ => e b o h
theorem ExL.refl (H : Hp) : ExL H H := fun _ _ h _ => h
theorem ExL.trans {H H1 H2 : Hp} (a : ExL H H1) (b : ExL H1 H2) : ExL H H2 := fun c o h n => b c o (a c o h n) n
theorem exl_upd {H : Hp} {p : Addr} {xs ys : List V} (h : H p = some (.lst xs)) : ExL H (upd H p (.lst ys)) := fun b o e n => by
  by_cases hb : b = p
  · subst hb; rw [h] at e; exact absurd (Option.some.inj e).symm (n xs)
  · rw [upd_ne hb]; exact e
theorem exl_t {K : PySem.W.Frag} {H H' : Hp} {a : Addr} {xs : List V} (e : ExL H H') (h : SqT K H a xs) : SqT K H' a xs := by
  rcases h with (h | ⟨o, h⟩) | h
  · exact .inl (.inl (e _ _ h (fun _ q => by cases q)))
  · exact .inl (.inr ⟨o, e _ _ h (fun _ q => by cases q)⟩)
  · exact .inr h
/-! ### sequences at an address -/
section
variable {K : PySem.W.Frag} {H H' : Hp} {a b : Addr} {xs ys : List V}
theorem tyT (h : SqT K H a xs) : TyX K H (.ref a) (.type "tuple") := by
  rcases h with (h | ⟨o, h⟩) | ⟨o, its, n, h, hc, _⟩
  · exact .base (.tup h)
  · exact .fTuple h
  · exact .kTuple h hc
theorem tyL (h : SqL K H a xs) : TyX K H (.ref a) (.type "list") := by
  rcases h with (h | ⟨o, h⟩) | ⟨o, its, n, h, hc, _⟩
  · exact .base (.lst h)
  · exact .base (.frz h)
  · exact .kList h hc
theorem len1 : (1 : Nat) ≤ sizeLine := by decide
theorem len2 : (2 : Nat) ≤ sizeLine := by decide
theorem len3 : (3 : Nat) ≤ sizeLine := by decide
theorem len4 : (4 : Nat) ≤ sizeLine := by decide
end

/-! ### what the top has written: names and constants -/
structure Txt (K : PySem.W.Frag) (mg : Str → Option Value) : Prop where
  isinstance : mg "isinstance" = none
  int : mg "int" = none
  bool : mg "bool" = none
  str : mg "str" = none
  tuple : mg "tuple" = none
  list : mg "list" = none
  dict : mg "dict" = none
  set : mg "set" = none
  len : mg "len" = none
  all : mg "all" = none
  max : mg "max" = none
  abs : mg "abs" = none
  range : mg "range" = none
  sorted : mg "sorted" = none
  enumerate : mg "enumerate" = none
  c_MOST_CELLS : ∃ u, mg "MOST_CELLS" = some u ∧ RelV (.int 8) u
  c_MOST_KINDS : ∃ u, mg "MOST_KINDS" = some u ∧ RelV (.int 40) u
  c_MOST_READS : ∃ u, mg "MOST_READS" = some u ∧ RelV (.int 3) u
  c_MOST_DEEDS : ∃ u, mg "MOST_DEEDS" = some u ∧ RelV (.int 400) u
  c_MOST_STEPS : ∃ u, mg "MOST_STEPS" = some u ∧ RelV (.int 400) u
  c_MOST_FIGURES : ∃ u, mg "MOST_FIGURES" = some u ∧ RelV (.int 9) u
  c_DO : ∃ u, mg "DO" = some u ∧ RelV (.str "do") u
  c_LAY : ∃ u, mg "LAY" = some u ∧ RelV (.str "lay") u
  c_NOTHING : ∃ u, mg "NOTHING" = some u ∧ RelV (.str "-") u
  c_FIGURES : ∃ u, mg "FIGURES" = some u ∧ RelV (.str "0123456789") u

/-! ### kinds -/
/-- a kind: the cell that it writes, those that it reads -/
abbrev Kd := Int × List Int
def KdAt (K : PySem.W.Frag) (H : Hp) (v : V) (k : Kd) : Prop := ∃ a r : Addr, v = .ref a ∧ SqT K H a [.int k.1, .ref r] ∧ SqT K H r (k.2.map V.int)
def KdsAt (K : PySem.W.Frag) (H : Hp) (a : Addr) (ks : List Kd) : Prop := ∃ xs : List V, SqT K H a xs ∧ Paired (KdAt K H) xs ks
section
variable {K : PySem.W.Frag} {H H' : Hp}
theorem KdAt.monoL {v : V} {k : Kd} (e : ExL H H') (h : KdAt K H v k) : KdAt K H' v k := by
  obtain ⟨a, r, e1, h1, h2⟩ := h
  exact ⟨a, r, e1, exl_t e h1, exl_t e h2⟩
theorem KdAt.mono {v : V} {k : Kd} (e : Ex H H') (h : KdAt K H v k) : KdAt K H' v k := h.monoL (.of e)
theorem KdsAt.monoL {a : Addr} {ks : List Kd} (e : ExL H H') (h : KdsAt K H a ks) : KdsAt K H' a ks := by
  obtain ⟨xs, h1, h2⟩ := h
  exact ⟨xs, exl_t e h1, Paired.mapP h2 fun _ _ q => q.monoL e⟩
theorem KdsAt.mono {a : Addr} {ks : List Kd} (e : Ex H H') (h : KdsAt K H a ks) : KdsAt K H' a ks := h.monoL (.of e)
end
theorem pair_len {α β : Type} {F : α → β → Prop} : ∀ {l : List α} {m : List β}, Paired F l m → l.length = m.length
  | _, _, .nil => rfl
  | _, _, .cons _ t => by rw [List.length_cons, List.length_cons, pair_len t]
theorem pair_get {α β : Type} {F : α → β → Prop} : ∀ {l : List α} {m : List β} {i : Nat} {x : α}, Paired F l m → l[i]? = some x → ∃ y, m[i]? = some y ∧ F x y
  | _, _, _, _, .nil, h => by simp at h
  | _, _, 0, x, .cons r _, h => by
    simp at h; subst h
    exact ⟨_, rfl, r⟩
  | _, _, i + 1, x, .cons _ t, h => pair_get (i := i) t (by simpa using h)
theorem pair_get2 {α β : Type} {F : α → β → Prop} : ∀ {l : List α} {m : List β} {i : Nat} {y : β}, Paired F l m → m[i]? = some y → ∃ x, l[i]? = some x ∧ F x y
  | _, _, _, _, .nil, h => by simp at h
  | _, _, 0, x, .cons r _, h => by
    simp at h; subst h
    exact ⟨_, rfl, r⟩
  | _, _, i + 1, x, .cons _ t, h => pair_get2 (i := i) t (by simpa using h)
theorem pair_app {α β : Type} {F : α → β → Prop} : ∀ {l l' : List α} {m m' : List β}, Paired F l m → Paired F l' m' → Paired F (l ++ l') (m ++ m')
  | _, _, _, _, .nil, s => s
  | _, _, _, _, .cons r t, s => .cons r (pair_app t s)
theorem map_get {α : Type} {f : α → V} {xs : List α} {i : Nat} {y : V} (h : (xs.map f)[i]? = some y) : ∃ z, xs[i]? = some z ∧ y = f z := by
  rw [List.getElem?_map] at h
  cases e : xs[i]? with
  | none => rw [e] at h; cases h
  | some z => rw [e] at h; exact ⟨z, rfl, (Option.some.inj h).symm⟩
theorem drop_get {α : Type} {xs : List α} {i : Nat} {y : α} (h : xs[i]? = some y) : xs.drop i = y :: xs.drop (i + 1) := by
  obtain ⟨hi, e⟩ := List.getElem?_eq_some_iff.mp h
  rw [List.drop_eq_getElem_cons hi, e]
theorem take_get {α : Type} {xs : List α} {i : Nat} {y : α} (h : xs[i]? = some y) : xs.take (i + 1) = xs.take i ++ [y] := by
  rw [List.take_add_one, h]; rfl

/-! ### what an expression gives, the heap having grown; comprehensions whose elements change nothing -/
def Gives (te : TE) (σ : L2.St) (H : Hp) (R : V → Hp → Prop) : Prop := ∀ Q : VK, (∀ y H', Ex H H' → R y H' → Q y H') → te σ H Q
theorem yes_of {σ : L2.St} {H : Hp} {A B : Bool → Hp → Prop} (h : A true H) : tYes σ H (fun b H3 => if b = true then A b H3 else B b H3) := by
  show if true = true then A true H else B true H
  rw [if_pos rfl]
  exact h
section
variable {J : It} {n j : Nat} {Gd : Hp → Prop} {Y : Nat → Hp → V → Hp → Prop} {te : TE} {vs : List Nat} {σ : L2.St} {H1 : Hp} {D : Addr} {Qd : Hp → Prop}
/-- [e for x in ..], a turn's value told by R -/
theorem lc_pure (hD : H1 D = none) (w : Walk J n Gd Y) (hY : ∀ i H x H', Y i H x H' → Ex H H') (hw : ∀ x, wipe ((wipe σ vs).set j (some x)) vs = wipe σ vs) (src : ∀ H, Ex H1 H → Gd H) (hn : n ≤ 100000) (R : Nat → V → Hp → Prop)
    (mono : ∀ i y H H', ExL H H' → R i y H → R i y H') (turn : ∀ i x H H', i < n → Ex H1 H → Y i H x H' → Gives te ((wipe σ vs).set j (some x)) H' (R i))
    (done : ∀ H acc, Ex H1 H → H D = some (.lst acc) → acc.length = n → (∀ (i : Nat) y, acc[i]? = some y → R i y H) → Qd H) :
    ∃ W : Nat → Nat → Hp → Prop, (∃ m, W 0 m (upd H1 D (.lst []))) ∧ ∀ i m H, W i m H →
      (J.stop i H ∧ Qd H) ∨ (J.go i H ∧ ∃ Nx : Hp → Prop, (∀ H', Nx H' → ∃ m', m' < m ∧ W (i + 1) m' H') ∧ ∀ x H', J.yld i H x H' → gName j x (wipe σ vs) H' fun σ2 H2 => wipe σ2 vs = wipe σ vs ∧ tYes σ2 H2 fun b H3 =>
        if b = true then te σ2 H3 fun y H4 => ∃ acc, H4 D = some (.lst acc) ∧ acc.length < sizeLine ∧ Nx (upd H4 D (.lst (acc ++ [y]))) else Nx H3) := by
  refine lc_it w (fun i H => Ex H1 H ∧ ∃ acc : List V, H D = some (.lst acc) ∧ acc.length = i ∧ ∀ k y, acc[k]? = some y → R k y H) ⟨ex_upd (Ex.refl H1) hD, [], upd_same, rfl, fun k y h => by simp at h⟩ (fun i H _ p => src H p.1) ?_ ?_
  · rintro i x H H' hi ⟨e, acc, hA, hl, hR⟩ y
    refine ⟨hw x, yes_of ?_⟩
    refine turn i x H H' hi e y _ fun v H4 e4 r => ?_
    have e2 : Ex H H4 := (hY i H x H' y).trans e4
    refine ⟨acc, e2 _ _ hA, Nat.lt_of_le_of_lt (by omega : acc.length ≤ 100000) (by decide), ex_upd (e.trans e2) hD, _, upd_same, by rw [List.length_append, List.length_singleton, hl], fun k u hk => ?_⟩
    have grow : ∀ {k u}, R k u H4 → R k u (upd H4 D (.lst (acc ++ [v]))) := fun {k u} q => mono k u _ _ (exl_upd (e2 _ _ hA)) q
    by_cases hk2 : k < acc.length
    · rw [List.getElem?_append_left hk2] at hk
      exact grow (mono k u _ _ (.of e2) (hR k u hk))
    · have : k = acc.length := by
        have := (List.getElem?_eq_some_iff.mp hk).1
        rw [List.length_append, List.length_singleton] at this
        omega
      subst this
      rw [List.getElem?_append_right (Nat.le_refl _), Nat.sub_self] at hk
      have : v = u := Option.some.inj hk
      subst this
      rw [hl]
      exact grow r
  · rintro H ⟨e, acc, hA, hl, hR⟩
    exact done H acc e hA hl hR
end
section
variable {xs : List V} {acc : List V}
/-- a list by its places -/
theorem acc_map {α : Type} {zs : List α} {f : α → V} (hl : acc.length = zs.length) (h : ∀ (i : Nat) (y : V), acc[i]? = some y → ∃ z : α, zs[i]? = some z ∧ y = f z) : acc = zs.map f := by
  apply List.ext_getElem?
  intro i
  rw [List.getElem?_map]
  cases e : acc[i]? with
  | none =>
    have h1 : acc.length ≤ i := List.getElem?_eq_none_iff.mp e
    rw [List.getElem?_eq_none_iff.mpr (by omega : zs.length ≤ i)]
    rfl
  | some y =>
    obtain ⟨z, hz, rfl⟩ := h i y e
    rw [hz]; rfl
theorem acc_pair {α : Type} {F : V → α → Prop} : ∀ {acc : List V} {zs : List α}, acc.length = zs.length → (∀ (i : Nat) (y : V), acc[i]? = some y → ∃ z : α, zs[i]? = some z ∧ F y z) → Paired F acc zs
  | [], [], _, _ => .nil
  | y :: acc, z :: zs, hl, h => by
    obtain ⟨z', hz, hf⟩ := h 0 y rfl
    have e : z = z' := Option.some.inj hz
    subst e
    exact .cons hf (acc_pair (by simpa using hl) fun i u hu => h (i + 1) u hu)
  | [], _ :: _, hl, _ => by simp at hl
  | _ :: _, [], hl, _ => by simp at hl
end
theorem yat_ex {xs : List V} : ∀ i H x H', YAt xs i H x H' → Ex H H' := fun _ H _ _ h => by rw [h.1]; exact Ex.refl H
theorem yfn_ex {f : Nat → V} : ∀ i H x H', YFn f i H x H' → Ex H H' := fun _ H _ _ h => by rw [h.1]; exact Ex.refl H
theorem ystr_ex {z : Str} : ∀ i H x H', (fun (i : Nat) (H : Hp) (v : V) (H' : Hp) => H' = H ∧ ∃ c, z.cps[i]? = some c ∧ v = V.str ⟨#[c]⟩) i H x H' → Ex H H' := fun _ H _ _ h => by rw [h.1]; exact Ex.refl H
end K28
/-! # Checks: is_integer, is_within, is_pair, is_lot, is_kind -/
namespace K28
open PySem PySem.Spec PyProof.Rows L2
open Evl (Ex ex_l ex_t)
section
variable {P : Program} {w : World} {K : PySem.W.Frag} {mg : Str → Option Value} {base : Heap}
abbrev s_is_integer : Stmt := top 7
abbrev N_is_integer : List Str := ["thing"]
abbrev p_is_integer : List Str := ["thing"]
theorem sc_is_integer : FnScope N_is_integer p_is_integer (defScope s_is_integer) := ⟨rfl, rfl, rfl, by decide +kernel, rfl, by decide +kernel, by decide +kernel⟩
def spIsInteger : Sp := fun vs H Q _ => ∃ i : Int, vs = [.int i] ∧ Q (.bl true) H
theorem ok_is_integer (D : Dn K mg "is_integer" s_is_integer p_is_integer) (T : Txt K mg) : C8.Cal P w K mg base 1 "is_integer" spIsInteger [] := by
  refine D.ok sc_is_integer (fun vs H Q E h => ?_) (fun f cdv A outer s H vs Q E hr h => ?_)
  · obtain ⟨i, rfl, _⟩ := h
    rfl
  obtain ⟨i, rfl, k⟩ := h
  refine ⟨_, (pss_one (ps_ret (pe_and (pe_callB call_isi (by rfl) T.isinstance (by decide +kernel) (pa_cons (pv 0) (pa_cons (pe_bltn (v := .ty "int") (by rfl) T.int (by decide +kernel) rfl) pa_nil))) (pe_one (pe_not (pe_callB call_isi (by rfl) T.isinstance (by decide +kernel) (pa_cons (pv 0) (pa_cons (pe_bltn (v := .ty "bool") (by rfl) T.bool (by decide +kernel) rfl) pa_nil)))))))), ?_⟩
  refine ⟨_, rfl, _, _, _, _, _, rfl, .ty _, .base (.int i), kit_ty (r := true) (by decide +kernel), _, rfl, iteT ?_⟩
  exact ⟨_, rfl, _, _, _, _, _, rfl, .ty _, .base (.int i), kit_ty (r := false) (by decide +kernel), _, rfl, k⟩
abbrev s_is_within : Stmt := top 8
abbrev N_is_within : List Str := ["thing", "least", "most"]
abbrev p_is_within : List Str := ["thing", "least", "most"]
theorem sc_is_within : FnScope N_is_within p_is_within (defScope s_is_within) := ⟨rfl, rfl, rfl, by decide +kernel, rfl, by decide +kernel, by decide +kernel⟩
def spIsWithin : Sp := fun vs H Q _ => ∃ i a b : Int, vs = [.int i, .int a, .int b] ∧ Q (.bl (decide (a ≤ i) && decide (i ≤ b))) H
theorem ok_is_within (D : Dn K mg "is_within" s_is_within p_is_within) (c_is_integer : C8.Cal P w K mg base 1 "is_integer" spIsInteger []) : C8.Cal P w K mg base 2 "is_within" spIsWithin [] := by
  refine D.ok sc_is_within (fun vs H Q E h => ?_) (fun f cdv A outer s H vs Q E hr h => ?_)
  · obtain ⟨i, a, b, rfl, _⟩ := h
    rfl
  obtain ⟨i, a, b, rfl, k⟩ := h
  refine ⟨_, (pss_one (ps_ret (pe_and (C8.pe_c c_is_integer hr (by decide) (by rfl) (pa_cons (pv 0) pa_nil)) (pe_one (pe_chain op_le op_le (pv 1) (pv 0) (pv 2)))))), ?_⟩
  refine ⟨_, rfl, i, rfl, _, rfl, iteT ⟨_, rfl, _, rfl, _, _, rfl, rfl, _, rfl, ?_⟩⟩
  by_cases h1 : a ≤ i
  · rw [decide_eq_true h1, Bool.true_and] at k
    rw [decide_eq_true h1]
    exact iteT ⟨_, rfl, _, _, rfl, rfl, k⟩
  · rw [decide_eq_false h1, Bool.false_and] at k
    rw [decide_eq_false h1]
    exact iteF k

abbrev s_is_pair : Stmt := top 9
abbrev N_is_pair : List Str := ["thing"]
abbrev p_is_pair : List Str := ["thing"]
theorem sc_is_pair : FnScope N_is_pair p_is_pair (defScope s_is_pair) := ⟨rfl, rfl, rfl, by decide +kernel, rfl, by decide +kernel, by decide +kernel⟩
def spIsPair (K : PySem.W.Frag) : Sp := fun vs H Q _ => ∃ (a : Addr) (xs : List V), vs = [.ref a] ∧ SqT K H a xs ∧ Q (.bl (decide (xs.length = 2))) H
theorem ok_is_pair (D : Dn K mg "is_pair" s_is_pair p_is_pair) (T : Txt K mg) : C8.Cal P w K mg base 1 "is_pair" (spIsPair K) [] := by
  refine D.ok sc_is_pair (fun vs H Q E h => ?_) (fun f cdv A outer s H vs Q E hr h => ?_)
  · obtain ⟨a, xs, rfl, _⟩ := h
    rfl
  obtain ⟨a, xs, rfl, hT, k⟩ := h
  refine ⟨_, (pss_one (ps_ret (pe_and (pe_callB call_isi (by rfl) T.isinstance (by decide +kernel) (pa_cons (pv 0) (pa_cons (pe_bltn (v := .ty "tuple") (by rfl) T.tuple (by decide +kernel) rfl) pa_nil))) (pe_one (pe_cmpR op_eq (pe_callB call_len_seq (by rfl) T.len (by decide +kernel) (pa_cons (pv 0) pa_nil)) pe_int (nomark _)))))), ?_⟩
  refine ⟨_, rfl, _, _, _, _, _, rfl, .ty _, tyT hT, kit_ty (r := true) (by decide +kernel), _, rfl, iteT ?_⟩
  refine ⟨_, rfl, a, _, rfl, .inr hT, rfl, ?_⟩
  have e : decide (V.int (xs.length : Int) = V.int 2) = decide (xs.length = 2) := decide_eq_decide.mpr ⟨fun h => by injection h with h; omega, fun h => by rw [h]; rfl⟩
  show Q (.bl (decide (V.int (xs.length : Int) = V.int 2))) H
  rw [e]
  exact k

/-- an ascending lot of numbers from lo to hi -/
def isLot : Int → Int → List Int → Bool
  | _, _, [] => true
  | lo, hi, n :: r => (decide (lo ≤ n) && decide (n ≤ hi)) && isLot (n + 1) hi r
abbrev s_is_lot : Stmt := top 10
abbrev N_is_lot : List Str := ["thing", "least", "most", "last", "number"]
abbrev p_is_lot : List Str := ["thing", "least", "most"]
theorem sc_is_lot : FnScope N_is_lot p_is_lot (defScope s_is_lot) := ⟨rfl, rfl, rfl, by decide +kernel, rfl, by decide +kernel, by decide +kernel⟩
def spIsLot (K : PySem.W.Frag) : Sp := fun vs H Q _ => ∃ (a : Addr) (ns : List Int) (lo hi : Int), vs = [.ref a, .int lo, .int hi] ∧ SqT K H a (ns.map V.int) ∧ Q (.bl (isLot lo hi ns)) H
theorem ok_is_lot (D : Dn K mg "is_lot" s_is_lot p_is_lot) (T : Txt K mg) (c_is_within : C8.Cal P w K mg base 2 "is_within" spIsWithin []) : C8.Cal P w K mg base 3 "is_lot" (spIsLot K) [] := by
  refine D.ok sc_is_lot (fun vs H Q E h => ?_) (fun f cdv A outer s H vs Q E hr h => ?_)
  · obtain ⟨a, ns, lo, hi, rfl, _⟩ := h
    rfl
  obtain ⟨a, ns, lo, hi, rfl, hT, k⟩ := h
  refine ⟨_, (pss_cons (ps_if (pt_not (pt_val (pe_callB call_isi (by rfl) T.isinstance (by decide +kernel) (pa_cons (pv 0) (pa_cons (pe_bltn (v := .ty "tuple") (by rfl) T.tuple (by decide +kernel) rfl) pa_nil))))) (pss_one (ps_ret pe_bl)) pss_nil)
  (pss_cons (ps_set (i := 3) sc_is_lot.nd rfl (Or.inl rfl) (pe_op op_sub (pv 1) pe_int))
  (pss_cons (ps_for PassesOwn.never rfl (pi_tup (pv 0)) (pg_name (i := 4) sc_is_lot.nd rfl (Or.inl rfl))
  (pss_cons (ps_if (pt_not (pt_val (C8.pe_c c_is_within hr (by decide) (by rfl) (pa_cons (pv 4) (pa_cons (pe_op op_add (pv 3) pe_int) (pa_cons (pv 2) pa_nil)))))) (pss_one (ps_ret pe_bl)) pss_nil)
  (pss_one (ps_set (i := 3) sc_is_lot.nd rfl (Or.inl rfl) (pv 4)))))
  (pss_one (ps_ret pe_bl))))), ?_⟩
  refine ⟨_, rfl, _, _, _, _, _, rfl, .ty _, tyT hT, kit_ty (r := true) (by decide +kernel), _, rfl, iteF ?_⟩
  refine ⟨_, rfl, _, _, rfl, rfl, ?_⟩
  refine ⟨_, rfl, a, rfl, ⟨_, hT⟩, for_tup (K := K) (a := a) (xs := ns.map V.int) (fun i σ H' => H' = H ∧ ∃ (last : Int) (y : Option V), σ = [some (.ref a), some (.int lo), some (.int hi), some (.int last), y] ∧ isLot lo hi ns = isLot (last + 1) hi (ns.drop i))
    ⟨rfl, lo - 1, none, rfl, by rw [Int.sub_add_cancel, List.drop_zero]⟩ (fun i σ H' _ h => by rw [h.1]; exact hT) ?_ ?_⟩
  · rintro i y σ H' hg ⟨rfl, last, y0, rfl, e⟩
    obtain ⟨n, hn, rfl⟩ := map_get hg
    rw [drop_get hn, isLot] at e
    refine ⟨_, rfl, _, rfl, _, _, rfl, rfl, _, rfl, _, _, _, rfl, _, rfl, ?_⟩
    cases hw : decide (last + 1 ≤ n) && decide (n ≤ hi) with
    | false =>
      refine iteT ?_
      rw [hw, Bool.false_and] at e
      rw [e] at k
      exact k
    | true =>
      refine iteF ⟨_, rfl, ?_⟩
      rw [hw, Bool.true_and] at e
      exact ⟨rfl, n, _, rfl, e⟩
  · rintro σ H' ⟨rfl, last, y0, rfl, e⟩
    rw [List.length_map, List.drop_length, isLot] at e
    rw [e] at k
    exact k

/-- a kind of so many cells -/
def isKind (n : Int) (k : Kd) : Bool := ((decide (0 ≤ k.1) && decide (k.1 ≤ n - 1)) && isLot 0 (n - 1) k.2) && decide (k.2.length ≤ 3)
abbrev s_is_kind : Stmt := top 16
abbrev N_is_kind : List Str := ["cells", "thing"]
abbrev p_is_kind : List Str := ["cells", "thing"]
theorem sc_is_kind : FnScope N_is_kind p_is_kind (defScope s_is_kind) := ⟨rfl, rfl, rfl, by decide +kernel, rfl, by decide +kernel, by decide +kernel⟩
def spIsKind (K : PySem.W.Frag) : Sp := fun vs H Q _ => ∃ (n : Int) (v : V) (k : Kd), vs = [.int n, v] ∧ KdAt K H v k ∧ Q (.bl (isKind n k)) H
theorem ok_is_kind (D : Dn K mg "is_kind" s_is_kind p_is_kind) (T : Txt K mg) (c_is_pair : C8.Cal P w K mg base 1 "is_pair" (spIsPair K) []) (c_is_within : C8.Cal P w K mg base 2 "is_within" spIsWithin [])
    (c_is_lot : C8.Cal P w K mg base 3 "is_lot" (spIsLot K) []) : C8.Cal P w K mg base 4 "is_kind" (spIsKind K) [] := by
  refine D.ok sc_is_kind (fun vs H Q E h => ?_) (fun f cdv A outer s H vs Q E hr h => ?_)
  · obtain ⟨n, v, k, rfl, _⟩ := h
    rfl
  obtain ⟨n, v, kd, rfl, ⟨a, r, rfl, h1, h2⟩, k⟩ := h
  refine ⟨_, (pss_cons (ps_if (PW.pt (pw_or (pt_not (pt_val (C8.pe_c c_is_pair hr (by decide) (by rfl) (pa_cons (pv 1) pa_nil)))) (pw_or1 (pt_not (pt_val (C8.pe_c c_is_within hr (by decide) (by rfl) (pa_cons (pe_ix ix_tup (pv 1) pe_int (fun _ _ => rfl)) (pa_cons pe_int (pa_cons (pe_op op_sub (pv 0) pe_int) pa_nil))))))))) (pss_one (ps_ret pe_bl)) pss_nil)
  (pss_one (ps_ret (pe_and (C8.pe_c c_is_lot hr (by decide) (by rfl) (pa_cons (pe_ix ix_tup (pv 1) pe_int (fun _ _ => rfl)) (pa_cons pe_int (pa_cons (pe_op op_sub (pv 0) pe_int) pa_nil)))) (pe_one (pe_cmpR op_le (pe_callB call_len_seq (by rfl) T.len (by decide +kernel) (pa_cons (pe_ix ix_tup (pv 1) pe_int (fun _ _ => rfl)) pa_nil)) (C8.pe_gc (by rfl) T.c_MOST_READS) (nomark _))))))), ?_⟩
  refine ⟨_, rfl, a, _, rfl, h1, _, rfl, iteF ?_⟩
  refine ⟨_, rfl, a, _, 0, _, rfl, rfl, h1, rfl, _, rfl, _, _, rfl, rfl, _, _, _, rfl, _, rfl, ?_⟩
  unfold isKind at k
  cases hw : decide (0 ≤ kd.1) && decide (kd.1 ≤ n - 1) with
  | false =>
    rw [hw, Bool.false_and, Bool.false_and] at k
    exact iteT k
  | true =>
    rw [hw, Bool.true_and] at k
    refine iteF ?_
    refine ⟨_, rfl, a, _, 1, _, rfl, rfl, h1, rfl, _, rfl, _, _, rfl, rfl, r, kd.2, _, _, rfl, h2, _, rfl, ?_⟩
    cases hl : isLot 0 (n - 1) kd.2 with
    | false =>
      rw [hl, Bool.false_and] at k
      exact iteF k
    | true =>
      rw [hl, Bool.true_and] at k
      refine iteT ⟨_, rfl, a, _, 1, _, rfl, rfl, h1, rfl, r, _, rfl, .inr h2, _, _, rfl, rfl, ?_⟩
      rw [List.length_map]
      have e : decide (((kd.2.length : Nat) : Int) ≤ 3) = decide (kd.2.length ≤ 3) := decide_eq_decide.mpr (by omega)
      show Q (.bl (decide (((kd.2.length : Nat) : Int) ≤ 3))) H
      rw [e]
      exact k
end
end K28
/-! # The plain law of numbers: a word of figures without needless zeros -/
namespace K28
open PySem PySem.Spec PyProof.Rows L2
def figs : List Nat := ("0123456789" : Str).cps.toList
theorem figs_is : figs = [48, 49, 50, 51, 52, 53, 54, 55, 56, 57] := by decide +kernel
theorem mem_figs (c : Nat) : c ∈ figs ↔ 48 ≤ c ∧ c ≤ 57 := by
  rw [figs_is]
  simp only [List.mem_cons, List.not_mem_nil, or_false]
  omega
/-- a word of one to nine figures -/
def numOk (x : Str) : Bool := (decide (1 ≤ x.length) && decide (x.length ≤ 9)) && x.cps.toList.all (fun c => decide (c ∈ figs))
/-- the number that a word tells -/
def numOf (x : Str) : Option Int := if numOk x = true then (if 1 < x.length ∧ x.cps.toList.head? = some 48 then none else some ((NumText.digitsVal x.cps.toList : Nat) : Int)) else none
theorem all_digits {x : Str} (h : numOk x = true) : NumText.AllDigits x.cps.toList := fun c hc => by
  unfold numOk at h
  rw [Bool.and_eq_true] at h
  have q := List.all_eq_true.mp h.2 c hc
  exact (mem_figs c).mp (of_decide_eq_true q)
theorem len_cps (x : Str) : x.length = x.cps.toList.length := by
  show x.cps.size = _
  rw [Array.length_toList]
theorem numOk_len {x : Str} (h : numOk x = true) : 1 ≤ x.length ∧ x.length ≤ 9 := by
  unfold numOk at h
  rw [Bool.and_eq_true, Bool.and_eq_true] at h
  exact ⟨of_decide_eq_true h.1.1, of_decide_eq_true h.1.2⟩
theorem numOk_ne {x : Str} (h : numOk x = true) : x.cps.toList ≠ [] := fun e => by
  have := (numOk_len h).1
  rw [len_cps, e] at this
  simp at this
theorem int_text {x : Str} (h : numOk x = true) : intText? x = some ((NumText.digitsVal x.cps.toList : Nat) : Int) :=
  PySem.intText_digits (all_digits h) (numOk_ne h) (by have := (numOk_len h).2; omega)
theorem val_lt : ∀ (cs : List Nat) (acc : Nat), NumText.AllDigits cs → cs.foldl (fun acc c => acc * 10 + (c - 48)) acc < (acc + 1) * 10 ^ cs.length
  | [], acc, _ => by simp
  | c :: cs, acc, h => by
    have h1 := h c List.mem_cons_self
    have ih := val_lt cs (acc * 10 + (c - 48)) (fun d hd => h d (List.mem_cons_of_mem _ hd))
    rw [List.foldl_cons, List.length_cons, Nat.pow_succ]
    refine Nat.lt_of_lt_of_le ih ?_
    have : acc * 10 + (c - 48) + 1 ≤ (acc + 1) * 10 := by
      have := h1.1; have := h1.2; omega
    calc (acc * 10 + (c - 48) + 1) * 10 ^ cs.length ≤ ((acc + 1) * 10) * 10 ^ cs.length := Nat.mul_le_mul_right _ this
      _ = (acc + 1) * (10 ^ cs.length * 10) := by rw [Nat.mul_assoc, Nat.mul_comm 10]
theorem digitsVal_lt {cs : List Nat} (h : NumText.AllDigits cs) : NumText.digitsVal cs < 10 ^ cs.length := by
  have := val_lt cs 0 h
  rw [Nat.zero_add, Nat.one_mul] at this
  exact this
theorem numOf_bd {x : Str} {n : Int} (h : numOf x = some n) : 0 ≤ n ∧ n < 1000000000 := by
  unfold numOf at h
  by_cases ok : numOk x = true
  · rw [if_pos ok] at h
    split at h
    · cases h
    · have e := Option.some.inj h
      have h1 := digitsVal_lt (all_digits ok)
      have h2 := (numOk_len ok).2
      rw [len_cps] at h2
      have h3 : 10 ^ x.cps.toList.length ≤ 10 ^ 9 := Nat.pow_le_pow_right (by decide) h2
      omega
  · rw [if_neg ok] at h
    cases h
/-- the text of the number is the word just if it has no needless zeros -/
theorem text_back {x : Str} (h : numOk x = true) : (x = Str.ofString (toString ((NumText.digitsVal x.cps.toList : Nat) : Int))) ↔ ¬ (1 < x.length ∧ x.cps.toList.head? = some 48) := by
  have hd := all_digits h
  have hne := numOk_ne h
  have e : (x = Str.ofString (toString ((NumText.digitsVal x.cps.toList : Nat) : Int))) ↔ x.cps.toList = TL.numL (NumText.digitsVal x.cps.toList) := by
    constructor
    · intro q
      have := congrArg (fun s : Str => s.cps.toList) q
      exact this.trans (TL.tl_num _)
    · intro q
      exact PySem.W.str_of_cps (q.trans (TL.tl_num _).symm)
  rw [e, len_cps]
  generalize x.cps.toList = cs at hd hne
  cases cs with
  | nil => exact absurd rfl hne
  | cons c r =>
    have hc := hd c List.mem_cons_self
    by_cases h1 : r = []
    · subst h1
      have : TL.numL (NumText.digitsVal [c]) = [c] := by
        have e1 : NumText.digitsVal [c] = c - 48 := by unfold NumText.digitsVal; simp
        rw [e1, TL.numL_lt (by omega)]
        have : 48 + (c - 48) = c := by omega
        rw [this]
      rw [this]
      simp
    · by_cases h2 : c = 48
      · subst h2
        constructor
        · intro q
          exfalso
          rw [NumText.digitsVal_zero] at q
          have h3 := digitsVal_lt (cs := r) (fun d hd' => hd d (List.mem_cons_of_mem _ hd'))
          have h4 := TL.numL_len (k := r.length) (by cases r with | nil => exact absurd rfl h1 | cons _ _ => simp) h3
          have h5 := congrArg List.length q
          rw [List.length_cons] at h5
          omega
        · intro q
          exfalso
          exact q ⟨by cases r with | nil => exact absurd rfl h1 | cons _ _ => simp, rfl⟩
      · constructor
        · intro _ q
          have := Option.some.inj q.2
          exact h2 this
        · intro _
          have h5 := NumText.toDigits_digitsVal r.length (c :: r) rfl hd (.inr ⟨c, r, rfl, by omega⟩)
          unfold TL.numL
          rw [h5, List.map_map]
          have : ∀ d ∈ c :: r, (Char.toNat ∘ Char.ofNat) d = d := fun d hd' => by
            have := hd d hd'
            show (Char.ofNat d).toNat = d
            have v : d.isValidChar := .inl (by omega)
            rw [Char.ofNat, dif_pos v]
            rfl
          rw [List.map_congr_left this, List.map_id']
          
/-- numbers of words -/
def numsOf : List Str → Option (List Int)
  | [] => some []
  | x :: r => match numOf x, numsOf r with
    | some n, some ns => some (n :: ns)
    | _, _ => none
/-- one number or none, as a value -/
def optV : Option Int → V
  | some n => .int n
  | none => .non
theorem numsOf_none : ∀ {xs : List Str}, numsOf xs = none ↔ none ∈ xs.map numOf
  | [] => by simp [numsOf]
  | x :: r => by
    have ih := numsOf_none (xs := r)
    unfold numsOf
    cases h1 : numOf x with
    | none => simp [h1]
    | some n =>
      cases h2 : numsOf r with
      | none => simp [h1, ih.mp h2]
      | some ns =>
        simp only [List.map_cons, h1, List.mem_cons, reduceCtorEq, false_or, iff_false, false_iff]
        intro q
        rw [ih.mpr q] at h2
        cases h2
theorem numsOf_some : ∀ {xs : List Str} {ns : List Int}, numsOf xs = some ns → xs.map numOf = ns.map some
  | [], ns, h => by
    have := Option.some.inj h
    subst this; rfl
  | x :: r, ns, h => by
    unfold numsOf at h
    cases h1 : numOf x with
    | none => rw [h1] at h; cases h
    | some n =>
      cases h2 : numsOf r with
      | none => rw [h1, h2] at h; cases h
      | some ms =>
        rw [h1, h2] at h
        have := Option.some.inj h
        subst this
        rw [List.map_cons, List.map_cons, h1, numsOf_some h2]
theorem numsOf_len {xs : List Str} {ns : List Int} (h : numsOf xs = some ns) : ns.length = xs.length := by
  have := congrArg List.length (numsOf_some h)
  rw [List.length_map, List.length_map] at this
  exact this.symm
theorem numsOf_bd {xs : List Str} {ns : List Int} (h : numsOf xs = some ns) : ∀ n ∈ ns, 0 ≤ n ∧ n < 1000000000 := fun n hn => by
  have e := numsOf_some h
  have h1 : some n ∈ ns.map some := List.mem_map.mpr ⟨n, hn, rfl⟩
  rw [← e] at h1
  obtain ⟨x, _, hx⟩ := List.mem_map.mp h1
  exact numOf_bd hx
end K28
/-! # Texts cut and glued: how long they are; slices of lists -/
namespace K28
open PySem PySem.Spec PyProof.Rows L2
/-- a mark of one sign -/
def IsMark (y : Str) : Prop := ∃ s : Nat, s < 256 ∧ y.cps.toList = [s]
theorem mark_blank : IsMark (" " : Str) := ⟨32, by decide, by decide +kernel⟩
theorem mark_comma : IsMark ("," : Str) := ⟨44, by decide, by decide +kernel⟩
theorem mark_line : IsMark ("\n" : Str) := ⟨10, by decide, by decide +kernel⟩
theorem IsMark.len {y : Str} (h : IsMark y) : y.length = 1 := by
  obtain ⟨s, _, e⟩ := h
  rw [TL.len_tl]
  show y.cps.toList.length = 1
  rw [e]; rfl
theorem IsMark.ne0 {y : Str} (h : IsMark y) : (y.length == 0) = false := by rw [h.len]; rfl
theorem spl_sum (s : Nat) : ∀ (l acc : List Nat), ((TL.spl [s] 0 acc l).map List.length).sum + (TL.spl [s] 0 acc l).length = acc.length + l.length + 1
  | [], acc => by rw [TL.spl_nil]; simp
  | c :: r, acc => by
    cases h : TL.pre [s] (c :: r) with
    | true =>
      rw [TL.spl_hit h]
      have ih := spl_sum s r []
      simp only [List.length_singleton, Nat.sub_self, List.map_cons, List.sum_cons, List.length_cons, List.length_nil] at ih ⊢
      omega
    | false =>
      rw [TL.spl_miss h]
      have ih := spl_sum s r (acc ++ [c])
      simp only [List.length_append, List.length_cons, List.length_nil] at ih ⊢
      omega
theorem split_sum (x : Str) {y : Str} (h : IsMark y) : ((Txt.split x y).map (·.length)).sum + (Txt.split x y).length = x.length + 1 := by
  obtain ⟨s, hs, e⟩ := h
  have q := TL.split_spl x y (by show y.cps.toList ≠ []; rw [e]; simp) (TL.kind_ok (by rw [← Array.all_toList, e]; simp [hs]))
  have ey : TL.tl y = [s] := e
  rw [ey] at q
  have z := spl_sum s (TL.tl x) []
  rw [← q, List.map_map, List.length_map] at z
  have e2 : (Txt.split x y).map (List.length ∘ TL.tl) = (Txt.split x y).map (·.length) := List.map_congr_left fun a _ => (TL.len_tl a).symm
  rw [e2, ← TL.len_tl, List.length_nil, Nat.zero_add] at z
  exact z
theorem split_pos (x : Str) {y : Str} (h : IsMark y) : 1 ≤ (Txt.split x y).length := by
  obtain ⟨s, hs, e⟩ := h
  have q := TL.split_spl x y (by show y.cps.toList ≠ []; rw [e]; simp) (TL.kind_ok (by rw [← Array.all_toList, e]; simp [hs]))
  have ey : TL.tl y = [s] := e
  rw [ey] at q
  have e3 := congrArg List.length q
  rw [List.length_map] at e3
  rw [e3]
  have key : ∀ (l acc : List Nat), 1 ≤ (TL.spl [s] 0 acc l).length := by
    intro l
    induction l with
    | nil => intro acc; rw [TL.spl_nil]; simp
    | cons c r ih =>
      intro acc
      cases h : TL.pre [s] (c :: r) with
      | true => rw [TL.spl_hit h]; simp
      | false => rw [TL.spl_miss h]; exact ih _
  exact key _ _
theorem sum_le {α : Type} (f : α → Nat) : ∀ (l : List α) (a : α), a ∈ l → f a ≤ (l.map f).sum
  | b :: l, a, h => by
    rw [List.map_cons, List.sum_cons]
    rcases List.mem_cons.mp h with rfl | h
    · omega
    · have := sum_le f l a h; omega
theorem split_piece {x y p : Str} (h : IsMark y) (hp : p ∈ Txt.split x y) : p.length ≤ x.length := by
  have h1 := split_sum x h
  have h2 := sum_le (fun z : Str => z.length) _ p hp
  have h3 := split_pos x h
  omega
theorem split_len (x : Str) {y : Str} (h : IsMark y) : (Txt.split x y).length ≤ x.length + 1 := by
  have h1 := split_sum x h
  omega
theorem joinL_len (S : List Nat) : ∀ ps : List (List Nat), (TL.joinL S ps).length ≤ (ps.map List.length).sum + ps.length * S.length
  | [] => by simp [TL.joinL]
  | [p] => by simp [TL.joinL]
  | p :: q :: r => by
    have ih := joinL_len S (q :: r)
    have e : TL.joinL S (p :: q :: r) = p ++ S ++ TL.joinL S (q :: r) := by simp [TL.joinL]
    rw [e]
    simp only [List.length_append, List.map_cons, List.sum_cons, List.length_cons, Nat.add_mul, Nat.one_mul] at ih ⊢
    omega
theorem join_len (a : Str) (ys : List Str) : (Txt.join a ys).length ≤ (ys.map (·.length)).sum + ys.length * a.length := by
  rw [TL.join_eq, TL.len_tl, TL.tl_join]
  have h := joinL_len (TL.tl a) (ys.map TL.tl)
  rw [List.map_map, List.length_map, ← TL.len_tl] at h
  have e2 : ys.map (List.length ∘ TL.tl) = ys.map (·.length) := List.map_congr_left fun a _ => (TL.len_tl a).symm
  rw [e2] at h
  exact h
theorem app_len (x y : Str) : (x ++ y).length = x.length + y.length := by
  rw [TL.len_tl, TL.tl_append, List.length_append, ← TL.len_tl, ← TL.len_tl]
/-! ### slices of lists -/
theorem cut_from (xs : List V) (n : Nat) : cutV xs (some (n : Int)) none = xs.drop n := by
  unfold cutV
  rw [HT.sIx_nat, HT.sIx_none]
  by_cases h : n ≤ xs.length
  · rw [Nat.min_eq_left h]
    exact List.take_of_length_le (by rw [List.length_drop]; omega)
  · rw [Nat.min_eq_right (by omega), List.drop_length, List.drop_of_length_le (by omega)]
    simp
theorem cut_to (xs : List V) (n : Nat) : cutV xs none (some (n : Int)) = xs.take n := by
  unfold cutV
  rw [HT.sIx_nat, HT.sIx_none, List.drop_zero, Nat.sub_zero]
  by_cases h : n ≤ xs.length
  · rw [Nat.min_eq_left h]
  · rw [Nat.min_eq_right (by omega), List.take_length, List.take_of_length_le (by omega)]
theorem cut_both (xs : List V) (n m : Nat) : cutV xs (some (n : Int)) (some (m : Int)) = (xs.drop n).take (m - n) := by
  unfold cutV
  rw [HT.sIx_nat, HT.sIx_nat]
  by_cases h : n ≤ xs.length
  · rw [Nat.min_eq_left h]
    by_cases h2 : m ≤ xs.length
    · rw [Nat.min_eq_left h2]
    · rw [Nat.min_eq_right (by omega), List.take_of_length_le (by rw [List.length_drop]; omega), List.take_of_length_le (by rw [List.length_drop]; omega)]
  · rw [Nat.min_eq_right (show xs.length ≤ n by omega), List.drop_length, List.drop_of_length_le (by omega : xs.length ≤ n)]
    simp
theorem cut_last (xs : List V) : cutV xs none (some (-1)) = xs.dropLast := by
  unfold cutV
  rw [HT.sIx_none, List.drop_zero, Nat.sub_zero, List.dropLast_eq_take]
  have e : HT.sIx xs.length xs.length (some (-1)) = xs.length - 1 := by
    unfold HT.sIx
    simp
    omega
  rw [e]
end K28
/-! # Words read as numbers: the program's and the law's -/
namespace K28
open PySem PySem.Spec PyProof.Rows L2
open Evl (Ex ex_l ex_t)
section
variable {P : Program} {w : World} {K : PySem.W.Frag} {mg : Str → Option Value} {base : Heap}
abbrev s_number_of : Stmt := top 39
abbrev N_number_of : List Str := ["word", "sign"]
abbrev p_number_of : List Str := ["word"]
theorem sc_number_of : FnScope N_number_of p_number_of (defScope s_number_of) := ⟨rfl, rfl, rfl, by decide +kernel, rfl, by decide +kernel, by decide +kernel⟩
/-- a word's number, or None; the heap has grown -/
def spNum : Sp := fun vs H Q _ => ∃ x : Str, vs = [.str x] ∧ x.length ≤ 100000 ∧ ∀ H', Ex H H' → Q (optV (numOf x)) H'
theorem numOf_no1 {x : Str} (h : ¬ 1 ≤ x.length) : numOf x = none := by
  unfold numOf numOk
  rw [decide_eq_false h, Bool.false_and, Bool.false_and, if_neg Bool.false_ne_true]
theorem numOf_no2 {x : Str} (h : ¬ x.length ≤ 9) : numOf x = none := by
  unfold numOf numOk
  rw [decide_eq_false h, Bool.and_false, Bool.false_and, if_neg Bool.false_ne_true]
theorem ok_number_of (D : Dn K mg "number_of" s_number_of p_number_of) (T : Txt K mg) : C8.Cal P w K mg base 1 "number_of" spNum [] := by
  refine D.ok sc_number_of (fun vs H Q E h => ?_) (fun f cdv A outer s H vs Q E hr h => ?_)
  · obtain ⟨x, rfl, _⟩ := h
    rfl
  obtain ⟨x, rfl, hl, k⟩ := h
  have hz : x.length ≤ sizeLine := Nat.le_trans hl (by decide)
  refine ⟨_, (pss_cons (ps_if (PW.pt (pw_or (pt_not (pt_chain op_le op_le pe_int (pe_callB call_len_str (by rfl) T.len (by decide +kernel) (pa_cons (pv 0) pa_nil)) (C8.pe_gc (by rfl) T.c_MOST_FIGURES))) (pw_or1 (pt_not (pt_val (pe_callB (cr_all rfl) (by rfl) T.all (by decide +kernel) (pa_cons (pe_lc (own := [("sign", 1)]) (g := gName 1) (tt := tYes) rfl sc_number_of.nd (pi_str (pv 0)) (blkOk_by (N := N_number_of) (sc := defScope s_number_of) (by decide +kernel)) (fun _ _ _ _ _ => (pg_name (i := 1) sc_number_of.nd rfl (Or.inl rfl))) (fun _ _ _ _ _ => pts_nil) (fun _ _ _ _ _ => (pe_cmpR op_in_sign (pv 1) (C8.pe_gc (by rfl) T.c_FIGURES) (by rfl)))) pa_nil))))))) (pss_one (ps_ret pe_non)) pss_nil)
  (pss_one (ps_ret (pe_ifExp (PW.pt (pw_and (pt_cmpR op_gt (pe_callB call_len_str (by rfl) T.len (by decide +kernel) (pa_cons (pv 0) pa_nil)) pe_int (nomark _)) (pw_and1 (pt_cmpR op_eq (pe_ix ix_str (pv 0) pe_int (fun _ _ => rfl)) pe_str (nomark _))))) pe_non (pe_callTy call_int_str (by rfl) T.int (by decide +kernel) (pa_cons (pv 0) pa_nil)))))), ?_⟩
  -- not 1 <= len(word) <= 9
  refine ⟨_, rfl, _, rfl, hz, _, _, rfl, rfl, _, rfl, ?_⟩
  refine ite2 (fun c1 => ?_) (fun c1 => ?_)
  rotate_left
  · have h1 : ¬ 1 ≤ x.length := fun q => c1 (decide_eq_true (by omega))
    refine ⟨_, rfl, iteT (iteT ?_)⟩
    rw [numOf_no1 h1] at k
    exact k H (Ex.refl H)
  have h1 : 1 ≤ x.length := by have := of_decide_eq_true c1; omega
  refine ⟨_, _, rfl, rfl, _, rfl, ?_⟩
  by_cases h2 : x.length ≤ 9
  rotate_left
  · rw [decide_eq_false (show ¬ (x.length : Int) ≤ 9 by omega)]
    refine iteT (iteT ?_)
    rw [numOf_no2 h2] at k
    exact k H (Ex.refl H)
  rw [decide_eq_true (show (x.length : Int) ≤ 9 by omega)]
  refine iteF ?_
  -- all([sign in FIGURES for sign in word])
  refine ⟨_, rfl, x, rfl, fun D hD => lc_pure hD walk_str ystr_ex (fun _ => rfl) (fun _ _ => trivial) (show x.cps.size ≤ 100000 from hl) (fun i y _ => ∃ c, x.cps.toList[i]? = some c ∧ y = V.bl (decide (c ∈ figs))) (fun _ _ _ _ _ h => h) ?_ ?_⟩
  · rintro i v H1 H2 _ _ ⟨rfl, c, hc, rfl⟩ Q' q
    refine ⟨_, rfl, c, _, rfl, rfl, q _ _ (Ex.refl _) ⟨c, by rw [Array.getElem?_toList]; exact hc, rfl⟩⟩
  · intro H1 acc e1 hA hn hR
    have ea : acc = (x.cps.toList.map fun c => decide (c ∈ figs)).map V.bl := by
      rw [List.map_map]
      refine acc_map (by rw [hn, Array.length_toList]) fun i y h => ?_
      obtain ⟨c, hc, e⟩ := hR i y h
      exact ⟨c, hc, e⟩
    rw [ea] at hA
    refine ⟨D, _, rfl, SqL.of hA, _, rfl, ?_⟩
    have eall : (x.cps.toList.map fun c => decide (c ∈ figs)).all id = x.cps.toList.all (fun c => decide (c ∈ figs)) := by
      rw [List.all_map]; rfl
    rw [eall]
    cases hf : x.cps.toList.all (fun c => decide (c ∈ figs)) with
    | false =>
      refine iteT ?_
      have en : numOf x = none := by
        unfold numOf numOk
        rw [hf, Bool.and_false, if_neg Bool.false_ne_true]
      rw [en] at k
      exact k H1 e1
    | true =>
      have ok : numOk x = true := by
        unfold numOk
        rw [hf, decide_eq_true h1, decide_eq_true h2]; rfl
      refine iteF ?_
      -- return None if len(word) > 1 and word[0] == "0" else int(word)
      refine ⟨_, rfl, _, rfl, hz, _, _, rfl, rfl, _, rfl, ?_⟩
      have toInt : ∀ q : ¬ (1 < x.length ∧ x.cps.toList.head? = some 48), Q (.int ((NumText.digitsVal x.cps.toList : Nat) : Int)) H1 := fun q => by
        have en : numOf x = some ((NumText.digitsVal x.cps.toList : Nat) : Int) := by
          unfold numOf
          rw [if_pos ok, if_neg q]
        rw [en] at k
        exact k H1 e1
      by_cases h3 : 1 < x.length
      · rw [decide_eq_true (show (1 : Int) < (x.length : Int) by omega)]
        refine iteT ?_
        obtain ⟨c, r, hcr⟩ : ∃ c r, x.cps.toList = c :: r := by
          cases e : x.cps.toList with
          | nil => exact absurd e (numOk_ne ok)
          | cons c r => exact ⟨c, r, rfl⟩
        refine ⟨_, rfl, x, 0, c, rfl, rfl, hz, atI_nat (j := 0) (by rw [hcr]; rfl), rfl, _, rfl, ?_⟩
        by_cases h4 : c = 48
        · subst h4
          rw [decide_eq_true (show V.str ⟨#[48]⟩ = V.str "0" by decide +kernel)]
          refine iteT ?_
          have en : numOf x = none := by
            unfold numOf
            rw [if_pos ok, if_pos ⟨h3, by rw [hcr]; rfl⟩]
          rw [en] at k
          exact k H1 e1
        · have hne : ¬ V.str ⟨#[c]⟩ = V.str "0" := fun q => h4 (by
            injection q with q
            have q2 := congrArg (fun s : Str => s.cps.toList) q
            have q3 : [c] = [48] := q2
            injection q3)
          rw [decide_eq_false hne]
          refine iteF ⟨_, rfl, x, _, rfl, int_text ok, by omega, toInt fun q => ?_⟩
          rw [hcr] at q
          exact h4 (Option.some.inj q.2)
      · rw [decide_eq_false (show ¬ (1 : Int) < (x.length : Int) by omega)]
        exact iteF (iteF ⟨_, rfl, x, _, rfl, int_text ok, by omega, toInt fun q => h3 q.1⟩)

/-! ### the numbers of some words -/
theorem mem_opt {x : Option Int} {l : List (Option Int)} : inV .non (l.map optV) = true ↔ none ∈ l := by
  unfold inV
  rw [List.any_map, List.any_eq_true]
  constructor
  · rintro ⟨y, hy, h⟩
    cases y with
    | none => exact hy
    | some n =>
      have h2 : eqV (V.int n) .non = true := h
      cases h2
  · intro h
    exact ⟨none, h, rfl⟩
theorem opt_flat (l : List (Option Int)) : (l.map optV).all flatV = true := by
  rw [List.all_map, List.all_eq_true]
  intro y _
  cases y <;> rfl
theorem opt_some {xs : List Str} {ns : List Int} (h : numsOf xs = some ns) : (xs.map numOf).map optV = ns.map V.int := by
  rw [numsOf_some h, List.map_map]
  rfl
/-- a tuple of the numbers, or None -/
def spNums (K : PySem.W.Frag) : Sp := fun vs H Q _ => ∃ (a : Addr) (xs : List Str), vs = [.ref a] ∧ SqL K H a (xs.map V.str) ∧ xs.length ≤ 100000 ∧ (∀ x ∈ xs, x.length ≤ 100000) ∧
  (numsOf xs = none → ∀ H', Ex H H' → Q .non H') ∧ (∀ ns, numsOf xs = some ns → ∀ H' t, Ex H H' → H' t = some (.tup (ns.map V.int)) → Q (.ref t) H')
abbrev s_numbers_of : Stmt := top 40
abbrev N_numbers_of : List Str := ["words", "found", "word"]
abbrev p_numbers_of : List Str := ["words"]
theorem sc_numbers_of : FnScope N_numbers_of p_numbers_of (defScope s_numbers_of) := ⟨rfl, rfl, rfl, by decide +kernel, rfl, by decide +kernel, by decide +kernel⟩
theorem ok_numbers_of (D : Dn K mg "numbers_of" s_numbers_of p_numbers_of) (T : Txt K mg) (c_number_of : C8.Cal P w K mg base 1 "number_of" spNum []) : C8.Cal P w K mg base 2 "numbers_of" (spNums K) [] := by
  refine D.ok sc_numbers_of (fun vs H Q E h => ?_) (fun f cdv A outer s H vs Q E hr h => ?_)
  · obtain ⟨a, xs, rfl, _⟩ := h
    rfl
  obtain ⟨a, xs, rfl, hL, hn, hx, k1, k2⟩ := h
  refine ⟨_, (pss_cons (ps_set (i := 1) sc_numbers_of.nd rfl (Or.inl rfl) (pe_callTy call_tuple_of (by rfl) T.tuple (by decide +kernel) (pa_cons (pe_lc (own := [("word", 2)]) (g := gName 2) (tt := tYes) rfl sc_numbers_of.nd (pi_list (pv 0)) (blkOk_by (N := N_numbers_of) (sc := defScope s_numbers_of) (by decide +kernel)) (fun _ _ _ _ _ => (pg_name (i := 2) sc_numbers_of.nd rfl (Or.inl rfl))) (fun _ _ _ _ _ => pts_nil) (fun _ _ _ _ _ => (C8.pe_c c_number_of hr (by decide) (by rfl) (pa_cons (pv 2) pa_nil)))) pa_nil)))
  (pss_one (ps_ret (pe_ifExp (pt_cmpR op_in_seq pe_non (pv 1) (by rfl)) pe_non (pv 1))))), ?_⟩
  refine ⟨_, rfl, a, rfl, ⟨_, hL⟩, fun D hD => lc_pure hD (walk_list (xs := xs.map V.str)) yat_ex (fun _ => rfl) (fun H' e => ex_l e hL) (by rw [List.length_map]; exact hn) (fun i y _ => ∃ x, xs[i]? = some x ∧ y = optV (numOf x)) (fun _ _ _ _ _ h => h) ?_ ?_⟩
  · rintro i v H1 H2 _ _ ⟨rfl, hv⟩ Q' q
    obtain ⟨x, hxi, rfl⟩ := map_get hv
    exact ⟨_, rfl, x, rfl, hx x (List.mem_of_getElem? hxi), fun H' e' => q _ _ e' ⟨x, hxi, rfl⟩⟩
  · intro H1 acc e1 hA hl hR
    have ea : acc = (xs.map numOf).map optV := by
      rw [List.map_map]
      exact acc_map (by rw [hl, List.length_map]) fun i y h => hR i y h
    rw [ea] at hA
    refine ⟨D, _, rfl, .inl ⟨SqL.of hA, fun t ht => ?_⟩⟩
    have e2 : Ex H (upd H1 t (.tup ((xs.map numOf).map optV))) := e1.trans (Ex.new ht)
    refine ⟨_, rfl, t, _, rfl, .inr (SqT.of upd_same), rfl, opt_flat _, _, rfl, ?_⟩
    refine ite2 (fun c => ?_) (fun c => ?_)
    · exact k1 (numsOf_none.mpr ((mem_opt (x := none)).mp c)) _ e2
    · cases hs : numsOf xs with
      | none => exact absurd ((mem_opt (x := none)).mpr (numsOf_none.mp hs)) c
      | some ns =>
        refine ⟨_, rfl, k2 ns hs _ t e2 ?_⟩
        rw [upd_same, opt_some hs]
abbrev s__law_number_of : Stmt := top 73
abbrev N__law_number_of : List Str := ["_law_word", "_law_sign"]
abbrev p__law_number_of : List Str := ["_law_word"]
theorem sc__law_number_of : FnScope N__law_number_of p__law_number_of (defScope s__law_number_of) := ⟨rfl, rfl, rfl, by decide +kernel, rfl, by decide +kernel, by decide +kernel⟩
theorem ok__law_number_of (D : Dn K mg "_law_number_of" s__law_number_of p__law_number_of) (T : Txt K mg) : C8.Cal P w K mg base 1 "_law_number_of" spNum [] := by
  refine D.ok sc__law_number_of (fun vs H Q E h => ?_) (fun f cdv A outer s H vs Q E hr h => ?_)
  · obtain ⟨x, rfl, _⟩ := h
    rfl
  obtain ⟨x, rfl, hl, k⟩ := h
  have hz : x.length ≤ sizeLine := Nat.le_trans hl (by decide)
  refine ⟨_, (pss_cons (ps_if (PW.pt (pw_or (pt_not (pt_chain op_le op_le pe_int (pe_callB call_len_str (by rfl) T.len (by decide +kernel) (pa_cons (pv 0) pa_nil)) pe_int)) (pw_or1 (pt_not (pt_val (pe_callB (cr_all rfl) (by rfl) T.all (by decide +kernel) (pa_cons (pe_lc (own := [("_law_sign", 1)]) (g := gName 1) (tt := tYes) rfl sc__law_number_of.nd (pi_str (pv 0)) (blkOk_by (N := N__law_number_of) (sc := defScope s__law_number_of) (by decide +kernel)) (fun _ _ _ _ _ => (pg_name (i := 1) sc__law_number_of.nd rfl (Or.inl rfl))) (fun _ _ _ _ _ => pts_nil) (fun _ _ _ _ _ => (pe_cmpR op_in_sign (pv 1) pe_str (by rfl)))) pa_nil))))))) (pss_one (ps_ret pe_non)) pss_nil)
  (pss_one (ps_ret (pe_ifExp (pt_cmpR op_ne (pv 0) (pe_callTy call_str_int (by rfl) T.str (by decide +kernel) (pa_cons (pe_callTy call_int_str (by rfl) T.int (by decide +kernel) (pa_cons (pv 0) pa_nil)) pa_nil)) (nomark _)) pe_non (pe_callTy call_int_str (by rfl) T.int (by decide +kernel) (pa_cons (pv 0) pa_nil)))))), ?_⟩
  refine ⟨_, rfl, _, rfl, hz, _, _, rfl, rfl, _, rfl, ?_⟩
  refine ite2 (fun c1 => ?_) (fun c1 => ?_)
  rotate_left
  · have h1 : ¬ 1 ≤ x.length := fun q => c1 (decide_eq_true (by omega))
    refine ⟨_, rfl, iteT (iteT ?_)⟩
    rw [numOf_no1 h1] at k
    exact k H (Ex.refl H)
  have h1 : 1 ≤ x.length := by have := of_decide_eq_true c1; omega
  refine ⟨_, _, rfl, rfl, _, rfl, ?_⟩
  by_cases h2 : x.length ≤ 9
  rotate_left
  · rw [decide_eq_false (show ¬ (x.length : Int) ≤ 9 by omega)]
    refine iteT (iteT ?_)
    rw [numOf_no2 h2] at k
    exact k H (Ex.refl H)
  rw [decide_eq_true (show (x.length : Int) ≤ 9 by omega)]
  refine iteF ?_
  refine ⟨_, rfl, x, rfl, fun D hD => lc_pure hD walk_str ystr_ex (fun _ => rfl) (fun _ _ => trivial) (show x.cps.size ≤ 100000 from hl) (fun i y _ => ∃ c, x.cps.toList[i]? = some c ∧ y = V.bl (decide (c ∈ figs))) (fun _ _ _ _ _ h => h) ?_ ?_⟩
  · rintro i v H1 H2 _ _ ⟨rfl, c, hc, rfl⟩ Q' q
    refine ⟨_, rfl, c, _, rfl, rfl, q _ _ (Ex.refl _) ⟨c, by rw [Array.getElem?_toList]; exact hc, rfl⟩⟩
  · intro H1 acc e1 hA hn hR
    have ea : acc = (x.cps.toList.map fun c => decide (c ∈ figs)).map V.bl := by
      rw [List.map_map]
      refine acc_map (by rw [hn, Array.length_toList]) fun i y h => ?_
      obtain ⟨c, hc, e⟩ := hR i y h
      exact ⟨c, hc, e⟩
    rw [ea] at hA
    refine ⟨D, _, rfl, SqL.of hA, _, rfl, ?_⟩
    have eall : (x.cps.toList.map fun c => decide (c ∈ figs)).all id = x.cps.toList.all (fun c => decide (c ∈ figs)) := by
      rw [List.all_map]; rfl
    rw [eall]
    cases hf : x.cps.toList.all (fun c => decide (c ∈ figs)) with
    | false =>
      refine iteT ?_
      have en : numOf x = none := by
        unfold numOf numOk
        rw [hf, Bool.and_false, if_neg Bool.false_ne_true]
      rw [en] at k
      exact k H1 e1
    | true =>
      have ok : numOk x = true := by
        unfold numOk
        rw [hf, decide_eq_true h1, decide_eq_true h2]; rfl
      refine iteF ?_
      -- return None if word != str(int(word)) else int(word)
      have hv := digitsVal_lt (all_digits ok)
      have hv2 : 10 ^ x.cps.toList.length ≤ 10 ^ 9 := Nat.pow_le_pow_right (by decide) (by rw [← len_cps]; exact h2)
      have hlog : ((NumText.digitsVal x.cps.toList : Nat) : Int).natAbs.log2 < 1920 := by
        rw [Int.natAbs_natCast]
        exact Nat.lt_of_le_of_lt (Nat.log2_le_self _) (by omega) |> fun h => by
          by_cases z : NumText.digitsVal x.cps.toList = 0
          · rw [z]; decide
          · exact (Nat.log2_lt z).mpr (Nat.lt_of_lt_of_le hv (Nat.le_trans hv2 (Nat.le_trans (by decide : 10 ^ 9 ≤ 2 ^ 30) (Nat.pow_le_pow_right (by decide) (by decide)))))
      refine ⟨_, rfl, _, rfl, x, _, rfl, int_text ok, by omega, _, rfl, hlog, rfl, _, rfl, ?_⟩
      by_cases hb : x = Str.ofString (toString ((NumText.digitsVal x.cps.toList : Nat) : Int))
      · have e : V.str x = V.str (Str.ofString (toString ((NumText.digitsVal x.cps.toList : Nat) : Int))) := congrArg V.str hb
        rw [decide_eq_true e]
        refine iteF ⟨_, rfl, x, _, rfl, int_text ok, by omega, ?_⟩
        have en : numOf x = some ((NumText.digitsVal x.cps.toList : Nat) : Int) := by
          unfold numOf
          rw [if_pos ok, if_neg ((text_back ok).mp hb)]
        rw [en] at k
        exact k H1 e1
      · have e : ¬ V.str x = V.str (Str.ofString (toString ((NumText.digitsVal x.cps.toList : Nat) : Int))) := fun q => hb (by injection q)
        rw [decide_eq_false e]
        refine iteT ?_
        have en : numOf x = none := by
          unfold numOf
          rw [if_pos ok, if_pos (Decidable.of_not_not fun q => hb ((text_back ok).mpr q))]
        rw [en] at k
        exact k H1 e1
abbrev s__law_numbers_of : Stmt := top 74
abbrev N__law_numbers_of : List Str := ["_law_words", "_law_found", "_law_word"]
abbrev p__law_numbers_of : List Str := ["_law_words"]
theorem sc__law_numbers_of : FnScope N__law_numbers_of p__law_numbers_of (defScope s__law_numbers_of) := ⟨rfl, rfl, rfl, by decide +kernel, rfl, by decide +kernel, by decide +kernel⟩
theorem ok__law_numbers_of (D : Dn K mg "_law_numbers_of" s__law_numbers_of p__law_numbers_of) (T : Txt K mg) (c__law_number_of : C8.Cal P w K mg base 1 "_law_number_of" spNum []) : C8.Cal P w K mg base 2 "_law_numbers_of" (spNums K) [] := by
  refine D.ok sc__law_numbers_of (fun vs H Q E h => ?_) (fun f cdv A outer s H vs Q E hr h => ?_)
  · obtain ⟨a, xs, rfl, _⟩ := h
    rfl
  obtain ⟨a, xs, rfl, hL, hn, hx, k1, k2⟩ := h
  refine ⟨_, (pss_cons (ps_setLc (i := 1) (own := [("_law_word", 2)]) (g := gName 2) (tt := tYes) rfl sc__law_numbers_of.nd rfl rfl (sw_true rfl rfl rfl (by decide +kernel)) (pi_list (pv 0)) (blkOk_by (N := N__law_numbers_of) (sc := defScope s__law_numbers_of) (by decide +kernel)) (fun _ _ _ _ _ => (pg_name (i := 2) sc__law_numbers_of.nd rfl (Or.inl rfl))) (fun _ _ _ _ _ => pts_nil) (fun _ _ _ _ _ => (C8.pe_c c__law_number_of hr (by decide) (by rfl) (pa_cons (pv 2) pa_nil))))
  (pss_one (ps_ret (pe_ifExp (pt_cmpR op_in_seq pe_non (pv 1) (by rfl)) pe_non (pe_callTy call_tuple_of (by rfl) T.tuple (by decide +kernel) (pa_cons (pv 1) pa_nil)))))), ?_⟩
  refine ⟨_, rfl, a, rfl, ⟨_, hL⟩, fun D hD => lc_pure hD (walk_list (xs := xs.map V.str)) yat_ex (fun _ => rfl) (fun H' e => ex_l e hL) (by rw [List.length_map]; exact hn) (fun i y _ => ∃ x, xs[i]? = some x ∧ y = optV (numOf x)) (fun _ _ _ _ _ h => h) ?_ ?_⟩
  · rintro i v H1 H2 _ _ ⟨rfl, hv⟩ Q' q
    obtain ⟨x, hxi, rfl⟩ := map_get hv
    exact ⟨_, rfl, x, rfl, hx x (List.mem_of_getElem? hxi), fun H' e' => q _ _ e' ⟨x, hxi, rfl⟩⟩
  · intro H1 acc e1 hA hl hR
    have ea : acc = (xs.map numOf).map optV := by
      rw [List.map_map]
      exact acc_map (by rw [hl, List.length_map]) fun i y h => hR i y h
    rw [ea] at hA
    refine ⟨_, rfl, D, _, rfl, .inl (SqL.of hA), rfl, opt_flat _, _, rfl, ?_⟩
    refine ite2 (fun c => ?_) (fun c => ?_)
    · exact k1 (numsOf_none.mpr ((mem_opt (x := none)).mp c)) _ e1
    · cases hs : numsOf xs with
      | none => exact absurd ((mem_opt (x := none)).mpr (numsOf_none.mp hs)) c
      | some ns =>
        refine ⟨_, rfl, D, _, rfl, .inl ⟨SqL.of hA, fun t ht => ?_⟩⟩
        refine k2 ns hs _ t (e1.trans (Ex.new ht)) ?_
        rw [upd_same, opt_some hs]
end
end K28
/-! # Lines of a table, the program's -/
namespace K28
open PySem PySem.Spec PyProof.Rows L2
open Evl (Ex ex_l ex_t)
/-- how many cells the first line tells -/
def cellsOf (x : Str) : Option Int := match Txt.split x " " with
  | [a, b] => if a = "cells" then numOf b else none
  | _ => none
/-- the kind that a line tells -/
def kindOf (x : Str) : Option Kd := match Txt.split x " " with
  | a :: r => if a = "kind" then (match numsOf r with
    | some (n :: ns) => some (n, ns)
    | _ => none) else none
  | [] => none
theorem len_eq {a b : Nat} : decide (V.int (a : Int) = V.int (b : Int)) = decide (a = b) := decide_eq_decide.mpr ⟨fun h => by injection h with h; omega, fun h => by rw [h]⟩
theorem str_eq {a b : Str} : decide (V.str a = V.str b) = decide (a = b) := decide_eq_decide.mpr ⟨fun h => by injection h, fun h => by rw [h]⟩
section
variable {P : Program} {w : World} {K : PySem.W.Frag} {mg : Str → Option Value} {base : Heap}
def spCellsOf : Sp := fun vs H Q _ => ∃ x : Str, vs = [.str x] ∧ x.length ≤ 90000 ∧ ∀ H', Ex H H' → Q (optV (cellsOf x)) H'
abbrev s_cells_of : Stmt := top 41
abbrev N_cells_of : List Str := ["line", "words"]
abbrev p_cells_of : List Str := ["line"]
theorem sc_cells_of : FnScope N_cells_of p_cells_of (defScope s_cells_of) := ⟨rfl, rfl, rfl, by decide +kernel, rfl, by decide +kernel, by decide +kernel⟩
theorem ok_cells_of (D : Dn K mg "cells_of" s_cells_of p_cells_of) (T : Txt K mg) (c_number_of : C8.Cal P w K mg base 1 "number_of" spNum []) : C8.Cal P w K mg base 2 "cells_of" spCellsOf [] := by
  refine D.ok sc_cells_of (fun vs H Q E h => ?_) (fun f cdv A outer s H vs Q E hr h => ?_)
  · obtain ⟨x, rfl, _⟩ := h
    rfl
  obtain ⟨x, rfl, hl, k⟩ := h
  have hz : x.length + 2 ≤ sizeLine := Nat.le_trans (by omega : x.length + 2 ≤ 100000) (by decide)
  have hp1 := split_pos x mark_blank
  have hpc : ∀ p ∈ Txt.split x " ", p.length ≤ 90000 := fun p hp => Nat.le_trans (split_piece mark_blank hp) hl
  unfold cellsOf at k
  refine ⟨_, (pss_cons (ps_set (i := 1) sc_cells_of.nd rfl (Or.inl rfl) (pe_split (pv 0) pe_str))
  (pss_one (ps_ret (pe_ifExp (PW.pt (pw_and (pt_cmpR op_eq (pe_callB call_len_seq (by rfl) T.len (by decide +kernel) (pa_cons (pv 1) pa_nil)) pe_int (nomark _)) (pw_and1 (pt_cmpR op_eq (pe_ix ix_list (pv 1) pe_int (fun _ _ => rfl)) pe_str (nomark _))))) (C8.pe_c c_number_of hr (by decide) (by rfl) (pa_cons (pe_ix ix_list (pv 1) pe_int (fun _ _ => rfl)) pa_nil)) pe_non)))), ?_⟩
  refine ⟨_, rfl, ⟨x, rfl⟩, x, _, rfl, rfl, mark_blank.ne0, hz, fun p hp => ?_⟩
  have e1 : Ex H (upd H p (.lst ((Txt.split x " ").map V.str))) := Ex.new hp
  have hL : SqL K (upd H p (.lst ((Txt.split x " ").map V.str))) p ((Txt.split x " ").map V.str) := SqL.of upd_same
  generalize upd H p (.lst ((Txt.split x " ").map V.str)) = H1 at e1 hL
  generalize Txt.split x " " = ws at hL k hp1 hpc
  refine ⟨_, rfl, p, _, rfl, .inl hL, rfl, _, rfl, ?_⟩
  rw [List.length_map]
  show if decide (V.int ((ws.length : Nat) : Int) = V.int ((2 : Nat) : Int)) = true then _ else _
  rw [len_eq]
  match ws, k, hp1, hpc, hL with
  | [], _, h, _, _ => simp at h
  | [a], k, _, _, _ =>
    refine iteF (iteF ?_)
    exact k _ e1
  | [a, b], k, _, hpc, hL =>
    refine iteT ⟨_, rfl, p, _, 0, _, rfl, rfl, hL, rfl, rfl, _, rfl, ?_⟩
    rw [str_eq]
    by_cases h : a = "cells"
    · rw [decide_eq_true h]
      refine iteT ⟨_, rfl, p, _, 1, _, rfl, rfl, hL, rfl, b, rfl, ?_, fun H' e' => ?_⟩
      · have := hpc b (by simp)
        omega
      · have k' : ∀ H', Ex H H' → Q (optV (if a = "cells" then numOf b else none)) H' := k
        rw [if_pos h] at k'
        exact k' _ (e1.trans e')
    · rw [decide_eq_false h]
      refine iteF ?_
      have k' : ∀ H', Ex H H' → Q (optV (if a = "cells" then numOf b else none)) H' := k
      rw [if_neg h] at k'
      exact k' _ e1
  | a :: b :: c :: r, k, _, _, _ =>
    rw [decide_eq_false (by simp)]
    refine iteF (iteF ?_)
    exact k _ e1
def spKindOf (K : PySem.W.Frag) : Sp := fun vs H Q _ => ∃ x : Str, vs = [.str x] ∧ x.length ≤ 90000 ∧ (kindOf x = none → ∀ H', Ex H H' → Q .non H') ∧ (∀ k, kindOf x = some k → ∀ H' v, Ex H H' → KdAt K H' v k → Q v H')
abbrev s_kind_of : Stmt := top 42
abbrev N_kind_of : List Str := ["line", "words", "found"]
abbrev p_kind_of : List Str := ["line"]
theorem sc_kind_of : FnScope N_kind_of p_kind_of (defScope s_kind_of) := ⟨rfl, rfl, rfl, by decide +kernel, rfl, by decide +kernel, by decide +kernel⟩
theorem ok_kind_of (D : Dn K mg "kind_of" s_kind_of p_kind_of) (T : Txt K mg) (c_numbers_of : C8.Cal P w K mg base 2 "numbers_of" (spNums K) []) : C8.Cal P w K mg base 3 "kind_of" (spKindOf K) [] := by
  refine D.ok sc_kind_of (fun vs H Q E h => ?_) (fun f cdv A outer s H vs Q E hr h => ?_)
  · obtain ⟨x, rfl, _⟩ := h
    rfl
  obtain ⟨x, rfl, hl, k1, k2⟩ := h
  have hz : x.length + 2 ≤ sizeLine := Nat.le_trans (by omega : x.length + 2 ≤ 100000) (by decide)
  have hp1 := split_pos x mark_blank
  have hsl := split_len x mark_blank
  have hpc : ∀ p ∈ Txt.split x " ", p.length ≤ 90000 := fun p hp => Nat.le_trans (split_piece mark_blank hp) hl
  unfold kindOf at k1 k2
  refine ⟨_, (pss_cons (ps_set (i := 1) sc_kind_of.nd rfl (Or.inl rfl) (pe_split (pv 0) pe_str))
  (pss_cons (ps_set (i := 2) sc_kind_of.nd rfl (Or.inl rfl) (C8.pe_c c_numbers_of hr (by decide) (by rfl) (pa_cons (pe_slice sl_list (pv 1) (po_some pe_int) po_none) pa_nil)))
  (pss_cons (ps_if (PW.pt (pw_or (pt_cmpR op_ne (pe_ix ix_list (pv 1) pe_int (fun _ _ => rfl)) pe_str (nomark _)) (pw_or (pt_cmpR op_isN (pv 2) pe_non (nomark _)) (pw_or1 (pt_cmpR op_eq (pe_callB call_len_seq (by rfl) T.len (by decide +kernel) (pa_cons (pv 2) pa_nil)) pe_int (nomark _)))))) (pss_one (ps_ret pe_non)) pss_nil)
  (pss_one (ps_ret (pe_tup (pa_cons (pe_ix ix_tup (pv 2) pe_int (fun _ _ => rfl)) (pa_cons (pe_slice sl_tup (pv 2) (po_some pe_int) po_none) pa_nil)))))))), ?_⟩
  refine ⟨_, rfl, ⟨x, rfl⟩, x, _, rfl, rfl, mark_blank.ne0, hz, fun p hp => ?_⟩
  have e1 : Ex H (upd H p (.lst ((Txt.split x " ").map V.str))) := Ex.new hp
  have hL : SqL K (upd H p (.lst ((Txt.split x " ").map V.str))) p ((Txt.split x " ").map V.str) := SqL.of upd_same
  generalize upd H p (.lst ((Txt.split x " ").map V.str)) = H1 at e1 hL
  generalize Txt.split x " " = ws at hL k1 k2 hp1 hpc hsl
  obtain ⟨a, r, rfl⟩ : ∃ a r, ws = a :: r := by
    cases ws with
    | nil => simp at hp1
    | cons a r => exact ⟨a, r, rfl⟩
  have k1' : (if a = "kind" then (match numsOf r with | some (n :: ns) => some (n, ns) | _ => none) else none : Option Kd) = none → ∀ H', Ex H H' → Q .non H' := k1
  have k2' : ∀ kd, (if a = "kind" then (match numsOf r with | some (n :: ns) => some (n, ns) | _ => none) else none : Option Kd) = some kd → ∀ H' v, Ex H H' → KdAt K H' v kd → Q v H' := k2
  -- found = numbers_of(words[1:])
  refine ⟨_, rfl, _, rfl, p, _, rfl, hL, fun q hq => ?_⟩
  have ec : cutV ((a :: r).map V.str) (some 1) none = r.map V.str := by
    rw [show (some (1 : Int)) = some ((1 : Nat) : Int) from rfl, cut_from]
    rfl
  rw [ec]
  have e2 : Ex H1 (upd H1 q (.lst (r.map V.str))) := Ex.new hq
  have hR : SqL K (upd H1 q (.lst (r.map V.str))) q (r.map V.str) := SqL.of upd_same
  generalize upd H1 q (.lst (r.map V.str)) = H2 at e2 hR
  refine ⟨q, r, rfl, hR, by rw [List.length_cons] at hsl; omega, fun y hy => by have := hpc y (List.mem_cons_of_mem _ hy); omega, fun hn H3 e3 => ?_, fun ns hn H3 t e3 ht => ?_⟩
  · -- None
    have E3 : Ex H H3 := (e1.trans e2).trans e3
    refine ⟨_, rfl, p, (a :: r).map V.str, 0, .str a, rfl, rfl, ex_l (e2.trans e3) hL, atI_nat (j := 0) rfl, rfl, _, rfl, ?_⟩
    have kk := k1' (by rw [hn]; split <;> rfl) H3 E3
    refine ite2 (fun c => iteT kk) (fun c => ?_)
    exact ⟨_, rfl, rfl, _, rfl, iteT (iteT kk)⟩
  · have E3 : Ex H H3 := (e1.trans e2).trans e3
    refine ⟨_, rfl, p, (a :: r).map V.str, 0, .str a, rfl, rfl, ex_l (e2.trans e3) hL, atI_nat (j := 0) rfl, rfl, _, rfl, ?_⟩
    rw [str_eq]
    by_cases h : a = "kind"
    · rw [decide_eq_true h]
      rw [if_pos h, hn] at k1' k2'
      refine iteF ⟨_, rfl, rfl, _, rfl, iteF ⟨_, rfl, t, _, rfl, .inr (SqT.of ht), rfl, _, rfl, ?_⟩⟩
      rw [List.length_map]
      show if decide (V.int ((ns.length : Nat) : Int) = V.int ((0 : Nat) : Int)) = true then _ else _
      rw [len_eq]
      cases ns with
      | nil => exact iteT (k1' rfl H3 E3)
      | cons n ms =>
        refine iteF ?_
        have hT : SqT K H3 t ((n :: ms).map V.int) := SqT.of ht
        refine ⟨_, rfl, t, _, 0, .int n, rfl, rfl, hT, atI_nat (j := 0) rfl, _, rfl, _, rfl, t, _, rfl, hT, ?_, fun u hu => ?_⟩
        · rintro ⟨z, _⟩
          rw [show (some (1 : Int)) = some ((1 : Nat) : Int) from rfl, HT.sIx_nat] at z
          simp at z
        · have ec2 : cutV ((n :: ms).map V.int) (some 1) none = ms.map V.int := by
            rw [show (some (1 : Int)) = some ((1 : Nat) : Int) from rfl, cut_from]
            rfl
          rw [ec2]
          refine ⟨len2, fun v hv => ?_⟩
          refine k2' (n, ms) rfl _ _ ((E3.trans (Ex.new hu)).trans (Ex.new hv)) ⟨v, u, rfl, SqT.of upd_same, SqT.of ?_⟩
          rw [upd_ne (ne_of_none upd_same hv), upd_same]
    · rw [decide_eq_false h]
      rw [if_neg h] at k1'
      exact iteT (k1' rfl H3 E3)
end
end K28
/-! # Rules that lack: several except clauses, some with a name; own errors made with nothing, with their fields -/
namespace K28
open PySem PySem.Spec PyProof.Rows L2
open Evl (Ex ex_l ex_t)
/-! ### try .. except A as e: .. except B: .. -/
/-- a clause: the class that it names, its name's slot (if it has one), its suite's reading -/
abbrev Clause := Value × Option Nat × (Addr → Value → Option Addr → TS)
/-- behind a suite the slot of the error's name is empty -/
def endsBut (i : Nat) (D : Ends) : Ends := { nx := fun σ H => D.nx (σ.set i none) H, rt := D.rt, bk := fun σ H => D.bk (σ.set i none) H, ct := fun σ H => D.ct (σ.set i none) H }
def inSuite (ts : TS) (a : Addr) (D : Ends) (σ : L2.St) (H : Hp) : Option Nat → Prop
  | none => ts D σ H
  | some i => ts (endsBut i D) (σ.set i (some (.ref a))) H
/-- what the clauses wish of an error of the body, from the first on -/
def wClauses (K : PySem.W.Frag) (Wout : WX) (D : Ends) : List Clause → WX
  | [] => Wout
  | (c, i, ts) :: r => fun cls d σ H => ∃ b, PySem.W.exmOne K cls c = some b ∧ (b = true → ∀ a, H a = none → inSuite (ts a cls d) a D σ H i) ∧ (b = false → wClauses K Wout D r cls d σ H)
inductive Clauses (X : Cx) : List ExceptHandler → List Clause → Prop
  | nil : Clauses X [] []
  | bare {x : Str} {c : Value} {ts : Addr → Value → Option Addr → TS} {st : Stmt} {sts : List Stmt} {np pos : Pos} {hds : List ExceptHandler} {l : List Clause} (hc : Names X x c)
      (suite : ∀ (a : Addr) (oe : Obj) (cls : Value) (d : Option Addr) (pn : List (Addr × Obj)), Zc cls d oe → (∃ vs, oe.data = .fields vs) → PSs (X.suite a ((a, oe) :: pn)) (st :: sts) (ts a cls d)) (r : Clauses X hds l) :
      Clauses X (.ExceptHandler (some (.Name x np)) none (st :: sts) pos :: hds) ((c, none, ts) :: l)
  | named {x n : Str} {i : Nat} {c : Value} {ts : Addr → Value → Option Addr → TS} {st : Stmt} {sts : List Stmt} {np pos : Pos} {hds : List ExceptHandler} {l : List Clause} (hc : Names X x c) (hN : X.N.Nodup) (hi : X.N[i]? = some n) (hl : X.env.kindOf n = some .local)
      (suite : ∀ (a : Addr) (oe : Obj) (cls : Value) (d : Option Addr) (pn : List (Addr × Obj)), Zc cls d oe → (∃ vs, oe.data = .fields vs) → PSs (X.suite a ((a, oe) :: pn)) (st :: sts) (ts a cls d)) (r : Clauses X hds l) :
      Clauses X (.ExceptHandler (some (.Name x np)) (some n) (st :: sts) pos :: hds) ((c, some i, ts) :: l)
section
variable {X : Cx} {body : List Stmt} {h₀ : ExceptHandler} {hds : List ExceptHandler} {l : List Clause} {pos : Pos} {tb : WX → TS} {Wout : WX}
/-- an error that has been caught stands at a: nothing of the frames is it -/
theorem not_frame {B h : Heap} {outer : List Env} {env : Env} {a : Addr} {o : Obj} {vs : Array Value} (ff : h.FunFrames B (env :: outer)) (e : h.get? a = some o) (hd : o.data = .fields vs) : a ∉ frs (env :: outer) := fun hm => by
  obtain ⟨_, o', e', hnf⟩ := ff.mem hm
  rw [e] at e'
  cases e'
  exact hnf _ hd
theorem ps_try_clauses (hs : X.stack = X.env :: X.outer) (hf : X.env.frame = some X.env.locals) (tk : Takes X Wout)
    (hb : ∀ (W : WX) (pn : List (Addr × Obj)) (xe : Value → Shared → Prop), Takes (X.tr pn xe) W → PassesOwn (model X.prog X.w) X.A X.env xe → PSs (X.tr pn xe) body (tb W))
    (hh : Clauses X (h₀ :: hds) l) : PS X (.Try body (h₀ :: hds) [] [] pos) (fun D σ H => tb (wClauses X.K Wout D l) D σ H) := by
  refine ⟨fun pins s σ H D I h => ?_⟩
  have ok := I.ok
  have hfr : X.A.frames = some (X.env :: X.outer) := by rw [ok.frames, hs]
  refine wpAny_Try_except (wpAny_mono ((hb (wClauses X.K Wout D l) (X.pn ++ pins) _ (fun u s' xx => ?_) PassesOwn.looking).run [] s σ H D (I.toTry _) h) (fun f s1 hsp => ?_) (fun e s1 he => he))
  rotate_left
  · -- the body has raised nothing
    cases f with
    | next =>
      obtain ⟨σ', H', J', q⟩ := hsp
      exact wpAny_execs_nil ⟨σ', H', J'.ofTry ok, q⟩
    | ret v =>
      obtain ⟨v, σ', H', J', r, q⟩ := hsp
      exact ⟨v, σ', H', J'.ofTry ok, r, q⟩
    | brk =>
      obtain ⟨σ', H', J', q⟩ := hsp
      exact ⟨σ', H', J'.ofTry ok, q⟩
    | cont =>
      obtain ⟨σ', H', J', q⟩ := hsp
      exact ⟨σ', H', J'.ofTry ok, q⟩
  · -- an error is caught
    obtain ⟨a, B, sI, pins', σ', H', cls, d, rfl, J', nb, up, sky, na, os, ag, wish⟩ := xx
    have J : Inv X pins σ' H' sI := J'.ofTry ok
    rw [hs] at sky
    show wpAny (model X.prog X.w) X.A (noteFrame (.ref a) X.env) _ _ _
    refine Sky.land Zc.steady hfr hf sky fun h3 fl3 up3 => ?_
    have J3 : Inv X pins σ' H' { s' with heap := h3 } := J.landed nb fl3.1 (up.trans up3) os ag
    obtain ⟨oe3, vs3, he3, hz3, hd3⟩ := fl3.there
    have nfr := not_frame fl3.2.2.1 he3 hd3
    have nL : a ≠ X.env.locals := fun z => nfr (List.mem_filterMap.mpr ⟨X.env, List.mem_cons_self, by rw [hf, z]⟩)
    have nF : a ∉ X.fs := fun hm => by
      obtain ⟨e, he, q⟩ := List.mem_filterMap.mp hm
      exact nfr (List.mem_filterMap.mpr ⟨e, List.mem_cons_of_mem _ he, q⟩)
    have S3 := J3.suite he3 hd3 na nL nF
    have LT : PySem.W.Looks (model X.prog X.w) h3 (typeOf (.ref a)) cls := fun A Q E s k q => wpAny_typeOf_ref (k _ _ he3) (by rw [hz3.1]; exact q)
    -- the class that a clause names is read where the error is handled
    have named : ∀ {x : Str} {c : Value} {np : Pos} {Q : Value → Shared → Prop} {E : Value → Shared → Prop}, Names X x c → Q c { s' with heap := h3 } →
        wpAny (model X.prog X.w) (X.A.mark (some (.ref a))) (eval (.Name x np) X.env) Q E { s' with heap := h3 } := by
      rintro x c np Q E ⟨hg, hdbg, hm | ⟨hm, hv, hnn⟩⟩ q
      · exact ld_glob (X := X.suite a ((a, oe3) :: (X.pn ++ pins))) S3 hg hm q hdbg
      · exact ld_blt (X := X.suite a ((a, oe3) :: (X.pn ++ pins))) S3 hg hm hv q hnn hdbg
    have go : ∀ {hs' : List ExceptHandler} {l' : List Clause}, Clauses X hs' l' → wClauses X.K Wout D l' cls d σ' H' → wpAny (model X.prog X.w) X.A (handleBy (.ref a) X.env hs') (SP X pins D) X.xe { s' with heap := h3 } := by
      intro hs' l' hk
      induction hk with
      | nil =>
        -- no clause takes it: it goes on
        intro wish
        refine wpAny_handleBy_nil ?_
        obtain ⟨_, _, _, oe, vs, T, oT, ts', he, hz, hd, h1, _⟩ := id fl3
        unfold PySem.passOn
        refine wpAny_bind (wpAny_field he hd h1 ?_)
        rw [if_neg (show ¬ ((Value.ref T == Value.none) = true) from by simp)]
        have fin : wpAny (model X.prog X.w) X.A (setFlight (.ref a) X.env.frame) (fun _ s4 => wpAny (model X.prog X.w) X.A (throw (.ref a) : Sem Flow) (SP X pins D) X.xe s4) X.xe { s' with heap := h3 } := by
          rw [hf]
          exact HandSPX.setFlight_upZ fl3 fun h4 hh4 up4 => wpAny_throw (tk _ _ ⟨a, B, sI, pins, σ', H', cls, d, rfl, J, nb, (up.trans up3).trans up4, .inr (.inr (by rw [hs]; exact hh4)), na, os, ag, wish⟩)
        first
          | exact wpAny_bind (wpAny_pure (wpAny_bind fin))
          | exact wpAny_bind fin
      | @bare x c ts st sts np pos' hds2 l2 hc suite r ih =>
        rintro ⟨b, hb1, yes, no⟩
        refine wpAny_handleBy_cons (codeAny_handlers_test (named hc ((PySem.W.exm_one (M := model X.prog X.w) (J3.kIn) LT hb1).here ?_))) (by intro q; cases q)
        cases b with
        | false => exact ih (no rfl)
        | true =>
          refine codeAny_handlers_suite (HandSPX.lands_againZ fl3 fun h4 fl4 up4 => ?_)
          have J4 : Inv X pins σ' H' { s' with heap := h4 } := J.landed nb fl4.1 ((up.trans up3).trans up4) os ag
          obtain ⟨oe4, vs4, he4, hz4, hd4⟩ := fl4.there
          refine wpAny_mono ((suite a oe4 cls d (X.pn ++ pins) hz4 ⟨_, hd4⟩).run [] _ _ H' _ (J4.suite he4 hd4 na nL nF) (yes rfl a na)) (fun f s6 hsp => ?_) (fun _ _ z => False.elim z)
          cases f with
          | ret u =>
            obtain ⟨v6, σ6, H6, S6, r6, q6⟩ := hsp
            exact ⟨_, _, _, S6.unsuite ok, r6, q6⟩
          | next =>
            obtain ⟨σ6, H6, S6, q6⟩ := hsp
            exact ⟨_, _, S6.unsuite ok, q6⟩
          | brk =>
            obtain ⟨σ6, H6, S6, q6⟩ := hsp
            exact ⟨_, _, S6.unsuite ok, q6⟩
          | cont =>
            obtain ⟨σ6, H6, S6, q6⟩ := hsp
            exact ⟨_, _, S6.unsuite ok, q6⟩
      | @named x n i c ts st sts np pos' hds2 l2 hc hN hi hln suite r ih =>
        rintro ⟨b, hb1, yes, no⟩
        refine wpAny_handleBy_cons (codeAny_handlers_test (named hc ((PySem.W.exm_one (M := model X.prog X.w) (J3.kIn) LT hb1).here ?_))) (by intro q; cases q)
        cases b with
        | false => exact ih (no rfl)
        | true =>
          refine codeAny_handlers_suite_as (HandSPX.lands_againZ fl3 fun h4 fl4 up4 => ?_)
          have J4 : Inv X pins σ' H' { s' with heap := h4 } := J.landed nb fl4.1 ((up.trans up3).trans up4) os ag
          obtain ⟨oe4, vs4, he4, hz4, hd4⟩ := fl4.there
          refine store_ok (X := X.suite a ((a, oe4) :: (X.pn ++ pins))) (v := .ref a) (J4.suite he4 hd4 na nL nF) hN hi (.inl hln) rfl (fun s5 S5 => ?_) (.inr hln)
          refine wpAny_mono ((suite a oe4 cls d (X.pn ++ pins) hz4 ⟨_, hd4⟩).run [] s5 _ H' _ S5 (yes rfl a na)) (fun f s6 hsp => ?_) (fun _ _ z => False.elim z)
          -- the error's name goes
          have away : ∀ {σ6 : L2.St} {H6 : Hp} {Q : Shared → Prop}, Inv (X.suite a ((a, oe4) :: (X.pn ++ pins))) [] σ6 H6 s6 → (∀ s7, Inv X pins (σ6.set i none) H6 s7 → Q s7) →
              wpAny (model X.prog X.w) X.A (do bindName X.env n .none; unbindBehindTheSuite X.env n pos') (fun _ s7 => Q s7) X.xe s6 := fun S6 hq => gone_ok (S6.unsuite ok) hN hi hln hq
          cases f with
          | ret u =>
            obtain ⟨v6, σ6, H6, S6, r6, q6⟩ := hsp
            exact away S6 fun s7 J7 => ⟨_, _, _, J7, r6, q6⟩
          | next =>
            obtain ⟨σ6, H6, S6, q6⟩ := hsp
            exact away S6 fun s7 J7 => ⟨_, _, J7, q6⟩
          | brk =>
            obtain ⟨σ6, H6, S6, q6⟩ := hsp
            exact away S6 fun s7 J7 => ⟨_, _, J7, q6⟩
          | cont =>
            obtain ⟨σ6, H6, S6, q6⟩ := hsp
            exact away S6 fun s7 J7 => ⟨_, _, J7, q6⟩
    exact go hh wish
end
/-! ### own errors -/
section
variable {X : Cx} {C : Addr} {bmB : List Value} {B newId initId : String}
/-- an error of a class without an own __init__, made with nothing -/
theorem pmk_own0 {x : Str} {p pos : Pos} (F : ExcBaseFacts B newId initId bmB) (q : PySem.W.excIn X.K C bmB newId = true) (gC : X.mg x = some (.ref C)) (kC : PySem.W.keepIn X.K (.ref C) = true) (r : Raises X (.ref C)) (hg : Gl X x)
    (hdb : (x == ("__debug__" : Str)) = false := by decide) : PMk X (.Call (.Name x p) [] [] pos) (fun _ H Q => Q (.ref C) none H) := by
  intro pins s σ H Q I h
  refine wpAny_Call_Name_kw (ld_glob I hg gC ?_ hdb)
  refine PySem.W.callWith_K0 I.kIn kC ?_
  show wpAny _ _ (call (.ref C) []) _ _ _
  obtain ⟨bm, N, nm, qn, bs, hdct, sn, sub, ab, col, dd, k0, k1, k2, k3, k5, mN, hC, hN, hni, T⟩ := exc_obj I.kIn q
  obtain ⟨hp, g, dr, tk, os⟩ := s
  refine wpAny_call_exc_subT F T hC hN hni (fun h' e hm => ?_) (by show 0 ≤ sizeLine; exact Nat.zero_le _)
  exact mk_of I hm r h (I.hok.gone hm.new)
/-- what is known of a class of errors with an own __init__ that is a def of the promise sp -/
structure XMak (P : Program) (w : World) (K : PySem.W.Frag) (mg : Str → Option Value) (base : Heap) (k : Nat) (x : Str) (C : Addr) (sp : Sp) : Prop where
  ex : ∃ (fI : Addr) (fd : FuncData) (ps : List Str), OexC K C ∧ PySem.W.findIn K (.ref C) "__init__" = some (some (.ref fI)) ∧ PySem.W.typeIn K (.ref fI) = some (.type "function") ∧ FnOk P w K mg base L2.CX0 k fI fd ps sp ∧ Binds K fd ps [] ∧ mg x = some (.ref C)
theorem pmk_x {k j : Nat} {x : Str} {sp : Sp} {p pos : Pos} {e : Expr} {es : List Expr} {t : TA} (c : XMak X.prog X.w X.K X.mg X.base k x C sp) (hr : Room j X.A) (hk : k + 1 ≤ j) (hg : Gl X x) (ha : PA X (e :: es) t)
    (hdb : (x == ("__debug__" : Str)) = false := by decide) (he : starEach (e :: es) X.env = (false, eval e X.env) :: starEach es X.env := by rfl) (hpl : (backTo pos (starEach es X.env)).any (·.1) = false := by rfl) :
    PMk X (.Call (.Name x p) (e :: es) [] pos) (tMkO C sp [] t) := by
  obtain ⟨fI, fd, ps, T, iC, tI, F, b, m⟩ := c.ex
  exact pmk_oex T iC tI F (hr.mono hk) b .nil pass0 hg m ha hdb he hpl
/-- a fresh error's own dict: what __init__ leaves of it -/
theorem heap_made {H : Hp} {a d : Addr} {o1 o2 : HO} {fs fs' : List (Str × V)} (h : H a = none) (n : d ≠ a) : upd (del (upd (upd (upd H a o1) d (exd d fs)) a o2) a) d (.xd fs') = upd H d (.xd fs') := by
  funext b
  by_cases hb : b = d
  · subst hb; rw [upd_same, upd_same]
  · rw [upd_ne hb, upd_ne hb]
    by_cases ha : b = a
    · subst ha; rw [del_same, h]
    · rw [del_ne ha, upd_ne ha, upd_ne hb, upd_ne ha]
theorem heap_made2 {H : Hp} {a d : Addr} {o1 o2 : HO} {fs fs2 fs' : List (Str × V)} (h : H a = none) (n : d ≠ a) : upd (del (upd (upd (upd (upd H a o1) d (exd d fs)) a o2) d (exd d fs2)) a) d (.xd fs') = upd H d (.xd fs') := by
  funext b
  by_cases hb : b = d
  · subst hb; rw [upd_same, upd_same]
  · rw [upd_ne hb, upd_ne hb]
    by_cases ha : b = a
    · subst ha; rw [del_same, h]
    · rw [del_ne ha, upd_ne hb, upd_ne ha, upd_ne hb, upd_ne ha]
end
/-- a weaker reading of an error's making -/
theorem pmk_imp {X : Cx} {e : Expr} {t t' : L2.St → Hp → XK → Prop} (h : PMk X e t) (hi : ∀ σ H Q, t' σ H Q → t σ H Q) : PMk X e t' := fun pins s σ H Q I q => h pins s σ H Q I (hi σ H Q q)
end K28
/-! # Rules that lack: kinds compared, max of a tuple, enumerate of a tuple, a text repeated, sets of ints -/
namespace K28
open PySem PySem.Spec PyProof.Rows L2
open Evl (Ex ex_l ex_t)
/-! ### kinds compared -/
/-- a kind as nested data -/
def kdD (k : Kd) : PyData := .tuple [.int k.1, .tuple (k.2.map .int)]
theorem dp_ints {K : PySem.W.Frag} {H : Hp} : ∀ ns : List Int, DpAll K H (ns.map V.int) (ns.map .int)
  | [] => .nil
  | n :: r => .cons (.int n) (dp_ints r)
theorem dp_kd {K : PySem.W.Frag} {H : Hp} {v : V} {k : Kd} (h : KdAt K H v k) : Dp K H v (kdD k) := by
  obtain ⟨a, r, rfl, h1, h2⟩ := h
  exact .tup h1 (.cons (.int _) (.cons (.tup h2 (dp_ints _)) .nil))
theorem kd_alike (a b : Kd) : PySem.W.alike (kdD a) (kdD b) = true := by
  unfold kdD
  simp only [PySem.W.alike, PySem.W.alikeAll, PySem.W.alike_ints, Bool.and_self]
theorem kd_depth (a : Kd) : (kdD a).depth ≤ 2 := by
  unfold kdD
  simp only [PyData.depth, PyData.depthAll, PySem.W.depth_ints]
  decide
/-- Python's <= of kinds -/
def leKd (a b : Kd) : Bool := !PySem.W.dataLt (kdD b) (kdD a)
section
variable {X : Cx}
theorem op_leK (hu : X.A.units + 64 < cLine) : OpR X (compareOp .LtE) (fun x y H Q => ∃ k1 k2, KdAt X.K H x k1 ∧ KdAt X.K H y k2 ∧ Q (.bl (leKd k1 k2)) H) := by
  intro pins s σ H x y v u Q I rx ry h
  obtain ⟨k1, k2, h1, h2, q⟩ := h
  obtain ⟨as, r1⟩ := Dp.reads I (kdD k1) x v (dp_kd h1) rx
  obtain ⟨bs, r2⟩ := Dp.reads I (kdD k2) y u (dp_kd h2) ry
  have d1 := kd_depth k1
  refine PySem.W.le_data r1 r2 (kd_alike _ _) (by unfold kdD; exact fun z => nomatch z) ?_ ⟨.bl _, H, I, rfl, q⟩
  have := Nat.min_le_left (kdD k1).depth (kdD k2).depth
  omega
/-! ### max of a tuple of ints -/
theorem cr_maxT (hc : X.calm = true) (hu : X.A.units + 64 < cLine) : CallR X (.builtin "max") (fun vs H Q => ∃ (a : Addr) (n : Int) (ns : List Int), vs = [.ref a] ∧ SqT X.K H a ((n :: ns).map V.int) ∧ Q (.int (ns.foldl max n)) H) := by
  intro pins s σ H vs us Q I r h
  obtain ⟨a, n, ns, rfl, hT, q⟩ := h
  obtain ⟨its, rv, p, hz⟩ := I.tuple hT
  rw [Vals.ref1 r]
  obtain ⟨as, rd⟩ := Dp.readsAll I ((n :: ns).map .int) _ _ (dp_ints (n :: ns)) rv
  refine PySem.W.max_tuple_data (x := .int n) (xs := ns.map .int) (I.ok.hd hc) p rd ⟨fun x hx y hy => ?_, fun x hx => ?_⟩ (by rw [show (PyData.int n :: ns.map PyData.int) = (n :: ns).map PyData.int from rfl, PySem.W.depth_ints]; omega) (fun i v h' tk bs _ rd' hk => ?_)
  · obtain ⟨i, _, rfl⟩ := List.mem_map.mp (show x ∈ (n :: ns).map PyData.int from hx)
    obtain ⟨j, _, rfl⟩ := List.mem_map.mp (show y ∈ (n :: ns).map PyData.int from hy)
    rfl
  · obtain ⟨i, _, rfl⟩ := List.mem_map.mp (show x ∈ (n :: ns).map PyData.int from hx)
    exact fun z => nomatch z
  · rw [PySem.W.maxD_ints] at rd'
    cases rd' with
    | int i t => exact ⟨.int _, H, I.kept hk, ⟨t, rfl⟩, q⟩
/-! ### '9' * 9 -/
theorem op_repS : OpR X (binaryOp .Mult) (fun x y H Q => ∃ n : Int, x = .str "9" ∧ y = .int n ∧ (n = 9 ∨ n = 10) ∧ Q (.str ⟨(List.replicate n.toNat ("9" : Str).cps).foldl (· ++ ·) #[]⟩) H) := by
  intro pins s σ H x y v u Q I rx ry h
  obtain ⟨n, rfl, rfl, hn, q⟩ := h
  obtain ⟨t, rfl⟩ := rx
  obtain ⟨t', rfl⟩ := ry
  rcases hn with rfl | rfl
  · refine PySem.P.mul_str (by decide) (fun _ _ => by decide +kernel) (fun _ _ => by decide +kernel) ?_
    rw [if_neg (by decide), if_neg (by decide +kernel)]
    exact ⟨by decide +kernel, .str _, H, I.tok _, ⟨_, rfl⟩, q⟩
  · refine PySem.P.mul_str (by decide) (fun _ _ => by decide +kernel) (fun _ _ => by decide +kernel) ?_
    rw [if_neg (by decide), if_neg (by decide +kernel)]
    exact ⟨by decide +kernel, .str _, H, I.tok _, ⟨_, rfl⟩, q⟩
end
/-! ### for i, x in enumerate(t), t a tuple -/
section
theorem meets_enum_any {v : Value} {o : Obj} {G : Heap → Prop} (B : Begins v o G) :
    Meets (Builtin.«enumerate.__new__» ⟨[.type "enumerate", v], []⟩) (fun _ R s => G s.heap ∧
      R (.ok (.ret (.ref (s.heap.push o).objs.size))) { s with heap := (s.heap.push o).push { cls := .type "enumerate", data := .fields #[.none, .bool false, .ref s.heap.objs.size, rawInt 0, .none, .none] } }) :=
  .of_wp fun prog w A R s h => by
    obtain ⟨hp, g, d, tk, os⟩ := s
    obtain ⟨h1, h2⟩ := h
    have hsub := sub_enumerate
    have it : ∀ {A' : Around} {E : Value → Shared → Prop} {Q : Value → Shared → Prop}, Q (.ref hp.objs.size) ⟨hp.push o, g, d, tk, os⟩ → wpAny (model prog w) A' (pyIter v) Q E ⟨hp, g, d, tk, os⟩ :=
      fun q => B.iter prog w _ _ ⟨hp, g, d, tk, os⟩ _ h1 q
    wp_walk using it
    refine wpAny_stack_any fun st => wpAny_pure ?_
    split
    · rename_i c _ _ _ _ _
      cases (c == Value.type "enumerate") <;>
      · wp_walk using it
        exact ⟨_, rfl, h2⟩
    · wp_walk using it
      exact ⟨_, rfl, h2⟩
theorem call_enum_any {prog : Program} {w : World} {A : Around} {E : Value → Shared → Prop} {s : Shared} {v : Value} {o : Obj} {G : Heap → Prop} {Q : Value → Shared → Prop} (B : Begins v o G) (h1 : G s.heap)
    (h : ∀ h', IsEnum h' (s.heap.objs.size + 1) s.heap.objs.size 0 .none → h'.get? s.heap.objs.size = some o → (∀ b u, s.heap.get? b = some u → h'.get? b = some u) → Q (.ref (s.heap.objs.size + 1)) { s with heap := h' }) :
    wpAny (model prog w) A (call (.type "enumerate") [v]) Q E s := by
  refine callType_new F.called_enumerate (by decide) (F.typeCall_enumerate_1 _) (F.newCall_enumerate_1 _) (fun obj => F.args_object_init_2 obj _) F.entry_enumerate_new (meets_enum_any B) ⟨h1, ?_⟩
  have hz : (s.heap.push o).objs.size = s.heap.objs.size + 1 := Heap.size_push ..
  show _ ∧ _
  rw [hz]
  have he : IsEnum ((s.heap.push o).push { cls := .type "enumerate", data := .fields #[.none, .bool false, .ref s.heap.objs.size, rawInt 0, .none, .none] }) (s.heap.objs.size + 1) s.heap.objs.size 0 .none := by
    have q := Heap.get?_push_size (s.heap.push o) (o := { cls := .type "enumerate", data := .fields #[.none, .bool false, .ref s.heap.objs.size, rawInt 0, .none, .none] }) rfl
    rw [hz] at q
    exact q
  exact ⟨⟨_, he, rfl⟩, h _ he (Heap.get?_push_of_some _ (Heap.get?_push_size _ B.free)) fun b u x => Heap.get?_push_of_some _ (Heap.get?_push_of_some _ x)⟩
/-- the tuple at a, its items by number in new pairs -/
def ItE (K : PySem.W.Frag) (a : Addr) : It :=
  ⟨fun i H => ∃ (xs : List V) (x : V), SqT K H a xs ∧ xs[i]? = some x, fun i H v H' => ∃ T x, v = .ref T ∧ H T = none ∧ H' = upd H T (.tup [.int (i : Nat), x]) ∧ ∀ xs, SqT K H a xs → xs[i]? = some x, fun i H => ∃ xs : List V, SqT K H a xs ∧ xs.length = i⟩
theorem turn_enumT {P : Program} {w : World} {K : PySem.W.Frag} {elts : List Expr} {kk : Nat} {tpos : Pos} (a e it : Addr) :
    Turn P w K (.Tuple elts kk tpos) (ItE K a) [e, it] e (fun i h => (∃ old, IsEnum h e it ((i : Nat) : Int) old) ∧ h.IsTupleIter it a i ∧ e ≠ it) where
  mem := by simp
  obj := fun i h st b hb => by
    obtain ⟨⟨old, he⟩, ⟨o, ho, hc, hd⟩, _⟩ := st
    rcases (by simpa using hb : b = e ∨ b = it) with z | z
    · rw [z]; exact ⟨_, he, fun v q => nomatch q⟩
    · rw [z]; exact ⟨o, ho, fun v q => by rw [hd] at q; cases q⟩
  keep := fun i h h' st k => let ⟨⟨old, he⟩, hi, hne⟩ := st; ⟨⟨old, k e (by simp) _ he⟩, hi.at fun o q => k it (by simp) o q, hne⟩
  item := by
    intro X hP hw hK hc i pins s σ H E I hf st hg
    subst hP hw hK
    obtain ⟨⟨old, he⟩, hit, hne⟩ := st
    obtain ⟨xs, x, hq, hx⟩ := hg
    obtain ⟨its, rv, p, hz⟩ := I.tuple hq
    obtain ⟨u, hu, ru⟩ := rv.get hx
    have hel : e < s.heap.objs.size := Heap.lt_size he
    have hil : it < s.heap.objs.size := by obtain ⟨_, q, _⟩ := hit; exact Heap.lt_size q
    have hpt : s.heap.IsTuple a its.toArray := p
    have nai : a ≠ it := fun z => by
      obtain ⟨o1, g1, c1, _⟩ := hpt
      obtain ⟨o2, g2, c2, _⟩ := hit
      rw [z, g2] at g1
      cases g1
      rw [c2] at c1
      exact absurd c1 (by decide)
    have hni : e ∉ [it, a] := by
      rintro h
      rcases (by simpa using h : e = it ∨ e = a) with z | z
      · exact hne z
      · obtain ⟨o1, g1, c1, _⟩ := hpt
        rw [← z, he] at g1
        cases g1
        exact absurd (show Value.type "enumerate" = Value.type "tuple" from c1) (by decide)
    have hi : i < its.toArray.size := by
      have := (List.getElem?_eq_some_iff.mp hu).1
      simpa using this
    refine wpAny_pyNext_enum_itemD (Draws.tuple (by rw [show X.A.in1.handled = X.A.handled from rfl]; exact I.ok.hd hc) it a nai its.toArray) he ⟨hit, hpt⟩ hi hne hni fun y h' tk hy ho hst hT hsz hk => ?_
    have ey : y = u := by
      have h2 : its.toArray[i]? = some u := by simpa using hu
      exact Option.some.inj (hy.symm.trans h2)
    subst ey
    refine ⟨_, rfl, wpAny_letOwnedTupleGo_enum (s := { s with heap := h', toks := tk + 1 }) ho fun h'' he' sb => ?_⟩
    have hT2 : h''.get? s.heap.objs.size = some { cls := .type "tuple", data := .seq #[.int i tk, y] } := (sb.2 _ (Nat.ne_of_gt hel)).trans hT
    have new : ObjOk X.prog X.w (upd H s.heap.objs.size (.tup [.int (i : Nat), x])) h'' s.heap.objs.size (.tup [.int (i : Nat), x]) :=
      ⟨by show 2 ≤ sizeLine; decide, [.int i tk, y], .cons ⟨_, rfl⟩ (.cons ru .nil), ⟨_, hT2, rfl, _, rfl⟩⟩
    have I1 : Inv X pins σ (upd H s.heap.objs.size (.tup [.int (i : Nat), x])) { s with heap := h'', toks := tk + 1 } :=
      I.turnedNew (ch := [e, it]) (fun b ob hb q => (sb.2 b (fun z => hb (by simp [z]))).trans (hk b ob (fun z => hb (by simp [z])) (fun z => hb (by simp [z])) q)) hf (Nat.le_refl _) new
    refine ⟨.ref s.heap.objs.size, _, I1, rfl, ⟨_, x, rfl, I.hok.fresh (Nat.le_refl _), rfl, fun ys hy' => ?_⟩, ⟨⟨y, ?_⟩, hst.1.at fun o q => (sb.2 it (Ne.symm hne)).trans q, hne⟩, fun b hb => ?_⟩
    · rw [I.tuple_inj hy' hq]
      exact hx
    · have e1 : ((i + 1 : Nat) : Int) = (i : Int) + 1 := by omega
      rw [e1]; exact he'
    · have hb' : b < s.heap.objs.size := by
        rcases (by simpa using hb : b = e ∨ b = it) with z | z
        · rw [z]; exact hel
        · rw [z]; exact hil
      rw [upd_ne (Nat.ne_of_lt hb')]
      exact (hf b hb).1
  done := by
    intro X hP hw hK hc i pins s σ H E I hf st hg
    subst hP hw hK
    obtain ⟨⟨old, he⟩, hit, hne⟩ := st
    obtain ⟨xs, hq, hx⟩ := hg
    obtain ⟨its, rv, p, hz⟩ := I.tuple hq
    obtain ⟨f0, f1, f2, f3, f4, f5⟩ := hf it (by simp)
    have hl := rv.length
    have hpt : s.heap.IsTuple a its.toArray := p
    have nai : a ≠ it := fun z => by
      obtain ⟨o1, g1, c1, _⟩ := hpt
      obtain ⟨o2, g2, c2, _⟩ := hit
      rw [z, g2] at g1
      cases g1
      rw [c2] at c1
      exact absurd c1 (by decide)
    have ei : i = its.toArray.size := by
      rw [← hx]; simpa using hl
    rw [ei] at he hit
    exact wpAny_pyNext_enum_endD (Draws.tuple (by rw [show X.A.in1.handled = X.A.handled from rfl]; exact I.ok.hd hc) it a nai its.toArray) he ⟨hit, hpt⟩ fun h' eb => ⟨rfl, I.turned (t' := s.toks) (fun b o hb q => eb b o hb q) f0 f1 f3 f4 f5⟩
  self := fun A i s Q E st h => let ⟨⟨_, he⟩, _⟩ := st; wpAny_pyIter_enum he h
def iEnumT (K : PySem.W.Frag) (ta : TA) : TI := fun σ H R => ta σ H fun vs H1 => ∃ a xs, vs = [.ref a] ∧ SqT K H1 a xs ∧ R (ItE K a) H1
theorem pi_enumT {X : Cx} {e : Expr} {ta : TA} {p pos tpos : Pos} {elts : List Expr} {kk : Nat} (hg : Gl X "enumerate") (hm : X.mg "enumerate" = none) (ha : PA X [e] ta) (hs : starEach [e] X.env = [(false, eval e X.env)] := by rfl) :
    PI X (.Tuple elts kk tpos) (.Call (.Name "enumerate" p) [e] [] pos) (iEnumT X.K ta) := by
  refine ⟨fun pins s σ H R I h => ?_⟩
  refine Call_ (ld_blt (u := .type "enumerate") I hg hm (by decide +kernel) (PyProof.Rows.callWith_type1 (thn (ha.run pos pins s σ H _ I h) fun us s1 ⟨vs, H1, I1, r1, q1⟩ => ?_) hs rfl))
  obtain ⟨a, xs, rfl, hq, q⟩ := q1
  rw [Vals.ref1 r1]
  obtain ⟨its, rv, p', hz⟩ := I1.tuple hq
  have hpt : s1.heap.IsTuple a its.toArray := p'
  refine call_enum_any (begins_tuple a its.toArray) hpt fun h' he ho hk => wpAny_pyIter_enum he ?_
  have I2 : Inv X pins σ H1 { s1 with heap := h' } := I1.kept (t' := s1.toks) hk
  refine ⟨s1.heap.objs.size + 1, [s1.heap.objs.size + 1, s1.heap.objs.size], _, _, H1, rfl, I2, turn_enumT a (s1.heap.objs.size + 1) s1.heap.objs.size, ⟨⟨.none, he⟩, ⟨_, ho, rfl, rfl⟩, Nat.succ_ne_self _⟩, fun b hb => ?_, q⟩
  have hle : s1.heap.objs.size ≤ b := by
    rcases (by simpa using hb : b = s1.heap.objs.size + 1 ∨ b = s1.heap.objs.size) with z | z
    · rw [z]; exact Nat.le_add_right _ _
    · rw [z]; exact Nat.le_refl _
  exact I1.fpOk hle (I1.hok.fresh hle)
theorem walk_enumT {K : PySem.W.Frag} {a : Addr} {xs : List V} : Walk (ItE K a) xs.length (fun H => SqT K H a xs) (YPair (fun i => some (.int (i : Nat))) (fun i => xs[i]?)) := by
  refine ⟨fun i _ hi q => ⟨xs, xs[i], q, by simp [hi]⟩, fun _ q => ⟨xs, q, rfl⟩, fun i H v H' _ q y => ?_⟩
  obtain ⟨T, x, h1, h2, h3, h4⟩ := y
  exact ⟨T, .int (i : Nat), x, h1, h2, h3, rfl, h4 xs q⟩
end
end K28
/-! # Sets whose members are keys of any kind on the heap: made from a list, sorted -/
namespace K28
open PySem PySem.Spec PyProof.Rows L2
section
variable {P : Program} {w : World} {κ : Type} [DecidableEq κ]
/-- what else a search asks of a key -/
structure Asked (knd : HeapKind P w κ) : Prop where
  st : knd.Stays
  cls : ∀ {A : Around} {E : Value → Shared → Prop} {s : Shared} {k : κ} {a : Addr} {Q : Bool → Shared → Prop}, knd.is s.heap k a → Q false s → wpAny (model P w) A (ofAClassStatement 8 (.ref a)) Q E s
  byv : ∀ {A : Around} {E : Value → Shared → Prop} {s : Shared} {k : κ} {a : Addr} {Q : Bool → Shared → Prop}, knd.is s.heap k a → Q true s → wpAny (model P w) A (hashByValue 8 (.ref a)) Q E s

/-! ### small questions asked of nested keys -/
/-- of no class statement, n levels down -/
def NoCls (P : Program) (w : World) (n : Nat) (s : Shared) (v : Value) : Prop := ∀ (A : Around) (E : Value → Shared → Prop) (Q : Bool → Shared → Prop), Q false s → wpAny (model P w) A (ofAClassStatement n v) Q E s
def ByVal (P : Program) (w : World) (n : Nat) (s : Shared) (v : Value) : Prop := ∀ (A : Around) (E : Value → Shared → Prop) (Q : Bool → Shared → Prop), Q true s → wpAny (model P w) A (hashByValue n v) Q E s
/-- a tuple of such -/
theorem NoCls.tup {n : Nat} {s : Shared} {a : Addr} {o : Obj} {vs : Array Value} {m : Nat} (ho : s.heap.get? a = some o) (hc : o.cls = .type "tuple") (hd : o.data = .seq vs m) (hq : ∀ v ∈ vs.toList, NoCls P w n s v) : NoCls P w (n + 1) s (.ref a) := fun A E Q h => by
  unfold ofAClassStatement
  refine wpAny_bind (wpAny_typeOf (T := "tuple") ⟨o, ho, hc⟩ ?_)
  dsimp only
  have e : (("tuple" : String) == "tuple") = true := by decide
  simp only [e, if_true, Bool.not_true, Bool.false_eq_true, if_false]
  try refine wpAny_bind (wpAny_pure ?_)
  try simp only [Bool.not_true, Bool.false_eq_true, if_false]
  show wpAny _ _ (seqItems? (.ref a) >>= _) _ _ s
  refine wpAny_bind (wpAny_seqItems ho hd ?_)
  dsimp only
  refine wpAny_bind ?_
  show wpAny _ _ (forIn vs _ _) _ _ s
  rw [← Array.forIn_toList]
  refine wpAny_forIn_list _ (fun rest r s' => r.1 = none ∧ s' = s ∧ ∀ v ∈ rest, NoCls P w n s v) _ ?_ ?_ _ _ ⟨rfl, rfl, hq⟩
  · rintro v rest r s' ⟨hr, rfl, hall⟩
    refine wpAny_bind (hall v List.mem_cons_self _ _ _ ?_)
    simp only [Bool.false_eq_true, if_false]
    exact wpAny_pure ⟨rfl, rfl, fun u hu' => hall u (List.mem_cons_of_mem _ hu')⟩
  · rintro ⟨r1, r2⟩ s' ⟨hr, rfl, _⟩
    simp only at hr
    subst hr
    exact wpAny_pure h
theorem ByVal.tup {n : Nat} {s : Shared} {a : Addr} {o : Obj} {vs : Array Value} {m : Nat} (ho : s.heap.get? a = some o) (hc : o.cls = .type "tuple") (hd : o.data = .seq vs m) (hq : ∀ v ∈ vs.toList, ByVal P w n s v) : ByVal P w (n + 1) s (.ref a) := fun A E Q h => by
  unfold hashByValue
  refine wpAny_bind (wpAny_specialOf (T := "tuple") ⟨o, ho, hc⟩ F.slot_tuple_hash.lookup ?_)
  show wpAny _ _ (seqItems? (.ref a) >>= _) _ _ s
  refine wpAny_bind (wpAny_seqItems ho hd ?_)
  refine wpAny_bind ?_
  show wpAny _ _ (forIn vs _ _) _ _ s
  rw [← Array.forIn_toList]
  refine wpAny_forIn_list _ (fun rest r s' => r.1 = none ∧ s' = s ∧ ∀ v ∈ rest, ByVal P w n s v) _ ?_ ?_ _ _ ⟨rfl, rfl, hq⟩
  · rintro v rest r s' ⟨hr, rfl, hall⟩
    refine wpAny_bind (hall v List.mem_cons_self _ _ _ ?_)
    simp only [Bool.not_true, Bool.false_eq_true, if_false]
    exact wpAny_pure ⟨rfl, rfl, fun u hu' => hall u (List.mem_cons_of_mem _ hu')⟩
  · rintro ⟨r1, r2⟩ s' ⟨hr, rfl, _⟩
    simp only at hr
    subst hr
    exact wpAny_pure h
theorem noCls_flat {n : Nat} {s : Shared} {v : Value} (h : ∀ n, ofAClassStatement n v = pure false) : NoCls P w n s v := fun A E Q q => by
  rw [h n]
  exact wpAny_pure q
theorem byVal_flat {n : Nat} {s : Shared} {v : Value} (h : ∀ n, hashByValue n v = pure true) : ByVal P w n s v := fun A E Q q => by
  rw [h n]
  exact wpAny_pure q
mutual
theorem noCls_key : ∀ (k : NestedKey) (v : Value) (n : Nat) (s : Shared), NestedIs s.heap k v → k.depth ≤ n → NoCls P w n s v
  | .none, _, n, s, x, _ => by cases x; exact noCls_flat fun n => by cases n <;> rfl
  | .num i, _, n, s, x, _ => by
    cases x with
    | bool _ => exact noCls_flat fun n => by cases n <;> rfl
    | int _ t => exact noCls_flat fun n => by cases n <;> rfl
  | .text y, _, n, s, x, _ => by cases x; exact noCls_flat fun n => by cases n <;> rfl
  | .tup ks, _, n, s, x, hn => by
    cases x with
    | tup hg hc hd hk =>
      simp only [NestedKey.depth] at hn
      cases n with
      | zero => omega
      | succ n => exact .tup hg hc hd (noCls_keys ks _ n s hk (by omega))
theorem noCls_keys : ∀ (ks : List NestedKey) (vs : List Value) (n : Nat) (s : Shared), NestedAll s.heap ks vs → NestedKey.depthAll ks ≤ n → ∀ v ∈ vs, NoCls P w n s v
  | [], _, n, s, x, _, v, hv => by cases x; cases hv
  | k :: ks, _, n, s, x, hn, v, hv => by
    cases x with
    | cons x1 x2 =>
      simp only [NestedKey.depthAll] at hn
      rcases List.mem_cons.mp hv with e | hv
      · rw [e]; exact noCls_key k _ n s x1 (by omega)
      · exact noCls_keys ks _ n s x2 (by omega) v hv
end
theorem byVal_num {i : Int} {v : Value} {n : Nat} {s : Shared} (x : NestedIs s.heap (.num i) v) : ByVal P w n s v := by
  cases x with
  | bool _ => exact byVal_flat fun n => by cases n <;> rfl
  | int _ t => exact byVal_flat fun n => by cases n <;> rfl
theorem byVal_nums {n : Nat} {s : Shared} : ∀ (ns : List Int) (vs : List Value), NestedAll s.heap (ns.map .num) vs → ∀ v ∈ vs, ByVal P w n s v
  | [], _, x, v, hv => by cases x; cases hv
  | i :: ns, _, x, v, hv => by
    cases x with
    | cons x1 x2 =>
      rcases List.mem_cons.mp hv with e | hv
      · rw [e]; exact byVal_num x1
      · exact byVal_nums ns _ x2 v hv
/-- a kind as a key -/
def nkOf (k : Kd) : NestedKey := .tup [.num k.1, .tup (k.2.map .num)]
theorem nums_inj : ∀ {a b : List Int}, a.map NestedKey.num = b.map NestedKey.num → a = b
  | [], [], _ => rfl
  | [], _ :: _, h => by cases h
  | _ :: _, [], h => by cases h
  | x :: a, y :: b, h => by
    rw [List.map_cons, List.map_cons] at h
    injection h with h1 h2
    injection h1 with h1
    rw [h1, nums_inj h2]
theorem nkOf_inj {a b : Kd} (h : nkOf a = nkOf b) : a = b := by
  unfold nkOf at h
  injection h with h
  injection h with h1 h2
  injection h1 with h1
  injection h2 with h2 _
  injection h2 with h2
  exact Prod.ext h1 (nums_inj h2)
/-- kinds as keys -/
def kindKind (P : Program) (w : World) : HeapKind P w Kd where
  is := fun h k a => (nestedKind P w).is h (nkOf k) a
  hash := fun k => (nestedKind P w).hash (nkOf k)
  draws := fun k => (nestedKind P w).draws (nkOf k)
  room := (nestedKind P w).room
  inj := fun hx hy => nkOf_inj ((nestedKind P w).inj hx hy)
  keeps := fun x ho hd hs => (nestedKind P w).keeps x ho hd hs
  pyHash := fun hu hk h => (nestedKind P w).pyHash hu hk h
  eqBool := fun {A E s x y a b Q} hu hx hy h => (nestedKind P w).eqBool hu hx hy (by
    have e : decide (nkOf x = nkOf y) = decide (x = y) := by
      by_cases c : x = y
      · rw [c]; simp
      · rw [decide_eq_false c, decide_eq_false fun q => c (nkOf_inj q)]
    rw [e]
    exact h)
  quiet := fun hk h => (nestedKind P w).quiet hk h
theorem kind_asked : Asked (kindKind P w) where
  st := ⟨fun hk x => (nestedKind_stays (prog := P) (w := w)).stays hk x, fun x => (nestedKind_stays (prog := P) (w := w)).tuple x⟩
  cls := fun x h => noCls_key _ _ 8 _ x.1 x.2 _ _ _ h
  byv := fun {A E s k a Q} x h => by
    refine (show ByVal P w 8 s (.ref a) from ?_) _ _ _ h
    obtain ⟨x, _⟩ := x
    cases x with
    | tup h1 h2 h3 h4 =>
      refine .tup (n := 7) h1 h2 h3 fun v hv => ?_
      generalize hvs : Array.toList _ = vs at h4 hv
      cases h4 with
      | cons y1 y2 =>
        cases y2 with
        | cons z1 z2 =>
          cases z2
          rcases List.mem_cons.mp hv with e | hv
          · rw [e]; exact byVal_num y1
          · rw [List.mem_singleton.mp hv]
            cases z1 with
            | tup g1 g2 g3 g4 => exact .tup (n := 6) g1 g2 g3 (byVal_nums _ _ g4)

/-! ### the table of such a set -/
variable {knd : HeapKind P w κ}
abbrev rowOf (knd : HeapKind P w κ) (p : Addr × κ) : Int × Value := (knd.hash p.2, .ref p.1)
abbrev hashOf (knd : HeapKind P w κ) (p : Addr × κ) : Int := knd.hash p.2
structure SetK (knd : HeapKind P w κ) (h : Heap) (a : Addr) (L : List (Addr × κ)) (es : Array (Int × Value)) (ep : Nat) (t : SetTable) : Prop where
  ob : ∃ o, h.get? a = some o ∧ o.ExactSet ∧ o.data = .set es ep t
  rows : es.toList = L.map (rowOf knd)
  tab : TabOk t (L.map (hashOf knd))
  nd : (L.map (·.2)).Nodup
  mem : ∀ p ∈ L, knd.is h p.2 p.1
  plain : t.plain = true
  led : w.params.followText "set-order" = true ∨ t.led = true
  room : L.length * 5 < t.mask * 3
  few : L.length < 64
variable {h h' : Heap} {a : Addr} {L : List (Addr × κ)} {es : Array (Int × Value)} {ep : Nat} {t : SetTable}
theorem rows_size (hr : es.toList = L.map (rowOf knd)) : es.size = L.length := by
  rw [← Array.length_toList, hr, List.length_map]
theorem rows_at (hr : es.toList = L.map (rowOf knd)) {i : Nat} {p : Addr × κ} (h : L[i]? = some p) : es[i]? = some (rowOf knd p) := by
  rw [← Array.getElem?_toList, hr, List.getElem?_map, h]; rfl
theorem SetK.fits (R : SetK knd h a L es ep t) : t.fits es.size = true := by
  have h1 := R.tab.sz
  rw [List.length_map] at h1
  have h2 := rows_size R.rows
  have h3 := R.room
  unfold SetTable.fits SetTable.fill
  rw [R.tab.dm, Bool.and_eq_true, beq_iff_eq, decide_eq_true_eq]
  show t.place.size = es.size ∧ t.place.size + 0 ≤ t.mask
  omega
theorem SetK.whole (R : SetK knd h a L es ep t) : ¬ t.gaveWay = true := by
  unfold SetTable.gaveWay
  rw [mask_odd R.tab.mok]
  decide
theorem SetK.at (R : SetK knd h a L es ep t) (ha : ∀ o, h.get? a = some o → h'.get? a = some o) (hm : ∀ p ∈ L, knd.is h' p.2 p.1) : SetK knd h' a L es ep t := by
  obtain ⟨o, ho, r⟩ := R.ob
  exact ⟨⟨o, ha o ho, r⟩, R.rows, R.tab, R.nd, hm, R.plain, R.led, R.room, R.few⟩
/-- the sequences stay where only a set is written -/
theorem key_but (A : Asked knd) {k : κ} {b : Addr} {o : Obj} (hb : knd.is h k b) (ho : h.get? a = some o) (hd : o.data = .set es ep t) (hs : Heap.SameBut a h h') : knd.is h' k b :=
  A.st.stays (fun c u vs n e1 e2 => (hs.2 c (fun z => by rw [z, ho] at e1; cases e1; rw [hd] at e2; cases e2)).trans e1) hb
theorem key_keep (A : Asked knd) {k : κ} {b : Addr} (hb : knd.is h k b) (hk : ∀ c o, h.get? c = some o → h'.get? c = some o) : knd.is h' k b := A.st.stays (fun c u _ _ e1 _ => hk c u e1) hb
variable {A : Around} {E : Value → Shared → Prop} {s : Shared}
/-- a search among keys shows nothing -/
theorem not_seen (K : Asked knd) {k : κ} {b : Addr} {Q : Bool → Shared → Prop} (hk : knd.is s.heap k b) {ys : List Value} (hy : ∀ y ∈ ys, ∃ k' c, y = Value.ref c ∧ knd.is s.heap k' c) (h : Q false s) : wpAny (model P w) A (searchCouldBeSeen (.ref b) ys) Q E s := by
  unfold searchCouldBeSeen
  refine wpAny_bind ?_
  refine wpAny_forIn_list _ (fun rest r s' => r.1 = none ∧ s' = s ∧ ∀ y ∈ rest, ∃ k' c, y = Value.ref c ∧ knd.is s.heap k' c) _ ?_ ?_ _ _ ⟨rfl, rfl, hy⟩
  · rintro v rest r s' ⟨hr, rfl, hall⟩
    obtain ⟨k', c, rfl, hc⟩ := hall v List.mem_cons_self
    have on : ∀ y ∈ rest, ∃ k' c, y = Value.ref c ∧ knd.is s'.heap k' c := fun u hu' => hall u (List.mem_cons_of_mem _ hu')
    dsimp only
    by_cases hv : (b == c || (carriedByValue (.ref b) && carriedByValue (.ref c))) = true
    · exact wp_if_pos hv (wpAny_pure ⟨rfl, rfl, on⟩)
    · refine wp_if_neg hv (wpAny_bind (knd.quiet hk ?_))
      simp only [Bool.not_true, Bool.false_eq_true, if_false]
      refine wpAny_bind (knd.quiet hc ?_)
      simp only [Bool.not_true, Bool.false_eq_true, if_false]
      refine wpAny_bind (K.cls hk ?_)
      simp only [Bool.false_eq_true, if_false]
      refine wpAny_bind (K.cls hc ?_)
      simp only [Bool.false_eq_true, if_false]
      exact wpAny_pure ⟨rfl, rfl, on⟩
  · rintro ⟨r1, r2⟩ s' ⟨hr, rfl, _⟩
    simp only at hr
    subst hr
    exact wpAny_pure h
/-- the first state of a search, and its c-th -/
abbrev from0 (m : Nat) (g : Int) : SetTable.Probe := runAt m (SetTable.bits g % (m + 1)) (SetTable.bits g)
theorem nth_clean {m : Nat} : ∀ (n : Nat) (p : SetTable.Probe), p.dummy = none → (nth m p n).dummy = none
  | 0, _, h => h
  | n + 1, p, h => nth_clean n (adv m p) (by unfold adv; split <;> exact h)
/-- the search for a key: till its equal, or till the first empty slot K of its way -/
theorem seek (Y : Asked knd) (R : SetK knd s.heap a L es ep t) {x : Addr} {k : κ} (hx : knd.is s.heap k x) (hu : knd.room A) {K : Nat} (hKf : K < 10 * SetTable.turns t.mask)
    (hK : way t.mask (knd.hash k) K ∉ t.place.toList) (hKb : ∀ c, c < K → way t.mask (knd.hash k) c ∈ t.place.toList) {Q : SetFound → Shared → Prop}
    (yes : k ∈ L.map (·.2) → Q (.there none) s) (no : k ∉ L.map (·.2) → Q (.free (way t.mask (knd.hash k) K) false) s) :
    ∀ (f c : Nat) (st : Option SetTable.Probe), st.getD (t.probeStart (knd.hash k)) = nth t.mask (from0 t.mask (knd.hash k)) c → c ≤ K → K - c < f →
      (∀ (i : Nat) p, L[i]? = some p → p.2 = k → ∃ c', c ≤ c' ∧ c' < K ∧ t.place.toList[i]? = some (way t.mask (knd.hash k) c')) → wpAny (model P w) A (setSearchFrom a (.ref x) (knd.hash k) true f st) Q E s := by
  intro f
  induction f with
  | zero => intro c st _ _ hf; exact absurd hf (Nat.not_lt_zero _)
  | succ f ih =>
    intro c st hst hc hf ahead
    obtain ⟨o, ho, hex, hd⟩ := R.ob
    rw [setSearchFrom_succ]
    refine wpAny_bind (wpAny_setState_of ho hd R.fits ?_)
    dsimp only
    refine wp_if_neg R.whole ?_
    try refine wpAny_bind (wpAny_pure ?_)
    have shift : ∀ q, nth t.mask (nth t.mask (from0 t.mask (knd.hash k)) c) q = nth t.mask (from0 t.mask (knd.hash k)) (c + q) := fun q => (nth_add t.mask c _ q).symm
    have slotAt' : ∀ q, (nth t.mask (nth t.mask (from0 t.mask (knd.hash k)) c) q).j = way t.mask (knd.hash k) (c + q) := fun q => congrArg SetTable.Probe.j (shift q)
    have back : c + (K - c) = K := by omega
    have hashAt : ∀ (i : Nat) p, L[i]? = some p → (es[i]?.map (·.1)).getD 0 = knd.hash p.2 := fun i p hp => by rw [rows_at R.rows hp]; rfl
    have passed : ∀ {q : Nat}, (∀ (k' i' : Nat), k' < q → t.place.toList[i']? = some (nth t.mask (nth t.mask (from0 t.mask (knd.hash k)) c) k').j → (es[i']?.map (·.1)).getD 0 ≠ knd.hash k) →
        ∀ (i0 : Nat) p0 c', L[i0]? = some p0 → p0.2 = k → c ≤ c' → t.place.toList[i0]? = some (way t.mask (knd.hash k) c') → c + q ≤ c' := fun {q} hno i0 p0 c' h0 hk0 a1 a3 => by
      refine Nat.le_of_not_lt fun z => hno (c' - c) i0 (by omega) (by rw [slotAt', show c + (c' - c) = c' by omega]; exact a3) ?_
      exact (hashAt i0 p0 h0).trans (congrArg knd.hash hk0)
    rcases go_spec t R.tab.ris R.tab.dm (fun i => (es[i]?.map (·.1)).getD 0) (knd.hash k) (10 * SetTable.turns t.mask) (K - c) _ (nth_clean c (from0 t.mask (knd.hash k)) rfl) (by omega)
      (fun q hq => by rw [slotAt']; exact hKb (c + q) (by omega)) (by rw [slotAt', back]; exact hK) with ⟨q, i, hq, hi, hh, hno, hpr⟩ | ⟨hno, hpr⟩
    · have hpr' : t.probe (fun i => (es[i]?.map (·.1)).getD 0) (knd.hash k) (st.getD (t.probeStart (knd.hash k))) = some (.candidate (way t.mask (knd.hash k) (c + q)) i (nth t.mask (from0 t.mask (knd.hash k)) (c + (q + 1)))) := by
        rw [hst, ← slotAt', ← shift]
        exact hpr
      rw [hpr']
      dsimp only
      rw [slotAt'] at hi
      obtain ⟨p, hp⟩ : ∃ p, L[i]? = some p := by
        have h1 : i < t.place.toList.length := (List.getElem?_eq_some_iff.mp hi).1
        have h2 := R.tab.sz
        rw [List.length_map] at h2
        rw [Array.length_toList] at h1
        exact ⟨_, List.getElem?_eq_getElem (by omega)⟩
      have hmem : p ∈ L := List.mem_of_getElem? hp
      have rest : wpAny (model P w) A (searchRest a (.ref x) (knd.hash k) true f es t (way t.mask (knd.hash k) (c + q)) i (nth t.mask (from0 t.mask (knd.hash k)) (c + (q + 1)))) Q E s := by
        unfold searchRest
        rw [rows_at R.rows hp]
        dsimp only
        refine wpAny_bind (wpAny_holding (knd.eqBool hu (R.mem p hmem) hx ?_))
        refine wpAny_bind (wpAny_setState_of ho hd R.fits ?_)
        dsimp only
        by_cases hkk : p.2 = k
        · exact wp_if_pos (by simp [hkk]) (wpAny_pure (yes (List.mem_map.mpr ⟨p, hmem, hkk⟩)))
        · refine wp_if_neg (by simp [hkk]) ?_
          try refine wpAny_bind (wpAny_pure ?_)
          rw [sameMem]
          dsimp only
          have hsl : t.slot (way t.mask (knd.hash k) (c + q)) = .live i := slot_live R.tab.ris hi
          simp only [if_true, hsl, rows_at R.rows hp]
          refine wpAny_bind (wpAny_isSame_ref_self (wpAny_bind (wpAny_pure ?_)))
          simp only [if_true]
          refine wp_if_neg (by simp [hkk]) ?_
          refine ih (c + (q + 1)) _ rfl (by omega) (by omega) fun i0 p0 h0 hk0 => ?_
          obtain ⟨c', a1, a2, a3⟩ := ahead i0 p0 h0 hk0
          have ge := passed hno i0 p0 c' h0 hk0 a1 a3
          refine ⟨c', ?_, a2, a3⟩
          rcases Nat.lt_or_ge (c + q) c' with y | y
          · omega
          exfalso
          have ec : c + q = c' := Nat.le_antisymm ge y
          rw [← ec] at a3
          have s0 := slot_live R.tab.ris a3
          rw [hsl] at s0
          injection s0 with s0
          rw [← s0, hp] at h0
          exact hkk ((congrArg Prod.snd (Option.some.inj h0)).trans hk0)
      by_cases hl : t.led = true
      · refine wp_if_neg (by simp [hl]) ?_
        try refine wpAny_bind (wpAny_pure ?_)
        exact rest
      · refine wp_if_pos (by simp [hl]) ?_
        refine wpAny_bind (not_seen Y hx (fun y hy => ?_) ?_)
        · obtain ⟨e, he, ee⟩ := List.mem_map.mp hy
          have he1 : e ∈ es ∧ e.1 = knd.hash k := by simpa using he
          have he2 : e ∈ es.toList := by simpa using he1.1
          rw [R.rows] at he2
          obtain ⟨p2, hp2, e2⟩ := List.mem_map.mp he2
          exact ⟨p2.2, p2.1, by rw [← ee, ← e2], R.mem p2 hp2⟩
        · refine wp_if_neg (by decide) ?_
          try refine wpAny_bind (wpAny_pure ?_)
          exact rest
    · have hpr' : t.probe (fun i => (es[i]?.map (·.1)).getD 0) (knd.hash k) (st.getD (t.probeStart (knd.hash k))) = some (.empty (way t.mask (knd.hash k) K) none) := by
        have hpr2 := hpr
        rw [slotAt', back] at hpr2
        rw [hst]
        exact hpr2
      rw [hpr']
      dsimp only
      refine wpAny_pure (no fun hm => ?_)
      obtain ⟨p0, h0, hk0⟩ := List.mem_map.mp hm
      obtain ⟨i0, hi0⟩ := List.mem_iff_getElem?.mp h0
      obtain ⟨c', a1, a2, a3⟩ := ahead i0 p0 hi0 hk0
      have := passed hno i0 p0 c' hi0 hk0 a1 a3
      omega
theorem seek_all (Y : Asked knd) (R : SetK knd s.heap a L es ep t) {x : Addr} {k : κ} (hx : knd.is s.heap k x) (hu : knd.room A) {Q : SetFound → Shared → Prop} (yes : k ∈ L.map (·.2) → Q (.there none) s)
    (no : ∀ K, k ∉ L.map (·.2) → way t.mask (knd.hash k) K ∉ t.place.toList → (∀ c, c < K → way t.mask (knd.hash k) c ∈ t.place.toList) → Q (.free (way t.mask (knd.hash k) K) false) s) :
    wpAny (model P w) A (setSearch a (.ref x) (knd.hash k) true) Q E s := by
  have hroom := R.room
  obtain ⟨K, hKf, hK, hKb⟩ := R.tab.first (by rw [List.length_map]; omega) (knd.hash k)
  have hbig : K < 100000 := by
    have : 10 * SetTable.turns t.mask ≤ 1420 := by
      unfold SetTable.turns
      rcases R.tab.mok with e | e | e <;> omega
    omega
  unfold setSearch
  refine seek Y R hx hu hKf hK hKb yes (fun hn => no K hn hK hKb) 100000 0 none rfl (Nat.zero_le _) (by omega) fun i p hp hk => ?_
  have hi : (L.map (hashOf knd))[i]? = some (knd.hash k) := by rw [List.getElem?_map, hp, ← hk]; rfl
  have hil : i < t.place.toList.length := by
    have h1 : i < L.length := (List.getElem?_eq_some_iff.mp hp).1
    have h2 := R.tab.sz
    rw [List.length_map] at h2
    rw [Array.length_toList]
    omega
  have hj := List.getElem?_eq_getElem hil
  obtain ⟨c, hc, e⟩ := R.tab.before hK hi hj
  exact ⟨c, Nat.zero_le _, hc, by rw [hj, e]⟩
end
end K28
/-! # A set of keys grows; set(list) -/
namespace K28
open PySem PySem.Spec PyProof.Rows L2
section
variable {P : Program} {w : World} {κ : Type} [DecidableEq κ] {knd : HeapKind P w κ} {h h' : Heap} {a : Addr} {L : List (Addr × κ)} {es : Array (Int × Value)} {ep : Nat} {t : SetTable} {A : Around} {E : Value → Shared → Prop} {s : Shared}
/-- a list's members by numbers: all of them again -/
theorem pick_all {α : Type} (L : List α) : (List.range L.length).filterMap (fun i => L[i]?) = L := by
  suffices h : ∀ n, n ≤ L.length → (List.range n).filterMap (fun i => L[i]?) = L.take n by
    rw [h _ (Nat.le_refl _), List.take_length]
  intro n
  induction n with
  | zero => intro _; rfl
  | succ n ih =>
    intro hn
    have hg : L[n]? = some L[n] := List.getElem?_eq_getElem hn
    rw [List.range_succ, List.filterMap_append, ih (Nat.le_of_lt hn), take_get hg, List.filterMap_cons_some hg, List.filterMap_nil]
/-- the rows in another order -/
theorem rows_order (order : Array Nat) (hr : es.toList = L.map (rowOf knd)) (hp : order.toList.Perm (List.range L.length)) :
    ∃ L2 : List (Addr × κ), (order.filterMap (es[·]?)).toList = L2.map (rowOf knd) ∧ L2.Perm L ∧ L2.map (hashOf knd) = order.toList.map fun i => (es.map (·.1)).getD i 0 := by
  have hin : ∀ i ∈ order.toList, i < L.length := fun i hi => List.mem_range.mp (hp.mem_iff.mp hi)
  refine ⟨order.toList.filterMap fun i => L[i]?, ?_, ?_, ?_⟩
  · rw [show (order.filterMap (es[·]?)).toList = order.toList.filterMap (es[·]?) by first | exact Array.toList_filterMap .. | simp]
    generalize order.toList = l at hin
    induction l with
    | nil => rfl
    | cons i l ih =>
      have hi := List.getElem?_eq_getElem (hin i List.mem_cons_self)
      rw [List.filterMap_cons_some (rows_at hr hi), List.filterMap_cons_some hi, List.map_cons, ih fun j hj => hin j (List.mem_cons_of_mem _ hj)]
  · have := hp.filterMap fun i => L[i]?
    rw [pick_all] at this
    exact this
  · generalize order.toList = l at hin
    induction l with
    | nil => rfl
    | cons i l ih =>
      have hi := List.getElem?_eq_getElem (hin i List.mem_cons_self)
      rw [List.filterMap_cons_some hi, List.map_cons, List.map_cons, ih fun j hj => hin j (List.mem_cons_of_mem _ hj)]
      congr 1
      rw [Array.getD_eq_getD_getElem?, Array.getElem?_map, rows_at hr hi]
      rfl
/-- the table laid anew -/
theorem relay_k (Y : Asked knd) {o : Obj} (ho : s.heap.get? a = some o) (hex : o.ExactSet) (hd : o.data = .set es ep t) (hr : es.toList = L.map (rowOf knd)) (hz : t.place.size = es.size) (hdm : t.dummies = #[]) (hfl : es.size ≤ t.mask)
    (nd : (L.map (·.2)).Nodup) (mem : ∀ p ∈ L, knd.is s.heap p.2 p.1) (pl : t.plain = true) (ld : w.params.followText "set-order" = true ∨ t.led = true) (few : L.length < 64) {n M : Nat} (hw : SetTable.sizeAbove n - 1 = M) (hM : MaskOk M)
    (hw2 : SetTable.sizeAbove n ≤ 128) (hn : L.length * 5 < M * 3) {Q : Unit → Shared → Prop} (hQ : ∀ h' L' es' ep' t', Heap.SameBut a s.heap h' → SetK knd h' a L' es' ep' t' → L'.Perm L → Q () { s with heap := h' }) :
    wpAny (model P w) A (setRelay a n) Q E s := by
  have hsl := rows_size hr
  have hfits : t.fits es.size = true := by
    unfold SetTable.fits SetTable.fill
    rw [hdm, Bool.and_eq_true, beq_iff_eq, decide_eq_true_eq]
    show t.place.size = es.size ∧ t.place.size + 0 ≤ t.mask
    omega
  obtain ⟨t', order, e, hp, T, em, el, epl, ed⟩ := relaid_ok t (hs := es.map (·.1)) (wanted := n) hw hM (by rw [Array.size_map, hsl]; omega)
  rw [Array.size_map, hsl] at hp
  obtain ⟨L2, r1, r2, r3⟩ := rows_order order hr hp
  rw [← r3] at T
  have hs2 : (order.filterMap (es[·]?)).size = es.size := by rw [rows_size r1, r2.length_eq, hsl]
  rw [setRelay_eq]
  refine wpAny_bind (wpAny_setState_of ho hd hfits ?_)
  dsimp only
  refine wp_if_neg (by rw [sizeLine_eq]; omega) ?_
  try refine wpAny_bind (wpAny_pure ?_)
  rw [e]
  dsimp only
  refine wpAny_bind (wp_if_neg (by rw [hs2]; simp) ?_)
  try refine wpAny_bind (wpAny_pure ?_)
  refine wpAny_pure ?_
  dsimp only
  refine wpAny_storeSet_of ho hd ?_ (by rw [hs2, hsl, sizeLine_eq]; omega)
  have sb : Heap.SameBut a s.heap (s.heap.update a (Obj.putSet (order.filterMap (es[·]?)) t')) := Heap.SameBut.update ..
  exact hQ _ L2 _ (ep + 1) t' sb ⟨⟨_, store_at ho hd, ⟨hex.1, hex.2.1, hex.2.2⟩, rfl⟩, r1, T, (r2.map (·.2)).nodup_iff.mpr nd, fun p hpm => key_but Y (mem p (r2.mem_iff.mp hpm)) ho hd sb, by rw [epl]; exact pl, by rw [el]; exact ld,
    by rw [r2.length_eq, em]; exact hn, by rw [r2.length_eq]; exact few⟩ r2
/-- a key goes in -/
theorem add_k (Y : Asked knd) (R : SetK knd s.heap a L es ep t) {x : Addr} {k : κ} (hx : knd.is s.heap k x) (hu : knd.room A) (few : L.length + 1 < 64) {Q : Bool → Shared → Prop}
    (hQ : ∀ b h' L' es' ep' t', Heap.SameBut a s.heap h' → SetK knd h' a L' es' ep' t' → (k ∈ L.map (·.2) → L' = L) → (k ∉ L.map (·.2) → L'.Perm ((x, k) :: L)) → Q b { s with heap := h' }) : wpAny (model P w) A (setAddHashed a (.ref x) (knd.hash k)) Q E s := by
  obtain ⟨o, ho, hex, hd⟩ := R.ob
  have hsl := rows_size R.rows
  have hroom := R.room
  unfold setAddHashed
  refine wpAny_holding ?_
  rw [show (100000 : Nat) = 99999 + 1 from rfl, setAddHashedIn_succ]
  refine wpAny_bind (wpAny_setState_of ho hd R.fits ?_)
  dsimp only
  refine wp_if_neg (by simp [byScan, Value.scannable]) ?_
  try refine wpAny_bind (wpAny_pure ?_)
  refine wpAny_bind (seek_all Y R hx hu (fun hm => wpAny_pure (hQ false s.heap L es ep t (Heap.SameBut.refl a s.heap) R (fun _ => rfl) fun z => absurd hm z)) fun K hm hK hb => ?_)
  dsimp only
  refine wpAny_bind (wpAny_setState_of ho hd R.fits ?_)
  dsimp only
  obtain ⟨q1, q2, q3, q4, q5, q6, _, _, q9⟩ := R.tab.put hK hb
  have hp1 : (t.put (way t.mask (knd.hash k) K)).1.plain = true := by rw [q6]; exact R.plain
  generalize t.put (way t.mask (knd.hash k) K) = pt at q1 q3 q4 q5 q6 q9 hp1 ⊢
  obtain ⟨t1, p⟩ := pt
  dsimp only at q1 q3 q4 q5 q6 q9 hp1 ⊢
  subst q1
  first
    | (refine wpAny_bind ?_; refine wp_if_pos hp1 ?_; refine Y.byv hx ?_)
    | refine wp_if_pos hp1 (wpAny_bind (Y.byv hx ?_))
  simp only [if_true]
  generalize SetTable.below t.place (way t.mask (knd.hash k) K) = p at q2 q3 ⊢
  have hin : (SetTable.insertAt es p (rowOf knd (x, k))).toList = (L.take p ++ (x, k) :: L.drop p).map (rowOf knd) := by
    rw [SetTable.toList_insertAt, R.rows, List.map_append, List.map_cons, List.map_take, List.map_drop]
  have pm : (L.take p ++ (x, k) :: L.drop p).Perm ((x, k) :: L) := by
    have := List.perm_middle (a := (x, k)) (l₁ := L.take p) (l₂ := L.drop p)
    rw [List.take_append_drop] at this
    exact this
  have hhs : (L.map (hashOf knd)).take p ++ knd.hash k :: (L.map (hashOf knd)).drop p = (L.take p ++ (x, k) :: L.drop p).map (hashOf knd) := by
    rw [List.map_append, List.map_cons, List.map_take, List.map_drop]
  rw [hhs] at q3
  have hlen := pm.length_eq
  rw [List.length_cons] at hlen
  have nd1 : ((L.take p ++ (x, k) :: L.drop p).map (·.2)).Nodup := (pm.map (·.2)).nodup_iff.mpr (by rw [List.map_cons]; exact List.nodup_cons.mpr ⟨hm, R.nd⟩)
  generalize L.take p ++ (x, k) :: L.drop p = L1 at pm hlen q3 nd1 hin
  have hes := rows_size hin
  show wpAny _ _ (storeSet a (SetTable.insertAt es p (rowOf knd (x, k))) t1 >>= _) _ _ _
  generalize SetTable.insertAt es p (rowOf knd (x, k)) = es1 at hin hes ⊢
  refine wpAny_bind (wpAny_storeSet_of ho hd ?_ (by rw [hes, hlen, sizeLine_eq]; omega))
  have sb : Heap.SameBut a s.heap (s.heap.update a (Obj.putSet es1 t1)) := Heap.SameBut.update ..
  have ho1 := store_at (es' := es1) (t' := t1) ho hd
  generalize s.heap.update a (Obj.putSet es1 t1) = h1 at sb ho1 ⊢
  have mem1 : ∀ p ∈ L1, knd.is h1 p.2 p.1 := fun p hp => by
    rcases List.mem_cons.mp (pm.mem_iff.mp hp) with e | hp
    · rw [e]; exact key_but Y hx ho hd sb
    · exact key_but Y (R.mem p hp) ho hd sb
  have ld1 : w.params.followText "set-order" = true ∨ t1.led = true := by rw [q5]; exact R.led
  have fill1 : t1.fill = L.length + 1 := by rw [q9, List.length_map]
  by_cases hf : t1.tooFull = true
  · first
      | (refine wpAny_bind ?_; refine wp_if_pos (by simp [hf]) ?_)
      | (refine wp_if_pos (by simp [hf]) ?_; refine wpAny_bind ?_)
    have hfull : (L.length + 1) * 5 ≥ t1.mask * 3 := by
      unfold SetTable.tooFull at hf
      rw [decide_eq_true_eq, fill1] at hf
      exact hf
    rw [hsl]
    have hsz1 : t1.place.size = es1.size := by
      have := q3.sz
      rw [List.length_map] at this
      rw [this, hes]
    have cases2 : (t.mask = 7 ∧ L.length = 4) ∨ (t.mask = 31 ∧ L.length = 18) := by
      rcases R.tab.mok with e | e | e
      · left; rw [q4, e] at hfull; rw [e] at hroom; exact ⟨e, by omega⟩
      · right; rw [q4, e] at hfull; rw [e] at hroom; exact ⟨e, by omega⟩
      · exfalso; rw [q4, e] at hfull; omega
    have go : ∀ M, SetTable.sizeAbove (SetTable.grown (L.length + 1)) - 1 = M → MaskOk M → SetTable.sizeAbove (SetTable.grown (L.length + 1)) ≤ 128 → (L.length + 1) * 5 < M * 3 →
        wpAny (model P w) A (setRelay a (SetTable.grown (L.length + 1))) (fun _ s' => wpAny (model P w) A (pure true) Q E s') E { s with heap := h1 } := fun M h1' h2' h3' h4' =>
      relay_k (s := { s with heap := h1 }) Y ho1 ⟨hex.1, hex.2.1, hex.2.2⟩ rfl hin hsz1 q3.dm (by rw [hes, hlen, q4]; rcases cases2 with ⟨e, e2⟩ | ⟨e, e2⟩ <;> omega) nd1 mem1 hp1 ld1 (by rw [hlen]; exact few) h1' h2' h3' (by rw [hlen]; exact h4')
        fun h2 L2 es2 ep2 t2 sb2 R2 pm2 => wpAny_pure (hQ true h2 L2 es2 ep2 t2 (sb.trans sb2) R2 (fun z => absurd z hm) fun _ => pm2.trans pm)
    rcases cases2 with ⟨_, e2⟩ | ⟨_, e2⟩
    · exact go 31 (by rw [e2, size_20]) (.inr (.inl rfl)) (by rw [e2, size_20]; decide) (by omega)
    · exact go 127 (by rw [e2, size_76]) (.inr (.inr rfl)) (by rw [e2, size_76]; decide) (by omega)
  · first
      | refine wp_if_neg (by simp [hf]) ?_
      | (refine wpAny_bind ?_; refine wp_if_neg (by simp [hf]) ?_; refine wpAny_pure ?_)
    refine wpAny_pure (hQ true h1 L1 es1 (ep + 1) t1 sb ⟨⟨_, ho1, ⟨hex.1, hex.2.1, hex.2.2⟩, rfl⟩, hin, q3, nd1, mem1, hp1, ld1, ?_, by rw [hlen]; exact few⟩ (fun z => absurd z hm) fun _ => pm)
    unfold SetTable.tooFull at hf
    rw [decide_eq_true_eq, fill1] at hf
    rw [hlen]
    omega
/-- the empty set of keys -/
abbrev newSet (w : World) : Obj := { cls := .type "set", dict := none, data := .set #[] 0 (.fresh 0 0 (!w.params.followText "set-order")) }
theorem setK_new (ho : h.get? a = some (newSet w)) : SetK knd h a [] #[] 0 (.fresh 0 0 (!w.params.followText "set-order")) where
  ob := ⟨_, ho, ⟨rfl, rfl, rfl⟩, rfl⟩
  rows := rfl
  tab := ⟨List.Pairwise.nil, rfl, rfl, .inl rfl, fun x hx => (by cases hx), fun i h j hi => (by simp at hi)⟩
  nd := List.nodup_nil
  mem := fun p hp => (by cases hp)
  plain := rfl
  led := by
    show _ ∨ (!w.params.followText "set-order") = true
    cases w.params.followText "set-order"
    · exact .inr rfl
    · exact .inl rfl
  room := by show 0 * 5 < 7 * 3; decide
  few := by show 0 < 64; decide

/-! ### set(xs), xs a list, whatever its members -/
/-- how the set at S stands behind i items, M i; a turn takes it on -/
structure Grows (P : Program) (w : World) (A : Around) (E : Value → Shared → Prop) (h0 : Heap) (S : Addr) (vs : Array Value) (M : Nat → Heap → Prop) : Prop where
  new : ∀ h, h.get? S = some (newSet w) → (∀ b o, h0.get? b = some o → h.get? b = some o) → M 0 h
  keep : ∀ i h h', i ≤ vs.size → M i h → (∀ o, h.get? S = some o → h'.get? S = some o) → (∀ b o, h0.get? b = some o → h'.get? b = some o) → M i h'
  turn : ∀ (i : Nat) (v : Value) (s : Shared) (Q : Bool → Shared → Prop) (E' : Value → Shared → Prop), vs[i]? = some v → (∀ b o, h0.get? b = some o → s.heap.get? b = some o) → M i s.heap →
    (∀ b h' tk, s.toks ≤ tk → Heap.SameBut S s.heap h' → M (i + 1) h' → Q b { s with heap := h', toks := tk }) → wpAny (model P w) A (setAdd S v) Q E' s
theorem grow_loop {I : Addr} {fp wr : List Addr} {G : Array GenState → Array GenState → Prop} {vs : Array Value} {St : Nat → Shared → Prop} {R : Result → Shared → Prop} {S : Addr} {h0 : Heap} {M : Nat → Heap → Prop}
    (W : WalksS P w A.in1 I fp wr G vs.size (fun i v => vs[i]? = some v) St) (hSf : S ∉ fp) (hS0 : h0.get? S = none) (hw0 : ∀ b ∈ wr, h0.get? b = none) (Z : Grows P w A.in1 E h0 S vs M) :
    ∀ (k i : Nat) (s : Shared), vs.size - i = k → i ≤ vs.size → St i s → (∀ b o, h0.get? b = some o → s.heap.get? b = some o) → M i s.heap →
      (∀ s', Moved (S :: wr) G s s' → M vs.size s'.heap → (∀ b o, h0.get? b = some o → s'.heap.get? b = some o) → R (.ok (.ret .none)) s') →
      codeAny (model P w) A (.builtin "set.update.loop" ⟨[.ref S, .ref I], []⟩) R s := by
  have hSw : S ∉ wr := fun h => hSf (W.sub _ h)
  have wide : ∀ b ∈ wr, b ∈ S :: wr := fun b hb => List.mem_cons_of_mem _ hb
  have on : ∀ {s s' : Shared}, Moved wr G s s' → (∀ b o, h0.get? b = some o → s.heap.get? b = some o) → ∀ b o, h0.get? b = some o → s'.heap.get? b = some o := fun hm hk b o e =>
    hm.heap b o (fun hb => by rw [hw0 b hb] at e; cases e) (hk b o e)
  intro k
  induction k with
  | zero =>
    intro i s hk' hi hst hk hM hR
    have hin : i = vs.size := by omega
    subst hin
    refine codeAny_builtin F.entry_set_update_loop ?_
    rw [Around.under_plainId F.plain_set_update_loop _]
    show wpAny _ A.in1 (pyNext (.ref I) >>= _) _ _ s
    refine wpAny_bind (W.done s _ _ hst fun s' hm => ?_)
    show wpAny _ A.in1 (ret Value.none) _ _ s'
    exact wpAny_pure (hR s' (hm.mono wide) (Z.keep _ _ _ (Nat.le_refl _) hM (fun o e => hm.heap S o hSw e) (on hm hk)) (on hm hk))
  | succ k ih =>
    intro i s hk' hi hst hk hM hR
    have hlt : i < vs.size := by omega
    refine codeAny_builtin F.entry_set_update_loop ?_
    rw [Around.under_plainId F.plain_set_update_loop _]
    show wpAny _ A.in1 (pyNext (.ref I) >>= _) _ _ s
    refine wpAny_bind (W.item i s _ _ hlt hst fun v s' hv hst' hm => ?_)
    show wpAny _ A.in1 (holding [v] (setAdd S v) >>= _) _ _ s'
    refine wpAny_bind (wpAny_holding (Z.turn i v s' _ _ hv (on hm hk) (Z.keep _ _ _ hi hM (fun o e => hm.heap S o hSw e) (on hm hk)) fun b h' tk htk hsb hM2 => ?_))
    refine wpAny_pure ⟨plainId_quiet F.plain_set_update_loop _, ih (i + 1) _ (by omega) hlt (W.frame _ s' _ _ hst' htk fun b hb o e => ?_)
      (fun b o e => (hsb.2 b (fun z => by rw [z, hS0] at e; cases e)).trans (on hm hk b o e)) hM2 fun s'' hm'' hM'' hk'' => ?_⟩
    · exact (hsb.2 b (fun z => hSf (z ▸ hb))).trans e
    · exact hR s'' (Moved.trans W.gtrans ((hm.mono wide).then_heap htk fun b o hb e => (hsb.2 b (fun z => hb (z ▸ List.mem_cons_self))).trans e) hm'') hM'' hk''
set_option maxRecDepth 100000 in
set_option maxHeartbeats 3200000 in
theorem set_of_list {l : Addr} {vs : Array Value} {M : Nat → Heap → Prop} {Q : Value → Shared → Prop} (hh : A.handled = none) (hl : s.heap.IsList l vs) (Z : ∀ A', A'.units ≤ A.units + 3 → A'.handled = none → Grows P w A' E s.heap s.heap.objs.size vs M)
    (h : ∀ (h' : Heap) (tk : Nat), M vs.size h' → (∀ b o, s.heap.get? b = some o → h'.get? b = some o) → Q (.ref s.heap.objs.size) { s with heap := h', toks := tk }) : wpAny (model P w) A (call (.type "set") [.ref l]) Q E s := by
  obtain ⟨c, tl, hmro⟩ := F.called_set.mro
  have hmade := F.called_set.made
  have hsub := F.called_set.sub
  refine wpAny_call (codeAny_of_tree ?_)
  show wpAny _ _ (callAny (.type "set") _) _ _ _
  refine wpAny_pure ⟨Code.quiet_builtin _ (by decide +kernel), codeAny_builtin F.entry_type_call ?_⟩
  rw [Around.under_plain (weight_type_call_type "set" [.ref l] []) rfl]
  have h1 := F.called_set.notType
  have h2 := F.called_set.canCreate
  have hct := F.typeCall_set_1 (.ref l)
  repeat (any_goals (first | assumption | wp_step))
  refine codeAny_mono (code_set_led1 (.ref l) (E := E) (Q₁ := fun obj s₁ => obj = .ref s.heap.objs.size ∧ s₁ = { s with heap := s.heap.push (newSet w) }) ⟨rfl, rfl⟩) fun r s₁ hr => ?_
  cases r with
  | error e => exact hr
  | ok fl =>
    cases fl with
    | ret obj =>
      obtain ⟨rfl, rfl⟩ := hr
      have hS : (s.heap.push (newSet w)).get? s.heap.objs.size = some (newSet w) := Heap.get?_push_size _ rfl
      have hT : Shared.TypeIs { s with heap := s.heap.push (newSet w) } (.ref s.heap.objs.size) "set" := ⟨_, hS, rfl⟩
      have hli := F.called_set.init.lookup
      have hbi := F.called_set.init.bind (.ref s.heap.objs.size)
      repeat (any_goals (first | assumption | wp_step))
      refine codeAny_mono (codeAny_call_builtin (R := wants (fun r s₂ => r = .none ∧ ∃ h' tk, s₂ = { s with heap := h', toks := tk } ∧ M vs.size h' ∧ (∀ b o, s.heap.get? b = some o → h'.get? b = some o)) E) F.called_set.init.plain F.entry_set_init (check_set_init_1 hT ?_)) fun r₂ s₂ hr₂ => ?_
      · obtain ⟨ol, hol, hcl, nl, hdl⟩ := hl
        obtain ⟨ocls, odict, odata, oslots⟩ := ol
        simp only at hcl hdl
        subst hcl; subst hdl
        have hol' : (s.heap.push (newSet w)).get? l = some { cls := .type "list", dict := odict, data := .seq vs nl, slots := oslots } := Heap.get?_push_of_some _ hol
        have hsls := F.sub_list_set
        have hslf := F.sub_list_frozenset
        have hne : (Value.type "list" == Value.type "dict") = false := by decide
        have hl1 : (s.heap.push (newSet w)).IsList l vs := ⟨_, hol', rfl, nl, rfl⟩
        unfold Builtin.«set.__init__» noKeywords Builtin.Frozenset.updateFrom
        generalize hPI : pyIter = PI
        wp_walk
        subst hPI
        refine wpAny_pyIter_list hl1 ?_
        refine wpAny_bind (wpAny_runValue ?_)
        have hlS : l < s.heap.objs.size := Heap.lt_size hol
        have hz1 : (s.heap.push (newSet w)).objs.size = s.heap.objs.size + 1 := Heap.size_push ..
        have hneI : l ≠ (s.heap.push (newSet w)).objs.size := by rw [hz1]; exact Nat.ne_of_lt (Nat.lt_succ_of_lt hlS)
        have hSf : s.heap.objs.size ∉ [(s.heap.push (newSet w)).objs.size, l] := by
          rw [hz1]; simp only [List.mem_cons, List.not_mem_nil, or_false, not_or]
          exact ⟨Nat.ne_of_lt (Nat.lt_succ_self _), Nat.ne_of_gt hlS⟩
        have none_of : ∀ b, s.heap.objs.size ≤ b → s.heap.get? b = none := fun b hb => by
          cases q : s.heap.get? b with
          | none => rfl
          | some o => exact absurd (Nat.lt_of_lt_of_le (Heap.lt_size q) hb) (Nat.lt_irrefl _)
        have keep2 : ∀ (o1 : Obj) b o, s.heap.get? b = some o → ((s.heap.push (newSet w)).push o1).get? b = some o := fun o1 b o e => Heap.get?_push_of_some _ (Heap.get?_push_of_some _ e)
        refine grow_loop (E := E) ((Walks.list (by simp [hh]) _ l hneI vs).toS) hSf (none_of _ (Nat.le_refl _)) (fun b hb => none_of b (by rw [List.mem_singleton.mp hb, hz1]; exact Nat.le_succ _))
          (Z A.in1.in1.in1 (by simp only [Around.in1_units]; omega) (by simp [hh])) (vs.size - 0) 0 _ (by omega) (Nat.zero_le _) ⟨⟨_, Heap.get?_push_size _ rfl, rfl, rfl⟩, (hl1.push _)⟩ (keep2 _) ((Z A.in1.in1.in1 (by simp only [Around.in1_units]; omega) (by simp [hh])).new _ (Heap.get?_push_of_some _ hS) (keep2 _)) ?hR
        case hR =>
          intro s' hm hM' hk'
          obtain ⟨h', g2, d', tk', os'⟩ := s'
          have eg : g2 = s.gens := hm.gens
          have ed : d' = s.drawn := hm.drawn
          have eo : os' = s.os := hm.os
          subst eg; subst ed; subst eo
          show wpAny _ _ _ _ _ _
          refine wpAny_pure ?_
          show wpAny _ _ (ret Value.none) _ _ _
          exact wpAny_pure ⟨rfl, h', tk', rfl, hM', hk'⟩
      · cases r₂ with
        | error e => exact hr₂
        | ok fl₂ =>
          cases fl₂ with
          | ret r =>
            obtain ⟨rfl, h', tk, rfl, hM', hk'⟩ := hr₂
            repeat (any_goals (first | assumption | wp_step))
            exact h _ _ hM' hk'
          | _ => exact hr₂.elim
    | _ => exact hr.elim
end
end K28
/-! # set(..) and sorted(..) as rules: of ints, of kinds -/
namespace K28
open PySem PySem.Spec PyProof.Rows L2
open Evl (Ex ex_l ex_t)
/-! ### the order of kinds -/
def ltKd (a b : Kd) : Prop := a.1 < b.1 ∨ (a.1 = b.1 ∧ a.2 < b.2)
instance (a b : Kd) : Decidable (ltKd a b) := inferInstanceAs (Decidable (_ ∨ _))
theorem eqv_ints : ∀ xs ys : List Int, PyData.eqvAll (xs.map .int) (ys.map .int) = decide (xs = ys)
  | [], [] => rfl
  | [], _ :: _ => rfl
  | _ :: _, [] => rfl
  | x :: xs, y :: ys => by
    show (PyData.eqv (.int x) (.int y) && PyData.eqvAll (xs.map .int) (ys.map .int)) = _
    rw [eqv_ints xs ys]
    simp only [PyData.eqv]
    by_cases h : x = y <;> by_cases h2 : xs = ys <;> simp [h, h2]
theorem lt_ints_irrefl (xs : List Int) : ¬ xs < xs := List.lt_irrefl xs
theorem dataLt_kd (a b : Kd) : PySem.W.dataLt (kdD a) (kdD b) = decide (ltKd a b) := by
  unfold kdD
  have h2 : PySem.W.dataLt (.tuple (a.2.map .int)) (.tuple (b.2.map .int)) = decide (a.2 < b.2) := by
    rw [PySem.W.dataLt_tuple]
    exact PySem.W.dataLt_ints _ _
  rw [PySem.W.dataLt_pair (by simp [PySem.W.alike]) (by simp [PySem.W.alike, PySem.W.alike_ints]), PySem.W.dataLt_int, h2]
  have e2 : PyData.eqv (.tuple (a.2.map .int)) (.tuple (b.2.map .int)) = decide (a.2 = b.2) := by
    show PyData.eqvAll _ _ = _
    exact eqv_ints _ _
  have e1 : PyData.eqv (.int a.1) (.int b.1) = decide (a.1 = b.1) := by
    simp only [PyData.eqv]
    by_cases c : a.1 = b.1 <;> simp [c]
  rw [e1, e2, Bool.eq_iff_iff]
  refine Iff.trans ?_ decide_eq_true_iff.symm
  by_cases c1 : a.1 = b.1
  · rw [if_pos (decide_eq_true c1)]
    by_cases c2 : a.2 = b.2
    · rw [if_pos (decide_eq_true c2)]
      refine ⟨fun z => (by cases z), fun z => ?_⟩
      rcases z with z | ⟨_, z⟩
      · omega
      · rw [c2] at z; exact absurd z (lt_ints_irrefl _)
    · rw [if_neg (by simpa using c2), decide_eq_true_iff]
      refine ⟨fun z => .inr ⟨c1, z⟩, fun z => ?_⟩
      rcases z with z | ⟨_, z⟩
      · omega
      · exact z
  · rw [if_neg (by simpa using c1), decide_eq_true_iff]
    refine ⟨.inl, fun z => ?_⟩
    rcases z with z | ⟨z, _⟩
    · exact z
    · exact absurd z c1
theorem leKd_eq (a b : Kd) : leKd a b = !decide (ltKd b a) := by
  unfold leKd
  rw [dataLt_kd]
theorem ltKd_irrefl (a : Kd) : ¬ ltKd a a := fun h => h.elim (fun h => Int.lt_irrefl _ h) fun h => lt_ints_irrefl _ h.2
theorem ltKd_trans {a b c : Kd} (h : ltKd a b) (h' : ltKd b c) : ltKd a c := by
  rcases h with h | ⟨h1, h2⟩ <;> rcases h' with h' | ⟨h1', h2'⟩
  · exact .inl (Int.lt_trans h h')
  · exact .inl (h1' ▸ h)
  · exact .inl (h1 ▸ h')
  · exact .inr ⟨h1.trans h1', List.lt_trans h2 h2'⟩
theorem ltKd_total {a b : Kd} (h : ¬ ltKd a b) (h' : ¬ ltKd b a) : a = b := by
  have e1 : a.1 = b.1 := by
    rcases Int.lt_trichotomy a.1 b.1 with c | c | c
    · exact absurd (.inl c) h
    · exact c
    · exact absurd (.inl c) h'
  have n1 : ¬ a.2 < b.2 := fun c => h (.inr ⟨e1, c⟩)
  have n2 : ¬ b.2 < a.2 := fun c => h' (.inr ⟨e1.symm, c⟩)
  exact Prod.ext e1 (List.le_antisymm (List.not_lt.mp n2) (List.not_lt.mp n1))
theorem leKd_trans {a b c : Kd} (h : leKd a b = true) (h' : leKd b c = true) : leKd a c = true := by
  rw [leKd_eq] at h h' ⊢
  simp only [Bool.not_eq_true', decide_eq_false_iff_not] at h h' ⊢
  intro q
  by_cases c1 : ltKd a b
  · exact h' (ltKd_trans q c1)
  · have := ltKd_total c1 h
    subst this
    exact h' q
theorem leKd_total (a b : Kd) : (leKd a b || leKd b a) = true := by
  rw [leKd_eq, leKd_eq]
  by_cases c : ltKd b a
  · have : ¬ ltKd a b := fun q => ltKd_irrefl _ (ltKd_trans c q)
    simp [this]
  · simp [c]
/-! ### sets of ints -/
section
variable {P : Program} {w : World} {A : Around} {E : Value → Shared → Prop} {s : Shared}
theorem ints_val {us : List Value} {ns : List Int} (h : IntsAre us ns) {i : Nat} {v : Value} (e : us[i]? = some v) : ∃ k t, ns[i]? = some k ∧ v = .int k t := by
  induction h generalizing i with
  | nil => simp at e
  | cons k t _ ih =>
    cases i with
    | zero => exact ⟨k, t, rfl, (Option.some.inj e).symm⟩
    | succ i => exact ih (by simpa using e)
theorem grows_ints {h0 : Heap} {S : Addr} {vs : Array Value} {ns : List Int} (hv : IntsAre vs.toList ns) (hb : ns.length + 1 < scanBound) : Grows P w A E h0 S vs (fun i h => ∃ c, c ≤ i ∧ SetR w h S (fun j => decide (j ∈ ns.take i)) c) where
  new := fun h ho _ => ⟨0, Nat.le_refl 0, setR_new_at ho⟩
  keep := fun i h h' _ ⟨c, hc, hS⟩ k _ => ⟨c, hc, hS.at k⟩
  turn := fun i v s Q E' hi _ ⟨c, hc, hS⟩ q => by
    obtain ⟨z, t, hz, rfl⟩ := ints_val hv (by rw [Array.getElem?_toList]; exact hi)
    have hl := (List.getElem?_eq_some_iff.mp hz).1
    unfold setAdd
    refine wpAny_holding (wpAny_bind ((intKind P w).pyHash (k := z) (intKind_is _ _ _ _) ?_))
    refine setR_add_hashed (s := { s with toks := s.toks + 1 }) hS (by omega) fun h' hsb hS2 => ?_
    refine q _ h' (s.toks + 1) (Nat.le_succ _) hsb ⟨_, ?_, hS2.congr fun j => ?_⟩
    · split <;> omega
    · rw [List.take_add_one, hz]
      simp [List.mem_append]
theorem setR_few {h : Heap} {a : Addr} {ns : List Int} {n B : Nat} (R : SetR w h a (fun j => decide (j ∈ ns)) n) (hB : ∀ k ∈ ns, 0 ≤ k ∧ k < B) : n ≤ B := by
  obtain ⟨o, es, ep, t, _, _, _, _, nd, hm, _, _, hn, _, _⟩ := R
  have hin : ∀ k ∈ es.toList.map keyOf, 0 ≤ k ∧ k < B := fun k hk => hB k (of_decide_eq_true ((hm k).mpr hk))
  have h1 : ((es.toList.map keyOf).map Int.toNat).Nodup := by
    refine List.pairwise_map.mpr (List.Pairwise.imp_of_mem (fun {x y} hx hy hne e => ?_) nd)
    have := hin x hx
    have := hin y hy
    omega
  have h2 := nat_nodup_len _ (List.range B) h1 fun x hx => by
    obtain ⟨k, hk, rfl⟩ := List.mem_map.mp hx
    have := hin k hk
    exact List.mem_range.mpr (by omega)
  rw [List.length_map, List.length_map, List.length_range, Array.length_toList, hn] at h2
  exact h2
end
section
variable {X : Cx}
/-- set(xs), a list of ints -/
def rSetL (K : PySem.W.Frag) (w : World) : List V → Hp → VK → Prop := fun vs H Q => ∃ (a : Addr) (ns : List Int), vs = [.ref a] ∧ SqL K H a (ns.map V.int) ∧ ns.length < 4000 ∧
  ∀ p n, H p = none → n ≤ ns.length → Q (.ref p) (upd H p (SetO w p (fun j => decide (j ∈ ns)) n))
theorem cr_setL (hc : X.calm = true) : CallR X (.type "set") (rSetL X.K X.w) := by
  intro pins s σ H vs us Q I r h
  obtain ⟨a, ns, rfl, hL, hn, q⟩ := h
  obtain ⟨its, rv, pl, hz⟩ := I.list hL
  rw [Vals.ref1 r]
  have hi : IntsAre its ns := rv.ints
  have hlen : its.toArray.size = ns.length := by rw [List.size_toArray, ← rv.length, List.length_map]
  refine set_of_list (M := fun i h => ∃ c, c ≤ i ∧ SetR X.w h s.heap.objs.size (fun j => decide (j ∈ ns.take i)) c) (I.ok.hd hc) pl.isList (fun A' _ _ => grows_ints (by simpa using hi) (by unfold scanBound; omega)) fun h' tk ⟨c, hcl, hS⟩ k => ?_
  rw [hlen, List.take_length] at hS
  rw [hlen] at hcl
  exact ⟨.ref s.heap.objs.size, upd H s.heap.objs.size (SetO X.w s.heap.objs.size (fun j => decide (j ∈ ns)) c), I.laid (t' := tk) k (Nat.le_refl _) (setO_new hS), rfl, q _ c (I.hok.fresh (Nat.le_refl _)) hcl⟩
/-- set(xs), a tuple of ints of [0, B) -/
def rSetT (K : PySem.W.Frag) (w : World) : List V → Hp → VK → Prop := fun vs H Q => ∃ (a : Addr) (ns : List Int) (B : Nat), vs = [.ref a] ∧ SqT K H a (ns.map V.int) ∧ ns.length < 4000 ∧ (∀ k ∈ ns, 0 ≤ k ∧ k < B) ∧
  ∀ p n, H p = none → n ≤ B → Q (.ref p) (upd H p (SetO w p (fun j => decide (j ∈ ns)) n))
theorem cr_setT (hc : X.calm = true) : CallR X (.type "set") (rSetT X.K X.w) := by
  intro pins s σ H vs us Q I r h
  obtain ⟨a, ns, B, rfl, hT, hn, hB, q⟩ := h
  obtain ⟨its, rv, pt, hz⟩ := I.tuple hT
  rw [Vals.ref1 r]
  have hi : IntsAre its ns := rv.ints
  refine call_set_tupI ns (I.ok.hd hc) pt (by simpa using hi) (by unfold scanBound; omega) fun h' tk c hS hcl k => ?_
  exact ⟨.ref s.heap.objs.size, upd H s.heap.objs.size (SetO X.w s.heap.objs.size (fun j => decide (j ∈ ns)) c), I.laid (t' := tk) k (Nat.le_refl _) (setO_new hS), rfl, q _ c (I.hok.fresh (Nat.le_refl _)) (setR_few hS hB)⟩
end
/-! ### sets of kinds -/
section
variable {P : Program} {w : World} {A : Around} {E : Value → Shared → Prop} {s : Shared}
/-- the set at a, without its members' own objects -/
def SetK0 (P : Program) (w : World) (h : Heap) (a : Addr) (L : List (Addr × Kd)) : Prop := ∃ (es : Array (Int × Value)) (ep : Nat) (t : SetTable), (∃ o, h.get? a = some o ∧ o.ExactSet ∧ o.data = .set es ep t) ∧ es.toList = L.map (rowOf (kindKind P w)) ∧ TabOk t (L.map (hashOf (kindKind P w))) ∧
  (w.params.followText "set-order" = true ∨ t.led = true) ∧ L.length * 5 < t.mask * 3 ∧ L.length < 64
def SetKO (P : Program) (w : World) (a : Addr) (L : List (Addr × Kd)) : HO := .ext fun h => SetK0 P w h a L
theorem SetK.zero {h : Heap} {a : Addr} {L : List (Addr × Kd)} {es : Array (Int × Value)} {ep : Nat} {t : SetTable} (R : SetK (kindKind P w) h a L es ep t) : SetK0 P w h a L := ⟨es, ep, t, R.ob, R.rows, R.tab, R.led, R.room, R.few⟩
theorem setKO_new {H : Hp} {h : Heap} {a : Addr} {L : List (Addr × Kd)} (R : SetK0 P w h a L) : ObjOk P w H h a (SetKO P w a L) := by
  have ⟨es, ep, t, ⟨o, ho, r⟩, q⟩ := id R
  refine ⟨R, ⟨o, ho⟩, fun h1 h2 p k => ?_⟩
  have ⟨es', ep', t', ⟨o', ho', r'⟩, q'⟩ := show SetK0 P w h1 a L from p
  exact ⟨es', ep', t', ⟨o', k o' ho', r'⟩, q'⟩
/-- what stands in the set behind i items of the source -/
structure Fed (ps : List (Addr × Kd)) (i : Nat) (L : List (Addr × Kd)) : Prop where
  sub : ∀ p ∈ L, p ∈ ps.take i
  all : ∀ p ∈ ps.take i, p.2 ∈ L.map (·.2)
  len : L.length ≤ i
theorem grows_kds {h0 : Heap} {S : Addr} {vs : Array Value} {ps : List (Addr × Kd)} (hv : vs.toList = ps.map fun p => Value.ref p.1) (hk : ∀ p ∈ ps, (kindKind P w).is h0 p.2 p.1) (few : ps.length < 64) (hu : A.units + 8 < cLine) :
    Grows P w A E h0 S vs (fun i h => ∃ L es ep t, SetK (kindKind P w) h S L es ep t ∧ Fed ps i L) where
  new := fun h ho _ => ⟨[], #[], 0, _, setK_new ho, ⟨fun p hp => (by cases hp), fun p hp => (by simp at hp), Nat.le_refl _⟩⟩
  keep := fun i h h' _ ⟨L, es, ep, t, R, g⟩ k k0 => ⟨L, es, ep, t, R.at k fun p hp => key_keep kind_asked (hk p (List.mem_of_mem_take (g.sub p hp))) k0, g⟩
  turn := fun i v s Q E' hi k0 ⟨L, es, ep, t, R, g⟩ q => by
    rw [← Array.getElem?_toList, hv, List.getElem?_map] at hi
    obtain ⟨p, hp, rfl⟩ := Option.map_eq_some_iff.mp hi
    have hl := (List.getElem?_eq_some_iff.mp hp).1
    have hx : (kindKind P w).is s.heap p.2 p.1 := key_keep kind_asked (hk p (List.mem_of_getElem? hp)) k0
    unfold setAdd
    refine wpAny_holding (wpAny_bind ((kindKind P w).pyHash hu hx ?_))
    refine add_k kind_asked (s := { s with toks := s.toks + (kindKind P w).draws p.2 }) R hx hu (by have := g.len; omega) fun b h' L' es' ep' t' hsb R2 c1 c2 => ?_
    refine q b h' _ (Nat.le_add_right _ _) hsb ⟨L', es', ep', t', R2, ?_⟩
    have e := take_get hp
    rcases Classical.em (p.2 ∈ L.map (·.2)) with c | c
    · rw [c1 c]
      refine ⟨fun y hy => by rw [e]; exact List.mem_append_left _ (g.sub y hy), fun y hy => ?_, Nat.le_succ_of_le g.len⟩
      rw [e] at hy
      rcases List.mem_append.mp hy with z | z
      · exact g.all y z
      · rw [List.mem_singleton.mp z]; exact c
    · have pm := c2 c
      refine ⟨fun y hy => ?_, fun y hy => ?_, ?_⟩
      · rw [e]
        rcases List.mem_cons.mp (pm.mem_iff.mp hy) with z | z
        · rw [z]; exact List.mem_append_right _ (List.mem_singleton.mpr rfl)
        · exact List.mem_append_left _ (g.sub y z)
      · rw [(pm.map (·.2)).mem_iff, List.map_cons]
        rw [e] at hy
        rcases List.mem_append.mp hy with z | z
        · exact List.mem_cons_of_mem _ (g.all y z)
        · rw [List.mem_singleton.mp z]; exact List.mem_cons_self
      · rw [pm.length_eq, List.length_cons]
        exact Nat.succ_le_succ g.len
end
/-! the members as keys and as data -/
theorem nested_ints {h : Heap} : ∀ {ns : List Int} {us : List Value}, Vals (ns.map V.int) us → NestedAll h (ns.map .num) us
  | [], _, .nil => .nil
  | n :: ns, _, .cons r t => by
    obtain ⟨tk, rfl⟩ := r
    exact .cons (.int n tk) (nested_ints t)
theorem read_ints {h : Heap} : ∀ {ns : List Int} {us : List Value}, Vals (ns.map V.int) us → ReadsAll h us (ns.map .int) []
  | [], _, .nil => .nil
  | n :: ns, _, .cons r t => by
    obtain ⟨tk, rfl⟩ := r
    exact .cons (as := []) (bs := []) (.int n tk) (read_ints t)
theorem num_depth : ∀ ns : List Int, NestedKey.depthAll (ns.map .num) = 0
  | [] => rfl
  | _ :: ns => by
    show max _ (NestedKey.depthAll (ns.map .num)) = 0
    rw [num_depth ns]; rfl
theorem kd_raw {X : Cx} {pins : List (Addr × Obj)} {σ : L2.St} {H : Hp} {s : Shared} (I : Inv X pins σ H s) {p : Addr} {k : Kd} (h : KdAt X.K H (.ref p) k) : (kindKind X.prog X.w).is s.heap k p ∧ Reads s.heap (.ref p) (kdD k) [] := by
  obtain ⟨a, r, e, h1, h2⟩ := h
  cases e
  obtain ⟨u1, v1, ⟨o, ho, hc, n, hd⟩, _⟩ := I.tuple h1
  obtain ⟨u2, v2, ⟨o2, ho2, hc2, n2, hd2⟩, _⟩ := I.tuple h2
  cases v1 with
  | cons r1 v1 =>
    cases v1 with
    | cons r2 v1 =>
      cases v1
      obtain ⟨tk, rfl⟩ := r1
      cases r2
      refine ⟨⟨.tup ho hc hd (.cons (.int _ tk) (.cons (.tup ho2 hc2 hd2 (nested_ints v2)) .nil)), ?_⟩, .tuple ho hc hd (.cons (as := []) (bs := []) (.int _ tk) (.cons (as := []) (bs := []) (.tuple ho2 hc2 hd2 (read_ints v2)) .nil))⟩
      unfold nkOf
      simp only [NestedKey.depth, NestedKey.depthAll, num_depth]
      decide
section
variable {X : Cx}
/-- set(xs), a list of fewer than 64 kinds -/
def rSetKd (K : PySem.W.Frag) (P : Program) (w : World) : List V → Hp → VK → Prop := fun vs H Q => ∃ (a : Addr) (ps : List (Addr × Kd)), vs = [.ref a] ∧ SqL K H a (ps.map fun p => V.ref p.1) ∧ (∀ p ∈ ps, KdAt K H (.ref p.1) p.2) ∧ ps.length < 64 ∧
  ∀ p L, H p = none → (L.map (·.2)).Nodup → (∀ q ∈ L, q ∈ ps) → (∀ q ∈ ps, q.2 ∈ L.map (·.2)) → Q (.ref p) (upd H p (SetKO P w p L))
theorem refs_are : ∀ {ps : List (Addr × Kd)} {us : List Value}, Vals (ps.map fun p => V.ref p.1) us → us = ps.map fun p => Value.ref p.1
  | [], _, .nil => rfl
  | p :: ps, _, .cons r t => by
    cases r
    rw [refs_are t]; rfl
theorem are_refs : ∀ (ps : List (Addr × Kd)), Vals (ps.map fun p => V.ref p.1) (ps.map fun p => Value.ref p.1)
  | [] => .nil
  | p :: ps => .cons rfl (are_refs ps)
theorem cr_setKd (hc : X.calm = true) (hu : X.A.units + 64 < cLine) : CallR X (.type "set") (rSetKd X.K X.prog X.w) := by
  intro pins s σ H vs us Q I r h
  obtain ⟨a, ps, rfl, hL, hk, few, q⟩ := h
  obtain ⟨its, rv, pl, hz⟩ := I.list hL
  rw [Vals.ref1 r]
  have hlen : its.toArray.size = ps.length := by rw [List.size_toArray, ← rv.length, List.length_map]
  refine set_of_list (M := fun i h => ∃ L es ep t, SetK (kindKind X.prog X.w) h s.heap.objs.size L es ep t ∧ Fed ps i L) (I.ok.hd hc) pl.isList
    (fun A' hA _ => grows_kds (by simpa using refs_are rv) (fun p hp => (kd_raw I (hk p hp)).1) few (by omega)) fun h' tk ⟨L, es, ep, t, R, g⟩ k => ?_
  rw [hlen] at g
  refine ⟨.ref s.heap.objs.size, upd H s.heap.objs.size (SetKO X.prog X.w s.heap.objs.size L), I.laid (t' := tk) k (Nat.le_refl _) (setKO_new R.zero), rfl, q _ L (I.hok.fresh (Nat.le_refl _)) R.nd (fun p hp => List.mem_of_mem_take (g.sub p hp)) fun p hp => ?_⟩
  exact g.all p (by rw [List.take_length]; exact hp)
/-- sorted(set of kinds) -/
def rSortKd (K : PySem.W.Frag) (P : Program) (w : World) : List V → Hp → VK → Prop := fun vs H Q => ∃ (a : Addr) (L : List (Addr × Kd)), vs = [.ref a] ∧ H a = some (SetKO P w a L) ∧ (L.map (·.2)).Nodup ∧ (∀ p ∈ L, KdAt K H (.ref p.1) p.2) ∧
  ∀ (p : Addr) (L' : List (Addr × Kd)), H p = none → L'.Perm L → (L'.map (·.2)).Pairwise ltKd → Q (.ref p) (upd H p (.lst (L'.map fun q => V.ref q.1)))
theorem each_refs : ∀ (ps : List (Addr × Kd)), PySem.W.EachIs (fun v (q : Addr × Kd) => v = Value.ref q.1) (ps.map fun p => Value.ref p.1) ps
  | [] => .nil
  | p :: ps => .cons rfl (each_refs ps)
theorem refs_each {out : List Value} {ps : List (Addr × Kd)} (h : PySem.W.EachIs (fun v (q : Addr × Kd) => v = Value.ref q.1) out ps) : out = ps.map fun p => Value.ref p.1 := by
  induction h with
  | nil => rfl
  | cons e _ ih => rw [e, ih]; rfl
theorem list_of_refs {L : List (Addr × Kd)} : ∀ vs : List Value, (∀ v ∈ vs, ∃ q ∈ L, v = Value.ref q.1) → ∃ L1 : List (Addr × Kd), vs = L1.map (fun q => Value.ref q.1) ∧ ∀ q ∈ L1, q ∈ L
  | [], _ => ⟨[], rfl, fun q hq => (by cases hq)⟩
  | v :: vs, hv => by
    obtain ⟨q, hq, e⟩ := hv v List.mem_cons_self
    obtain ⟨L1, e1, hs⟩ := list_of_refs vs fun u hu => hv u (List.mem_cons_of_mem _ hu)
    refine ⟨q :: L1, by rw [List.map_cons, e, e1], fun r hr => ?_⟩
    rcases List.mem_cons.mp hr with z | z
    · rw [z]; exact hq
    · exact hs r z
theorem kd_key_ne (k : Kd) : ∃ x r, kdD k = .tuple (x :: r) := ⟨_, _, rfl⟩
theorem cr_sortKd (hc : X.calm = true) (hu : X.A.units + 64 < cLine) : CallR X (.builtin "sorted") (rSortKd X.K X.prog X.w) := by
  intro pins s σ H vs us Q I r h
  obtain ⟨a, L, rfl, ha, nd, hk, q⟩ := h
  rw [Vals.ref1 r]
  obtain ⟨es, ep, t, ⟨o, ho, hex, hd⟩, hr, hT, hl, hroom, few⟩ := show SetK0 X.prog X.w s.heap a L from (I.hok a _ ha).1
  have hsz := rows_size hr
  have hfits : t.fits es.size = true := by
    have h1 := hT.sz
    rw [List.length_map] at h1
    unfold SetTable.fits SetTable.fill
    rw [hT.dm, Bool.and_eq_true, beq_iff_eq, decide_eq_true_eq]
    show t.place.size = es.size ∧ t.place.size + 0 ≤ t.mask
    omega
  refine Calls.call_function_entry kind_sorted plain_sorted entry_sorted (args_sorted1 _) ?_
  unfold Builtin.«sorted»
  refine wpAny_bind (m := checkCount "sorted" 1 1 _) (wpAny_pure ?_)
  refine wpAny_bind (collect_set (A := X.A.in1) (I.ok.hd hc) ⟨o, ho, hex.1, hd⟩ hfits (by unfold scanBound; omega) hT.ris hl fun s1 vs k1 hz g1 o1 pm => ?_)
  have hes : es.toList.map (·.2) = L.map fun q => Value.ref q.1 := by rw [hr, List.map_map]; rfl
  rw [hes] at pm
  obtain ⟨L1, rfl, sub1⟩ := list_of_refs (L := L) vs fun v hv => by
    obtain ⟨q, hq, e⟩ := List.mem_map.mp (pm.mem_iff.mp hv)
    exact ⟨q, hq, e.symm⟩
  have one : ∀ q ∈ L, ∀ r ∈ L, q.1 = r.1 → q = r := fun q hq r hr e => by
    have a1 := (kd_raw I (hk q hq)).1
    have a2 := (kd_raw I (hk r hr)).1
    rw [e] at a1
    exact Prod.ext e ((kindKind X.prog X.w).inj a1 a2)
  have nL : L.Nodup := nodup_of_map nd
  have nref : (L.map fun q => Value.ref q.1).Nodup := List.pairwise_map.mpr (List.Pairwise.imp_of_mem (fun {q r} hq hr hne e => hne (one q hq r hr (by injection e))) nL)
  have p1 : L1.Perm L := by
    refine (List.perm_ext_iff_of_nodup (nodup_of_map (pm.nodup_iff.mpr nref)) nL).mpr fun q => ⟨sub1 q, fun hq => ?_⟩
    obtain ⟨r, hr, e⟩ := List.mem_map.mp (pm.mem_iff.mpr (List.mem_map.mpr ⟨q, hq, rfl⟩))
    rw [← one r (sub1 r hr) q hq (by injection e)]
    exact hr
  have few1 : L1.length < 64 := by rw [p1.length_eq]; exact few
  refine wpAny_bind (wpAny_newList ?_ (by rw [List.length_map, sizeLine_eq]; omega))
  have hoL : (s1.heap.push (seqObj "list" (L1.map fun q => Value.ref q.1).toArray 0)).get? s1.heap.objs.size = some (seqObj "list" (L1.map fun q => Value.ref q.1).toArray 0) := Heap.get?_push_size _ rfl
  have rd : ∀ q ∈ L1, Reads (s1.heap.push (seqObj "list" (L1.map fun q => Value.ref q.1).toArray 0)) (.ref q.1) (kdD q.2) [] := fun q hq => PyProof.Rows.Reads.keeps (fun b o e => Heap.get?_push_of_some _ (k1 b o e)) (kd_raw I (hk q (sub1 q hq))).2
  have er : ∀ ps : List (Addr × Kd), (∀ q ∈ ps, q ∈ L1) → PySem.W.EachIs (fun v (q : Addr × Kd) => ∃ as, Reads (s1.heap.push (seqObj "list" (L1.map fun q => Value.ref q.1).toArray 0)) v (kdD q.2) as ∧ s1.heap.objs.size ∉ as) (ps.map fun p => Value.ref p.1) ps := by
    intro ps
    induction ps with
    | nil => intro _; exact .nil
    | cons q ps ih => intro hs; exact .cons ⟨[], rd q (hs q List.mem_cons_self), fun z => (by cases z)⟩ (ih fun r hr => hs r (List.mem_cons_of_mem _ hr))
  refine wpAny_bind (wpAny_holding (PySem.W.list_sort_data (s := { s1 with heap := s1.heap.push (seqObj "list" (L1.map fun q => Value.ref q.1).toArray 0) }) (enc := fun q : Addr × Kd => kdD q.2) hoL (each_refs L1) (er L1 fun _ h => h)
    (PySem.W.AllAlike.of fun b b' => kd_alike _ _) (PySem.W.Sortable.tuples fun b => kd_key_ne _) (by rw [sizeLine_eq]; omega) (fun b _ => by have := kd_depth b.2; simp only [Around.in1_units]; omega) fun out a1 a2 => ?_))
  have eo := refs_each a2
  subst eo
  generalize hL' : L1.mergeSort (PySem.W.dataLe false fun q : Addr × Kd => kdD q.2) = L' at a1 a2 ⊢
  have p2 : L'.Perm L := by rw [← hL']; exact (List.mergeSort_perm _ _).trans p1
  have pw : L'.Pairwise (fun a b => leKd a.2 b.2 = true) := by
    rw [← hL']
    exact List.pairwise_mergeSort (le := fun a b : Addr × Kd => leKd a.2 b.2) (fun a b c => leKd_trans) (fun a b => leKd_total _ _) L1
  have pw2 : (L'.map (·.2)).Pairwise ltKd := by
    have nd2 : (L'.map (·.2)).Nodup := (p2.map (·.2)).nodup_iff.mpr nd
    refine List.pairwise_map.mpr ?_
    have nd3 := List.pairwise_map.mp nd2
    refine List.Pairwise.imp (fun {a b} hab => ?_) (List.Pairwise.and pw nd3)
    obtain ⟨h1, h2⟩ := hab
    rw [leKd_eq] at h1
    simp only [Bool.not_eq_true', decide_eq_false_iff_not] at h1
    by_cases c : ltKd a.2 b.2
    · exact c
    · exact absurd (ltKd_total c h1) h2
  obtain ⟨c, hc'⟩ := sortedHeap_at (vs := L1.map fun q => Value.ref q.1) (out := (L'.map fun p => Value.ref p.1).toArray) hoL
  have hn : H s1.heap.objs.size = none := I.hok.fresh hz
  have kk : ∀ b u, s.heap.get? b = some u → (sortedHeap (s1.heap.push (seqObj "list" (L1.map fun q => Value.ref q.1).toArray 0)) s1.heap.objs.size (L1.map fun q => Value.ref q.1) (L'.map fun p => Value.ref p.1).toArray).get? b = some u := fun b u e => by
    have q := k1 b u e
    have hlt := Heap.lt_size q
    rw [sortedHeap_old (Nat.ne_of_lt hlt) (by rw [size_push']; exact Nat.lt_succ_of_lt hlt)]
    exact Heap.get?_push_of_some _ q
  have J : Inv X pins σ (upd H s1.heap.objs.size (.lst (L'.map fun q => V.ref q.1))) { s with heap := sortedHeap (s1.heap.push (seqObj "list" (L1.map fun q => Value.ref q.1).toArray 0)) s1.heap.objs.size (L1.map fun q => Value.ref q.1) (L'.map fun p => Value.ref p.1).toArray, gens := s1.gens, drawn := s1.drawn, toks := s1.toks } :=
    I.call (ch := []) (Un.laid kk hz hn) (I.hok.laid kk hz ⟨by rw [List.length_map, p2.length_eq, sizeLine_eq]; omega, _, c, are_refs L', hc'⟩) (by rw [g1]; exact I.bare) (fun _ z => nomatch z)
  refine wpAny_pure ⟨_, rfl, ?_⟩
  refine ⟨.ref s1.heap.objs.size, _, ?_, rfl, q _ L' hn p2 pw2⟩
  obtain ⟨h', g2, d', tk', os'⟩ := s1
  dsimp only at o1
  subst o1
  exact J
end
end K28
/-! # The rules within comprehensions: the written part named from outside -/
namespace K28
open PySem PySem.Spec PyProof.Rows L2
section
variable {X : Cx} {K : PySem.W.Frag}
theorem ix_listK (h : X.K = K := by rfl) : IxR X (rIxL K) := by subst h; exact ix_list
theorem ix_tupK (h : X.K = K := by rfl) : IxR X (rIxT K) := by subst h; exact ix_tup
theorem op_in_seqK (h : X.K = K := by rfl) : OpR X (compareOp .In) (rIn K false) := by subst h; exact op_in_seq
theorem op_catAK (h : X.K = K := by rfl) : OpR X (binaryOp .Add) (rCatA K) := by subst h; exact op_catA
theorem sl_tupK (h : X.K = K := by rfl) : SlR X (rSlT K) := by subst h; exact sl_tup
theorem sl_tupAK (h : X.K = K := by rfl) : SlR X (rSlA K) := by subst h; exact sl_tupA
theorem call_len_seqK (h : X.K = K := by rfl) : CallR X (.builtin "len") (fun xs H Q => ∃ p ys, xs = [.ref p] ∧ (SqL K H p ys ∨ SqT K H p ys) ∧ Q (.int ys.length) H) := by subst h; exact call_len_seq
theorem call_tuple_ofK (h : X.K = K := by rfl) : CallR X (.type "tuple") (fun xs H Q => ∃ p ys, xs = [.ref p] ∧ ((SqL K H p ys ∧ ∀ l, H l = none → Q (.ref l) (upd H l (.tup ys))) ∨ (SqT K H p ys ∧ Q (.ref p) H))) := by subst h; exact call_tuple_of
theorem pe_fldK {e : Expr} {ta : TE} {f : Str} {pos : Pos} (he : PE X e ta) (hb : attributeBase e f X.env (eval e X.env) = eval e X.env) (h : X.K = K := by rfl) : PE X (.Attribute e f pos) (tFld K ta f) := by subst h; exact pe_fld he hb
theorem pe_bmK {e o : Expr} {es : List Expr} {to : TE} {t : TA} {name : Str} {apos cpos : Pos} {T id : String} {r : V → List V → Hp → VK → Prop} (pa : PlainAttrs T) (slot : Slot T name id) (hty : typeOf (.builtin id) = pure (.type "method_descriptor")) (hm : MtR X id r) (ho : PE X o to) (ha : PA X (e :: es) t) (h : X.K = K := by rfl)
    (hbase : attributeBase o name X.env (eval o X.env) = eval o X.env := by rfl)
    (hfew : ((backTo cpos (starEach (e :: es) X.env)).all (fun x => !x.1) && (backToKw cpos (keywordEach [] X.env)).all (fun x => x.1.isSome)
      && decide ((e :: es).length + ([] : List Keyword).length + (if ([] : List Keyword).isEmpty then 0 else 1) < 30)) = true := by rfl)
    (hline : (apos.endLine == cpos.line) = true := by rfl) (hs : starEach (e :: es) X.env = (false, eval e X.env) :: starEach es X.env := by rfl) (hplain : (backTo cpos (starEach es X.env)).any (·.1) = false := by rfl) :
    PE X (.Call (.Attribute o name apos) (e :: es) [] cpos) (tBM K T r to t) := by subst h; exact pe_bm pa slot hty hm ho ha hbase hfew hline hs hplain
end
end K28
/-! # The errors and the table -/
namespace K28
open PySem PySem.Spec PyProof.Rows L2
open Evl (Ex ex_l ex_t)
/-- where the classes lie -/
structure Ad where
  bt : Addr
  bb : Addr
  nj : Addr
  nr : Addr
  pe : Addr
  tb : Addr
  hs : Addr
/-- an own error made with nothing -/
structure Own0 (K : PySem.W.Frag) (mg : Str → Option Value) (x : Str) (C : Addr) : Prop where
  ex : ∃ (B newId initId : String) (bmB : List Value), ExcBaseFacts B newId initId bmB ∧ PySem.W.excIn K C bmB newId = true
  g : mg x = some (.ref C)
  kp : PySem.W.keepIn K (.ref C) = true
  sub : PySem.W.subIn K (.ref C) (.type "BaseException") = some true
  ty : PySem.W.typeIn K (.ref C) = some (.type "type")
theorem pmk_n {X : Cx} {x : Str} {C : Addr} {p pos : Pos} (c : Own0 X.K X.mg x C) (hg : Gl X x) (hdb : (x == ("__debug__" : Str)) = false := by decide) : PMk X (.Call (.Name x p) [] [] pos) (fun _ H Q => Q (.ref C) none H) := by
  obtain ⟨B, newId, initId, bmB, F, q⟩ := c.ex
  exact pmk_own0 F q c.g c.kp (raises_own c.sub c.ty) hg hdb
/-- a class that is made -/
structure Mak (P : Program) (w : World) (K : PySem.W.Frag) (mg : Str → Option Value) (base : Heap) (k : Nat) (x : Str) (C : Addr) (sp : Sp) : Prop where
  ex : ∃ (fI : Addr) (fd : FuncData) (ps : List Str), Mk K C fI ∧ FnOk P w K mg base (L2.CX P w) k fI fd ps sp ∧ Binds K fd ps [] ∧ mg x = some (.ref C)
theorem pe_mk {X : Cx} {k j : Nat} {x : Str} {C : Addr} {sp : Sp} {E : XK} {p pos : Pos} {e : Expr} {es : List Expr} {t : TA} (c : Mak X.prog X.w X.K X.mg X.base k x C sp) (hr : Room j X.A) (hk : k + 1 ≤ j) (hg : Gl X x) (hx : Passes (L2.CX X.prog X.w) X E) (ha : PA X (e :: es) t)
    (hdb : (x == ("__debug__" : Str)) = false := by decide) (he : starEach (e :: es) X.env = (false, eval e X.env) :: starEach es X.env := by rfl) (hpl : (backTo pos (starEach es X.env)).any (·.1) = false := by rfl) :
    PE X (.Call (.Name x p) (e :: es) [] pos) (tMake C sp [] E t) := by
  obtain ⟨fI, fd, ps, M, F, b, m⟩ := c.ex
  exact pe_make M F (hr.mono hk) hg m b .nil hx ha hdb he hpl
theorem passN {X : Cx} : Passes (L2.CX X.prog X.w) X (fun _ _ _ => False) := fun _ _ _ _ _ _ _ c => by
  obtain ⟨_, _, _, _, _, _, _, _, _, _, _, _, f⟩ := c
  exact f.elim
/-- a method under its class -/
structure In (K : PySem.W.Frag) (q : Str) (C : Addr) (st : Stmt) (ps : List Str) : Prop where
  ex : ∃ (f : Addr) (fd : FuncData), Fun K "__init__" q st f fd ∧ PySem.W.findIn K (.ref C) "__init__" = some (some (.ref f)) ∧ Binds K fd ps []
section
variable {P : Program} {w : World} {K : PySem.W.Frag} {mg : Str → Option Value} {base : Heap}
theorem In.mak {q x : Str} {C : Addr} {st : Stmt} {N ps : List Str} {k : Nat} {sp : Sp} (F : In K q C st ps) (m : mg x = some (.ref C)) (h1 : PySem.W.makesIn K C = true) (h2 : PySem.W.keepIn K (.ref C) = true) (h3 : ∀ f, PySem.W.findIn K (.ref C) "__init__" = some (some (.ref f)) → PySem.W.isFn K (.ref f) = true)
    (S : FnScope N ps (defScope st)) (len : ∀ vs H Q E, sp vs H Q E → vs.length = ps.length)
    (body : ∀ (f : Addr) (cdv : Value) (A : Around) (outer : List Env) (s : Shared) (H : Hp) (vs : List V) (Q : VK) (E : XK), Room k (A.deeper (envOfC q (defScope st) s.heap.objs.size f cdv)) → sp vs H Q E →
      ∃ t, PSs (cxOf (L2.CX P w) P w K mg base N q (defScope st) f cdv A outer s H E) (defBody st) t ∧ t { nx := fun _ H' => Q .non H', rt := Q } (start N vs) H) : Mak P w K mg base (k + 1) x C sp := by
  obtain ⟨f, fd, F, i, b⟩ := F.ex
  exact ⟨f, fd, ps, ⟨h1, i, h3 f i, h2⟩, F.okX S len (fun cdv A outer s H vs Q E hr h => body f cdv A outer s H vs Q E hr h), b, m⟩
theorem In.xmak {q x : Str} {C : Addr} {st : Stmt} {N ps : List Str} {k : Nat} {sp : Sp} (F : In K q C st ps) (T : OexC K C) (m : mg x = some (.ref C)) (h3 : ∀ f, PySem.W.findIn K (.ref C) "__init__" = some (some (.ref f)) → PySem.W.typeIn K (.ref f) = some (.type "function"))
    (S : FnScope N ps (defScope st)) (len : ∀ vs H Q E, sp vs H Q E → vs.length = ps.length)
    (body : ∀ (f : Addr) (cdv : Value) (A : Around) (outer : List Env) (s : Shared) (H : Hp) (vs : List V) (Q : VK) (E : XK), Room k (A.deeper (envOfC q (defScope st) s.heap.objs.size f cdv)) → sp vs H Q E →
      ∃ t, PSs (cxOf L2.CX0 P w K mg base N q (defScope st) f cdv A outer s H E).nox (defBody st) t ∧ t { nx := fun _ H' => Q .non H', rt := Q } (start N vs) H) : XMak P w K mg base (k + 1) x C sp := by
  obtain ⟨f, fd, F, i, b⟩ := F.ex
  exact ⟨f, fd, ps, T, i, h3 f i, F.ok S len (fun cdv A outer s H vs Q E hr h => body f cdv A outer s H vs Q E hr h), b, m⟩
end
/-- what is known of the classes -/
structure Cl (K : PySem.W.Frag) (mg : Str → Option Value) (d : Ad) : Prop where
  x_NoJournal : Own0 K mg "NoJournal" d.nj
  x_NoRun : Own0 K mg "NoRun" d.nr
  o_BadText : OexC K d.bt
  o_BadTable : OexC K d.bb
  n_line : PySem.W.findIn K (.ref d.bt) "line" = some none
  n_part : PySem.W.findIn K (.ref d.bb) "part" = some none
  n_at : PySem.W.findIn K (.ref d.bb) "at" = some none
  m_BadText : mg "BadText" = some (.ref d.bt)
  m_BadTable : mg "BadTable" = some (.ref d.bb)
  m_Table : mg "Table" = some (.ref d.tb)
  m_History : mg "History" = some (.ref d.hs)
  m_PlateError : mg "PlateError" = some (.ref d.pe)
  c_Table : C8.InsC K d.tb
  c_History : Cls K d.hs
  n_cells : NoAttr K d.tb "cells"
  n_kinds : NoAttr K d.tb "kinds"
  n_cw : NoAttr K d.hs "cells_written"
  n_read : NoAttr K d.hs "read"
  n_last : NoAttr K d.hs "last"
  k_Table : PySem.W.makesIn K d.tb = true ∧ PySem.W.keepIn K (.ref d.tb) = true ∧ ∀ f, PySem.W.findIn K (.ref d.tb) "__init__" = some (some (.ref f)) → PySem.W.isFn K (.ref f) = true
  k_History : PySem.W.makesIn K d.hs = true ∧ PySem.W.keepIn K (.ref d.hs) = true ∧ ∀ f, PySem.W.findIn K (.ref d.hs) "__init__" = some (some (.ref f)) → PySem.W.isFn K (.ref f) = true
  t_BadText : ∀ f, PySem.W.findIn K (.ref d.bt) "__init__" = some (some (.ref f)) → PySem.W.typeIn K (.ref f) = some (.type "function")
  t_BadTable : ∀ f, PySem.W.findIn K (.ref d.bb) "__init__" = some (some (.ref f)) → PySem.W.typeIn K (.ref f) = some (.type "function")
/-! ### what is raised -/
inductive Out where
  | line (n : Int)
  | table (part : Str) (at_ : Int)
  | journal
  | run
def raised (d : Ad) (o : Out) (E : XK) (H : Hp) : Prop := match o with
  | .line n => ∀ (H' : Hp) (x : Addr), Ex H H' → H' x = some (.xd [("line", .int n)]) → E (.ref d.bt) (some x) H'
  | .table p n => ∀ (H' : Hp) (x : Addr), Ex H H' → H' x = some (.xd [("at", .int n), ("part", .str p)]) → E (.ref d.bb) (some x) H'
  | .journal => ∀ H', Ex H H' → E (.ref d.nj) none H'
  | .run => ∀ H', Ex H H' → E (.ref d.nr) none H'
theorem raised.mono {d : Ad} {o : Out} {E : XK} {H H' : Hp} (e : Ex H H') (h : raised d o E H) : raised d o E H' := by
  cases o with
  | line n => exact fun H2 x e2 hx => h H2 x (e.trans e2) hx
  | table p n => exact fun H2 x e2 hx => h H2 x (e.trans e2) hx
  | journal => exact fun H2 e2 => h H2 (e.trans e2)
  | run => exact fun H2 e2 => h H2 (e.trans e2)
section
variable {P : Program} {w : World} {K : PySem.W.Frag} {mg : Str → Option Value} {base : Heap} {d : Ad}
def spBadText (C : Addr) : Sp := fun vs H Q _ => ∃ (a : Addr) (y : V), vs = [.ref a, y] ∧ H a = some (exo a C none) ∧ ∀ dx, H dx = none → dx ≠ a → Q .non (upd (upd H dx (exd dx [("line", y)])) a (exo a C (some dx)))
abbrev s_BadText___init__ : Stmt := inClass (top 5) 0
abbrev N_BadText___init__ : List Str := ["self", "line"]
abbrev p_BadText___init__ : List Str := ["self", "line"]
theorem sc_BadText___init__ : FnScope N_BadText___init__ p_BadText___init__ (defScope s_BadText___init__) := ⟨rfl, rfl, rfl, by decide +kernel, rfl, by decide +kernel, by decide +kernel⟩
theorem ok_BadText (C : Cl K mg d) (D : In K "BadText.__init__" d.bt s_BadText___init__ p_BadText___init__) : XMak P w K mg base 1 "BadText" d.bt (spBadText d.bt) := by
  refine D.xmak C.o_BadText C.m_BadText C.t_BadText sc_BadText___init__ (fun vs H Q E h => ?_) (fun f cdv A outer s H vs Q E hr h => ?_)
  · obtain ⟨a, y, rfl, _⟩ := h
    rfl
  obtain ⟨a, y, rfl, ha, k⟩ := h
  refine ⟨_, (pss_one (ps_ost (pv 0) (pv 1))), ?_⟩
  exact ⟨_, rfl, _, rfl, a, d.bt, rfl, C.o_BadText, C.n_line, .inl ⟨ha, fun dx h1 h2 => k dx h1 h2⟩⟩
/-- BadText(n) is raised -/
theorem use_BadText {H : Hp} {y : V} {Q : XK} (k : ∀ x, H x = none → Q (.ref d.bt) (some x) (upd H x (.xd [("line", y)]))) : [y].length ≤ 1000 ∧ ∀ a, H a = none → spBadText d.bt (.ref a :: ([y] ++ [])) (upd H a (exo a d.bt none))
    (fun v H2 => v = .non ∧ ∃ (x : Addr) (fs : List (Str × V)), H2 a = some (exo a d.bt (some x)) ∧ H2 x = some (exd x fs) ∧ H x = none ∧ Q (.ref d.bt) (some x) (upd (del H2 a) x (.xd fs))) (fun _ _ _ => False) := by
  refine ⟨show 1 ≤ 1000 by decide, fun a ha => ⟨a, y, rfl, upd_same, fun x hx ne => ⟨rfl, x, [("line", y)], upd_same, ?_, ?_, ?_⟩⟩⟩
  · rw [upd_ne ne, upd_same]
  · rw [upd_ne ne] at hx; exact hx
  · rw [heap_made ha ne]
    rw [upd_ne ne] at hx
    exact k x hx
def spBadTable (C : Addr) : Sp := fun vs H Q _ => ∃ (a : Addr) (y z : V), vs = [.ref a, y, z] ∧ H a = some (exo a C none) ∧ ∀ dx, H dx = none → dx ≠ a → Q .non (upd (upd (upd H dx (exd dx [("part", y)])) a (exo a C (some dx))) dx (exd dx [("at", z), ("part", y)]))
abbrev s_BadTable___init__ : Stmt := inClass (top 2) 0
abbrev N_BadTable___init__ : List Str := ["self", "part", "at"]
abbrev p_BadTable___init__ : List Str := ["self", "part", "at"]
theorem sc_BadTable___init__ : FnScope N_BadTable___init__ p_BadTable___init__ (defScope s_BadTable___init__) := ⟨rfl, rfl, rfl, by decide +kernel, rfl, by decide +kernel, by decide +kernel⟩
theorem ok_BadTable (C : Cl K mg d) (D : In K "BadTable.__init__" d.bb s_BadTable___init__ p_BadTable___init__) : XMak P w K mg base 1 "BadTable" d.bb (spBadTable d.bb) := by
  refine D.xmak C.o_BadTable C.m_BadTable C.t_BadTable sc_BadTable___init__ (fun vs H Q E h => ?_) (fun f cdv A outer s H vs Q E hr h => ?_)
  · obtain ⟨a, y, z, rfl, _⟩ := h
    rfl
  obtain ⟨a, y, z, rfl, ha, k⟩ := h
  refine ⟨_, (pss_cons (ps_ost (pv 0) (pv 1))
  (pss_one (ps_ost (pv 0) (pv 2)))), ?_⟩
  refine ⟨_, rfl, _, rfl, a, d.bb, rfl, C.o_BadTable, C.n_part, .inl ⟨ha, fun dx h1 h2 => ?_⟩⟩
  refine ⟨_, rfl, _, rfl, a, d.bb, rfl, C.o_BadTable, C.n_at, .inr ⟨dx, [("part", y)], ?_, ?_, show 1 ≤ 900 by decide, k dx h1 h2⟩⟩
  · exact upd_same
  · rw [upd_ne h2, upd_same]
theorem use_BadTable {H : Hp} {y z : V} {Q : XK} (k : ∀ x, H x = none → Q (.ref d.bb) (some x) (upd H x (.xd [("at", z), ("part", y)]))) : [y, z].length ≤ 1000 ∧ ∀ a, H a = none → spBadTable d.bb (.ref a :: ([y, z] ++ [])) (upd H a (exo a d.bb none))
    (fun v H2 => v = .non ∧ ∃ (x : Addr) (fs : List (Str × V)), H2 a = some (exo a d.bb (some x)) ∧ H2 x = some (exd x fs) ∧ H x = none ∧ Q (.ref d.bb) (some x) (upd (del H2 a) x (.xd fs))) (fun _ _ _ => False) := by
  refine ⟨show 2 ≤ 1000 by decide, fun a ha => ⟨a, y, z, rfl, upd_same, fun x hx ne => ⟨rfl, x, [("at", z), ("part", y)], ?_, upd_same, ?_, ?_⟩⟩⟩
  · rw [upd_ne (Ne.symm ne), upd_same]
  · rw [upd_ne ne] at hx; exact hx
  · rw [heap_made2 ha ne]
    rw [upd_ne ne] at hx
    exact k x hx
end
/-! ### the table -/
/-- the kind before the i-th -/
def prevKd (ks : List Kd) (i : Nat) : Option Kd := if i = 0 then none else ks[i - 1]?
/-- no more than the one before -/
def leO (k : Kd) : Option Kd → Bool
  | some p => leKd k p
  | none => false
/-- the first kind that the check doesn't take -/
def badAt (n : Int) (prev : Option Kd) (i : Nat) : List Kd → Option Nat
  | [] => none
  | k :: r => if isKind n k = false ∨ leO k prev = true then some i else badAt n (some k) (i + 1) r
/-- what the table of so many cells and these kinds raises -/
def tableOut (n : Int) (ks : List Kd) : Option Out :=
  if ¬ (1 ≤ n ∧ n ≤ 8) then some (.table "cells" (-1)) else if ¬ (1 ≤ ks.length ∧ ks.length ≤ 40) then some (.table "kinds" (-1)) else
    match badAt n none 0 ks with
    | some i => some (.table "kinds" (i : Int))
    | none => none
abbrev tFs (n : Int) (a : Addr) : List (Str × V) := [("cells", .int n), ("kinds", .ref a)]
/-- the table at t -/
def TabAt (d : Ad) (K : PySem.W.Frag) (H : Hp) (t : Addr) (n : Int) (ks : List Kd) : Prop := ∃ dx a : Addr, H t = some (.ins d.tb dx (tFs n a)) ∧ KdsAt K H a ks
theorem TabAt.mono {d : Ad} {K : PySem.W.Frag} {H H' : Hp} {t : Addr} {n : Int} {ks : List Kd} (e : Ex H H') (h : TabAt d K H t n ks) : TabAt d K H' t n ks := by
  obtain ⟨dx, a, h1, h2⟩ := h
  exact ⟨dx, a, e _ _ h1, h2.mono e⟩
section
variable {P : Program} {w : World} {K : PySem.W.Frag} {mg : Str → Option Value} {base : Heap} {d : Ad}
def spTable (d : Ad) (K : PySem.W.Frag) : Sp := fun vs H Q E => ∃ (x dx : Addr) (n : Int) (a : Addr) (ks : List Kd), vs = [.ref x, .int n, .ref a] ∧ H x = some (.ins d.tb dx []) ∧ KdsAt K H a ks ∧ ks.length ≤ 100000 ∧
  (tableOut n ks = none → ∀ H', ExB x H H' → H' x = some (.ins d.tb dx (tFs n a)) → Q .non H') ∧ (∀ o, tableOut n ks = some o → raised d o E H)
abbrev s_Table___init__ : Stmt := inClass (top 17) 0
abbrev N_Table___init__ : List Str := ["self", "cells", "kinds", "at", "kind"]
abbrev p_Table___init__ : List Str := ["self", "cells", "kinds"]
theorem sc_Table___init__ : FnScope N_Table___init__ p_Table___init__ (defScope s_Table___init__) := ⟨rfl, rfl, rfl, by decide +kernel, rfl, by decide +kernel, by decide +kernel⟩
theorem ok_Table (C : Cl K mg d) (T : Txt K mg) (D : In K "Table.__init__" d.tb s_Table___init__ p_Table___init__) (c_is_within : C8.Cal P w K mg base 2 "is_within" spIsWithin []) (c_is_kind : C8.Cal P w K mg base 4 "is_kind" (spIsKind K) [])
    (x_BadTable : XMak P w K mg base 1 "BadTable" d.bb (spBadTable d.bb)) : Mak P w K mg base 5 "Table" d.tb (spTable d K) := by
  refine D.mak C.m_Table C.k_Table.1 C.k_Table.2.1 C.k_Table.2.2 sc_Table___init__ (fun vs H Q E h => ?_) (fun f cdv A outer s H vs Q E hr h => ?_)
  · obtain ⟨x, dx, n, a, ks, rfl, _⟩ := h
    rfl
  obtain ⟨x, dx, n, a, ks, rfl, hx, ⟨xs, hT, hp⟩, hl, k1, k2⟩ := h
  have hlen := pair_len hp
  refine ⟨_, (pss_cons (ps_if (pt_not (pt_val (C8.pe_c c_is_within hr (by decide) (by rfl) (pa_cons (pv 1) (pa_cons pe_int (pa_cons (C8.pe_gc (by rfl) T.c_MOST_CELLS) pa_nil)))))) (pss_one (ps_raise (by rfl) (takes_of rfl rfl rfl rfl) (pmk_x x_BadTable hr (by decide) (by rfl) (pa_cons pe_str (pa_cons (pe_un un_neg pe_int) pa_nil))))) pss_nil)
  (pss_cons (ps_if (PW.pt (pw_or (pt_not (pt_val (pe_callB call_isi (by rfl) T.isinstance (by decide +kernel) (pa_cons (pv 2) (pa_cons (pe_bltn (v := .ty "tuple") (by rfl) T.tuple (by decide +kernel) rfl) pa_nil))))) (pw_or1 (pt_not (pt_chain op_le op_le pe_int (pe_callB call_len_seq (by rfl) T.len (by decide +kernel) (pa_cons (pv 2) pa_nil)) (C8.pe_gc (by rfl) T.c_MOST_KINDS)))))) (pss_one (ps_raise (by rfl) (takes_of rfl rfl rfl rfl) (pmk_x x_BadTable hr (by decide) (by rfl) (pa_cons pe_str (pa_cons (pe_un un_neg pe_int) pa_nil))))) pss_nil)
  (pss_cons (ps_for (passes_of rfl) rfl (pi_enumT (by rfl) T.enumerate (pa_cons (pv 2) pa_nil)) (pg_tup rfl (pgs_cons (pg_name (i := 3) sc_Table___init__.nd rfl (Or.inl rfl)) (pgs_cons (pg_name (i := 4) sc_Table___init__.nd rfl (Or.inl rfl)) pgs_nil)))
  (pss_one (ps_if (PW.pt (pw_or (pt_not (pt_val (C8.pe_c c_is_kind hr (by decide) (by rfl) (pa_cons (pv 1) (pa_cons (pv 4) pa_nil))))) (pw_or1 (PW.pt (pw_and (pt_cmpR op_gt (pv 3) pe_int (nomark _)) (pw_and1 (pt_cmpR (op_leK hr.units) (pv 4) (pe_ix ix_tup (pv 2) (pe_op op_sub (pv 3) pe_int) (fun _ _ => rfl)) (nomark _)))))))) (pss_one (ps_raise (by rfl) (takes_of rfl rfl rfl rfl) (pmk_x x_BadTable hr (by decide) (by rfl) (pa_cons pe_str (pa_cons (pv 3) pa_nil))))) pss_nil)))
  (pss_cons (ps_fld (pv 0) (pv 1) rfl)
  (pss_one (ps_fld (pv 0) (pv 2) rfl)))))), ?_⟩
  unfold tableOut at k1 k2
  refine ⟨_, rfl, n, 1, 8, rfl, _, rfl, ?_⟩
  by_cases c1 : 1 ≤ n ∧ n ≤ 8
  rotate_left
  · rw [if_pos c1] at k2
    have e : (decide (1 ≤ n) && decide (n ≤ 8)) = false := by
      by_cases z : 1 ≤ n
      · rw [decide_eq_false (show ¬ n ≤ 8 from fun q => c1 ⟨z, q⟩), Bool.and_false]
      · rw [decide_eq_false z, Bool.false_and]
    rw [e]
    exact iteT ⟨1, rfl, use_BadTable fun x hx => k2 _ rfl _ x (Ex.new hx) upd_same⟩
  rw [if_neg (fun q => q c1)] at k1 k2
  rw [decide_eq_true c1.1, decide_eq_true c1.2]
  refine iteF ?_
  refine ⟨_, rfl, _, _, _, _, _, rfl, .ty _, tyT hT, kit_ty (r := true) (by decide +kernel), _, rfl, iteF ?_⟩
  refine ⟨_, rfl, a, _, rfl, .inr hT, _, _, rfl, rfl, _, rfl, ?_⟩
  rw [hlen]
  by_cases c2 : 1 ≤ ks.length ∧ ks.length ≤ 40
  rotate_left
  · rw [if_pos c2] at k2
    have fin : tMkO d.bb (spBadTable d.bb) [] (tCons (tC (V.str "kinds")) (tCons (tUn (rU fun i => V.int (-i)) (tC (V.int 1))) tNil)) [some (.ref x), some (.int n), some (.ref a), none, none] H fun cls d H' => E cls d H' :=
      ⟨1, rfl, use_BadTable fun x hx => k2 _ rfl _ x (Ex.new hx) upd_same⟩
    by_cases z : 1 ≤ ks.length
    · rw [decide_eq_true (show (1 : Int) ≤ (ks.length : Int) by omega)]
      refine iteT ⟨_, _, rfl, rfl, _, rfl, ?_⟩
      rw [decide_eq_false (show ¬ (ks.length : Int) ≤ 40 from fun q => c2 ⟨z, by omega⟩)]
      exact iteT fin
    · rw [decide_eq_false (show ¬ (1 : Int) ≤ (ks.length : Int) by omega)]
      refine iteF ⟨_, rfl, ?_⟩
      exact iteT fin
  rw [if_neg (fun q => q c2)] at k1 k2
  rw [decide_eq_true (show (1 : Int) ≤ (ks.length : Int) by omega)]
  refine iteT ⟨_, _, rfl, rfl, _, rfl, ?_⟩
  rw [decide_eq_true (show (ks.length : Int) ≤ 40 by omega)]
  refine iteF ?_
  have hK : ∀ H', Ex H H' → SqT K H' a xs := fun H' e => ex_t e hT
  refine ⟨_, rfl, a, xs, rfl, hT, for_it (walk_enumT (xs := xs)) (fun i σ H' => Ex H H' ∧ badAt n none 0 ks = badAt n (prevKd ks i) i (ks.drop i) ∧ ∃ y z : Option V, σ = [some (.ref x), some (.int n), some (.ref a), y, z])
    ⟨Ex.refl H, by rw [List.drop_zero]; rfl, none, none, rfl⟩ (fun i σ H' _ h => hK H' h.1) ?_ ?_⟩
  · rintro i v σ H1 H2 hi ⟨e1, eb, y, z, rfl⟩ ⟨T, u1, u2, rfl, hT1, rfl, hu1, hu2⟩
    cases hu1
    have e2 : Ex H1 (upd H1 T (.tup [V.int (i : Nat), u2])) := Ex.new hT1
    have hP : SqT K (upd H1 T (.tup [V.int (i : Nat), u2])) T [V.int (i : Nat), u2] := SqT.of upd_same
    generalize upd H1 T (.tup [V.int (i : Nat), u2]) = H2 at e2 hP
    have e3 := e1.trans e2
    obtain ⟨kd, hkd, hat⟩ := pair_get hp hu2
    refine ⟨T, _, rfl, hP, rfl, _, _, rfl, _, _, rfl, rfl, ?_⟩
    refine ⟨_, rfl, _, rfl, n, u2, kd, rfl, hat.mono e3, _, rfl, ?_⟩
    have hil : i < ks.length := by rw [← hlen]; exact hi
    rw [drop_get hkd, badAt] at eb
    have bad : badAt n none 0 ks = some i → tMkO d.bb (spBadTable d.bb) [] (tCons (tC (V.str "kinds")) (tCons (tVar 3) tNil)) [some (.ref x), some (.int n), some (.ref a), some (.int (i : Nat)), some u2] H2 fun cls d H' => E cls d H' := fun hb => by
      rw [hb] at k2
      exact ⟨_, rfl, use_BadTable fun y hy => k2 _ rfl _ y (e3.trans (Ex.new hy)) upd_same⟩
    cases hik : isKind n kd with
    | false =>
      rw [if_pos (.inl hik)] at eb
      exact iteT (iteT (bad eb))
    | true =>
      refine iteF ⟨_, rfl, _, _, rfl, rfl, _, rfl, ?_⟩
      have nx : prevKd ks (i + 1) = some kd := by
        unfold prevKd
        rw [if_neg (Nat.succ_ne_zero i)]
        exact hkd
      have on : leO kd (prevKd ks i) = false → badAt n none 0 ks = badAt n (prevKd ks (i + 1)) (i + 1) (ks.drop (i + 1)) := fun q => by
        rw [if_neg (by rw [hik, q]; simp)] at eb
        rw [eb, nx]
      by_cases hi0 : i = 0
      · subst hi0
        rw [decide_eq_false (by omega)]
        refine iteF (iteF ?_)
        exact ⟨e3, on rfl, _, _, rfl⟩
      · rw [decide_eq_true (by omega)]
        obtain ⟨j, rfl⟩ : ∃ j, i = j + 1 := ⟨i - 1, by omega⟩
        obtain ⟨kp, hkp⟩ : ∃ kp, ks[j]? = some kp := ⟨_, List.getElem?_eq_getElem (by omega)⟩
        obtain ⟨up, hup, hap⟩ := pair_get2 hp hkp
        have pv : prevKd ks (j + 1) = some kp := by
          unfold prevKd
          rw [if_neg (Nat.succ_ne_zero j)]
          exact hkp
        refine iteT ⟨_, rfl, _, rfl, _, rfl, _, _, rfl, rfl, a, xs, _, up, rfl, rfl, hK _ e3, ?_, kd, kp, hat.mono e3, hap.mono e3, _, rfl, ?_⟩
        · rw [show ((j + 1 : Nat) : Int) - 1 = (j : Int) by omega]
          exact atI_nat (j := j) hup
        · cases hle : leKd kd kp with
          | true =>
            rw [if_pos (.inr (by rw [pv]; exact hle))] at eb
            exact iteT (bad eb)
          | false =>
            refine iteF ?_
            exact ⟨e3, on (by rw [pv]; exact hle), _, _, rfl⟩
  · rintro σ H1 ⟨e1, eb, y, z, rfl⟩
    rw [List.drop_of_length_le (by omega), badAt] at eb
    have k1' : ∀ (H' : Hp), ExB x H H' → H' x = some (HO.ins d.tb dx (tFs n a)) → Q V.non H' := k1 (by rw [eb])
    have hx1 := e1 _ _ hx
    refine ⟨_, rfl, _, rfl, x, d.tb, dx, [], rfl, hx1, C.c_Table.cl, C.n_cells, show 0 < 1000 by decide, ?_⟩
    refine ⟨_, rfl, _, rfl, x, d.tb, dx, _, rfl, upd_same, C.c_Table.cl, C.n_kinds, show 1 < 1000 by decide, ?_⟩
    exact k1' _ ((ExB.of e1).upd.upd) upd_same
end
end K28
/-! # Journals and histories -/
namespace K28
open PySem PySem.Spec PyProof.Rows L2
open Evl (Ex ex_l ex_t)
/-- the numbers are deeds of so many kinds -/
def isJournal (m : Nat) (js : List Int) : Bool := decide (js.length ≤ 400) && js.all fun j => decide (0 ≤ j) && decide (j ≤ (m : Int) - 1)
/-- the plates that nothing has written -/
def fresh (n : Int) : List Int := (List.range n.toNat).map fun (c : Nat) => -1 - (c : Int)
/-- one deed more: what each has read, who wrote the cells last -/
def stp (ks : List Kd) (s : List (List Int) × List Int) (j : Int) : List (List Int) × List Int :=
  (s.1 ++ [(ks.getD j.toNat (0, [])).2.map fun c => s.2.getD c.toNat 0], s.2.set (ks.getD j.toNat (0, [])).1.toNat s.1.length)
def storyTo (n : Int) (ks : List Kd) (js : List Int) (i : Nat) : List (List Int) × List Int := (js.take i).foldl (stp ks) ([], fresh n)
def story (n : Int) (ks : List Kd) (js : List Int) : List (List Int) × List Int := js.foldl (stp ks) ([], fresh n)
theorem story_zero (n : Int) (ks : List Kd) (js : List Int) : storyTo n ks js 0 = ([], fresh n) := rfl
theorem story_all (n : Int) (ks : List Kd) (js : List Int) : storyTo n ks js js.length = story n ks js := by unfold storyTo story; rw [List.take_length]
theorem story_next {n : Int} {ks : List Kd} {js : List Int} {i : Nat} {j : Int} (h : js[i]? = some j) : storyTo n ks js (i + 1) = stp ks (storyTo n ks js i) j := by
  unfold storyTo
  rw [take_get h, List.foldl_append]
  rfl
theorem stp_len1 (ks : List Kd) (s : List (List Int) × List Int) (j : Int) : (stp ks s j).1.length = s.1.length + 1 := by
  unfold stp
  rw [List.length_append]
  rfl
theorem fold_len (ks : List Kd) : ∀ (js : List Int) (s : List (List Int) × List Int), (js.foldl (stp ks) s).1.length = s.1.length + js.length ∧ (js.foldl (stp ks) s).2.length = s.2.length
  | [], s => ⟨rfl, rfl⟩
  | j :: r, s => by
    obtain ⟨h1, h2⟩ := fold_len ks r (stp ks s j)
    rw [List.foldl_cons]
    refine ⟨?_, ?_⟩
    · rw [h1, stp_len1, List.length_cons]; omega
    · rw [h2]
      unfold stp
      exact List.length_set
theorem story_len (n : Int) (ks : List Kd) (js : List Int) (i : Nat) (h : i ≤ js.length) : (storyTo n ks js i).1.length = i ∧ (storyTo n ks js i).2.length = n.toNat := by
  obtain ⟨h1, h2⟩ := fold_len ks (js.take i) ([], fresh n)
  refine ⟨?_, ?_⟩
  · unfold storyTo
    rw [h1, List.length_take]
    show 0 + min i js.length = i
    omega
  · unfold storyTo
    rw [h2]
    show (fresh n).length = n.toNat
    unfold fresh
    rw [List.length_map, List.length_range]
/-- rows of ints: tuples -/
def TAt (K : PySem.W.Frag) (H : Hp) (v : V) (r : List Int) : Prop := ∃ a : Addr, v = .ref a ∧ SqT K H a (r.map V.int)
theorem TAt.monoL {K : PySem.W.Frag} {H H' : Hp} {v : V} {r : List Int} (e : ExL H H') (h : TAt K H v r) : TAt K H' v r := by
  obtain ⟨a, e1, h1⟩ := h
  exact ⟨a, e1, exl_t e h1⟩
abbrev hFs (p1 p2 t : Addr) : List (Str × V) := [("cells_written", .ref p1), ("read", .ref p2), ("last", .ref t)]
/-- the history at h: what each deed has read, who wrote last -/
def HistAt (d : Ad) (K : PySem.W.Frag) (H : Hp) (h : Addr) (s : List (List Int) × List Int) : Prop := ∃ (dx p1 p2 t : Addr) (xs : List V), H h = some (.ins d.hs dx (hFs p1 p2 t)) ∧ SqL K H p2 xs ∧ Paired (TAt K H) xs s.1 ∧ SqT K H t (s.2.map V.int)
theorem HistAt.mono {d : Ad} {K : PySem.W.Frag} {H H' : Hp} {h : Addr} {s : List (List Int) × List Int} (e : Ex H H') (q : HistAt d K H h s) : HistAt d K H' h s := by
  obtain ⟨dx, p1, p2, t, xs, h1, h2, h3, h4⟩ := q
  exact ⟨dx, p1, p2, t, xs, e _ _ h1, ex_l e h2, Paired.mapP h3 fun _ _ q => q.monoL (.of e), ex_t e h4⟩
/-- what the kinds of a table are like -/
theorem badAt_all {n : Int} : ∀ {ks : List Kd} {prev : Option Kd} {i : Nat}, badAt n prev i ks = none → ∀ k ∈ ks, isKind n k = true
  | [], _, _, _, k, h => by cases h
  | k0 :: r, prev, i, e, k, h => by
    unfold badAt at e
    by_cases c : isKind n k0 = false ∨ leO k0 prev = true
    · rw [if_pos c] at e; cases e
    · rw [if_neg c] at e
      rcases List.mem_cons.mp h with z | z
      · rw [z]
        cases hk : isKind n k0 with
        | true => rfl
        | false => exact absurd (.inl hk) c
      · exact badAt_all e k z
theorem table_ok {n : Int} {ks : List Kd} (h : tableOut n ks = none) : (1 ≤ n ∧ n ≤ 8) ∧ (1 ≤ ks.length ∧ ks.length ≤ 40) ∧ ∀ k ∈ ks, isKind n k = true := by
  unfold tableOut at h
  by_cases c1 : 1 ≤ n ∧ n ≤ 8
  · rw [if_neg (fun q => q c1)] at h
    by_cases c2 : 1 ≤ ks.length ∧ ks.length ≤ 40
    · rw [if_neg (fun q => q c2)] at h
      refine ⟨c1, c2, ?_⟩
      cases e : badAt n none 0 ks with
      | some i => rw [e] at h; cases h
      | none => exact badAt_all e
    · rw [if_pos c2] at h; cases h
  · rw [if_pos c1] at h; cases h
theorem lot_bd : ∀ {ns : List Int} {lo hi : Int}, isLot lo hi ns = true → ∀ c ∈ ns, lo ≤ c ∧ c ≤ hi
  | [], _, _, _, c, h => by cases h
  | m :: r, lo, hi, e, c, h => by
    unfold isLot at e
    rw [Bool.and_eq_true, Bool.and_eq_true, decide_eq_true_iff, decide_eq_true_iff] at e
    rcases List.mem_cons.mp h with z | z
    · rw [z]; exact e.1
    · have := lot_bd e.2 c z
      omega
theorem kind_bd {n : Int} {k : Kd} (h : isKind n k = true) : (0 ≤ k.1 ∧ k.1 < n) ∧ (∀ c ∈ k.2, 0 ≤ c ∧ c < n) ∧ k.2.length ≤ 3 := by
  unfold isKind at h
  rw [Bool.and_eq_true, Bool.and_eq_true, Bool.and_eq_true, decide_eq_true_iff, decide_eq_true_iff, decide_eq_true_iff] at h
  refine ⟨⟨h.1.1.1, by omega⟩, fun c hc => ?_, h.2⟩
  have := lot_bd h.1.2 c hc
  omega
theorem journal_bd {m : Nat} {js : List Int} (h : isJournal m js = true) : js.length ≤ 400 ∧ ∀ j ∈ js, 0 ≤ j ∧ j < m := by
  unfold isJournal at h
  rw [Bool.and_eq_true, decide_eq_true_iff, List.all_eq_true] at h
  refine ⟨h.1, fun j hj => ?_⟩
  have := h.2 j hj
  rw [Bool.and_eq_true, decide_eq_true_iff, decide_eq_true_iff] at this
  omega
/-- an int that counts -/
theorem nat_of {j : Int} (h : 0 ≤ j) : ((j.toNat : Nat) : Int) = j := Int.toNat_of_nonneg h
/-- a place counted by an int -/
theorem at_int {xs : List V} {j : Int} {v : V} (h : 0 ≤ j) (e : xs[j.toNat]? = some v) : atI xs j = some v := by
  have := atI_nat (j := j.toNat) e
  rw [nat_of h] at this
  exact this
/-- a tuple stays where something else is written anew -/
theorem sqt_upd {K : PySem.W.Frag} {H : Hp} {p a : Addr} {o o' : HO} {xs : List V} (hp : H p = some o) (h1 : ∀ ys, o ≠ .tup ys) (h2 : ∀ u z, o ≠ .frz u z) (h : SqT K H a xs) : SqT K (upd H p o') a xs := by
  rcases h with (h | ⟨u, h⟩) | h
  · refine .inl (.inl ?_)
    rw [upd_ne (fun z => by rw [z, hp] at h; cases h; exact h1 _ rfl)]
    exact h
  · refine .inl (.inr ⟨u, ?_⟩)
    rw [upd_ne (fun z => by rw [z, hp] at h; cases h; exact h2 _ _ rfl)]
    exact h
  · exact .inr h
theorem TAt.upd {K : PySem.W.Frag} {H : Hp} {p : Addr} {o o' : HO} {v : V} {r : List Int} (hp : H p = some o) (h1 : ∀ ys, o ≠ .tup ys) (h2 : ∀ u z, o ≠ .frz u z) (h : TAt K H v r) : TAt K (upd H p o') v r := by
  obtain ⟨a, e, h⟩ := h
  exact ⟨a, e, sqt_upd hp h1 h2 h⟩
theorem ixN_int {m : Nat} {c : Int} (h0 : 0 ≤ c) (h : c.toNat < m) : ixN m c = some c.toNat := by
  have := Evl.ixN_nat h
  rw [nat_of h0] at this
  exact this
theorem getD_of {α : Type} {xs : List α} {i : Nat} {x e : α} (h : xs[i]? = some x) : xs.getD i e = x := by
  rw [List.getD_eq_getElem?_getD, h]; rfl
section
variable {P : Program} {w : World} {K : PySem.W.Frag} {mg : Str → Option Value} {base : Heap} {d : Ad}
def spIsJournal (d : Ad) (K : PySem.W.Frag) : Sp := fun vs H Q _ => ∃ (t a : Addr) (n : Int) (ks : List Kd) (js : List Int), vs = [.ref t, .ref a] ∧ TabAt d K H t n ks ∧ SqT K H a (js.map V.int) ∧ js.length ≤ 100000 ∧ ∀ H', Ex H H' → Q (.bl (isJournal ks.length js)) H'
abbrev s_is_journal : Stmt := top 18
abbrev N_is_journal : List Str := ["table", "thing", "number"]
abbrev p_is_journal : List Str := ["table", "thing"]
theorem sc_is_journal : FnScope N_is_journal p_is_journal (defScope s_is_journal) := ⟨rfl, rfl, rfl, by decide +kernel, rfl, by decide +kernel, by decide +kernel⟩
theorem ok_is_journal (C : Cl K mg d) (D : Dn K mg "is_journal" s_is_journal p_is_journal) (T : Txt K mg) (c_is_within : C8.Cal P w K mg base 2 "is_within" spIsWithin []) : C8.Cal P w K mg base 3 "is_journal" (spIsJournal d K) [] := by
  refine D.ok sc_is_journal (fun vs H Q E h => ?_) (fun f cdv A outer s H vs Q E hr h => ?_)
  · obtain ⟨t, a, n, ks, js, rfl, _⟩ := h
    rfl
  obtain ⟨t, a, n, ks, js, rfl, ⟨dx, p, ht, xs, hk, hp⟩, hT, hn, k⟩ := h
  refine ⟨_, (pss_cons (ps_if (PW.pt (pw_or (pt_not (pt_val (pe_callB call_isi (by rfl) T.isinstance (by decide +kernel) (pa_cons (pv 1) (pa_cons (pe_bltn (v := .ty "tuple") (by rfl) T.tuple (by decide +kernel) rfl) pa_nil))))) (pw_or1 (pt_cmpR op_gt (pe_callB call_len_seq (by rfl) T.len (by decide +kernel) (pa_cons (pv 1) pa_nil)) (C8.pe_gc (by rfl) T.c_MOST_DEEDS) (nomark _))))) (pss_one (ps_ret pe_bl)) pss_nil)
  (pss_one (ps_ret (pe_callB (cr_all rfl) (by rfl) T.all (by decide +kernel) (pa_cons (pe_lc (own := [("number", 2)]) (g := gName 2) (tt := tYes) rfl sc_is_journal.nd (pi_tup (pv 1)) (blkOk_by (N := N_is_journal) (sc := defScope s_is_journal) (by decide +kernel)) (fun _ _ _ _ _ => (pg_name (i := 2) sc_is_journal.nd rfl (Or.inl rfl))) (fun _ _ _ _ _ => pts_nil) (fun _ _ _ _ _ => (C8.pe_c c_is_within hr (by decide) (by rfl) (pa_cons (pv 2) (pa_cons pe_int (pa_cons (pe_op op_sub (pe_callB (call_len_seqK (K := K)) (by rfl) T.len (by decide +kernel) (pa_cons (pe_fldK (K := K) (pv 0) rfl) pa_nil)) pe_int) pa_nil)))))) pa_nil))))), ?_⟩
  refine ⟨_, rfl, _, _, _, _, _, rfl, .ty _, tyT hT, kit_ty (r := true) (by decide +kernel), _, rfl, iteF ?_⟩
  refine ⟨_, rfl, a, _, rfl, .inr hT, _, _, rfl, rfl, _, rfl, ?_⟩
  rw [List.length_map]
  unfold isJournal at k
  by_cases h1 : js.length ≤ 400
  rotate_left
  · rw [decide_eq_false h1, Bool.false_and] at k
    rw [decide_eq_true (show (400 : Int) < (js.length : Int) by omega)]
    exact iteT (k H (Ex.refl H))
  rw [decide_eq_true h1, Bool.true_and] at k
  rw [decide_eq_false (show ¬ (400 : Int) < (js.length : Int) by omega)]
  refine iteF ?_
  refine ⟨_, rfl, a, rfl, ⟨_, hT⟩, fun D hD => lc_pure hD (walk_tup (xs := js.map V.int)) yat_ex (fun _ => rfl) (fun H' e => ex_t e hT) (by rw [List.length_map]; exact hn) (fun i y _ => ∃ j, js[i]? = some j ∧ y = V.bl (decide (0 ≤ j) && decide (j ≤ (ks.length : Int) - 1))) (fun _ _ _ _ _ h => h) ?_ ?_⟩
  · rintro i v H1 H2 _ e1 ⟨rfl, hv⟩ Q' q
    obtain ⟨j, hj, rfl⟩ := map_get hv
    refine ⟨_, rfl, _, rfl, t, _, dx, _, _, rfl, e1 _ _ ht, C.c_Table.cl, C.n_kinds, rfl, p, _, rfl, .inr (ex_t e1 hk), _, _, rfl, rfl, j, 0, _, rfl, ?_⟩
    rw [pair_len hp]
    exact q _ _ (Ex.refl _) ⟨j, hj, rfl⟩
  · intro H1 acc e1 hA hl hR
    have ea : acc = (js.map fun j => decide (0 ≤ j) && decide (j ≤ (ks.length : Int) - 1)).map V.bl := by
      rw [List.map_map]
      exact acc_map (by rw [hl, List.length_map]) fun i y h => hR i y h
    rw [ea] at hA
    refine ⟨D, _, rfl, SqL.of hA, ?_⟩
    rw [List.all_map]
    exact k H1 e1
def spBeginOf : Sp := fun vs H Q _ => ∃ c : Int, vs = [.int c] ∧ Q (.int (-1 - c)) H
abbrev s_begin_of : Stmt := top 19
abbrev N_begin_of : List Str := ["cell"]
abbrev p_begin_of : List Str := ["cell"]
theorem sc_begin_of : FnScope N_begin_of p_begin_of (defScope s_begin_of) := ⟨rfl, rfl, rfl, by decide +kernel, rfl, by decide +kernel, by decide +kernel⟩
theorem ok_begin_of (D : Dn K mg "begin_of" s_begin_of p_begin_of) : C8.Cal P w K mg base 1 "begin_of" spBeginOf [] := by
  refine D.ok sc_begin_of (fun vs H Q E h => ?_) (fun f cdv A outer s H vs Q E hr h => ?_)
  · obtain ⟨c, rfl, _⟩ := h
    rfl
  obtain ⟨c, rfl, k⟩ := h
  refine ⟨_, (pss_one (ps_ret (pe_op op_sub (pe_un un_neg pe_int) (pv 0)))), ?_⟩
  exact ⟨1, rfl, _, rfl, _, _, rfl, rfl, k⟩
def spAllFresh (d : Ad) (K : PySem.W.Frag) : Sp := fun vs H Q _ => ∃ (t : Addr) (n : Int) (ks : List Kd), vs = [.ref t] ∧ TabAt d K H t n ks ∧ 0 ≤ n ∧ n ≤ 1000 ∧ ∀ H' a, Ex H H' → H' a = some (.tup ((fresh n).map V.int)) → Q (.ref a) H'
abbrev s_all_fresh : Stmt := top 20
abbrev N_all_fresh : List Str := ["table", "cell"]
abbrev p_all_fresh : List Str := ["table"]
theorem sc_all_fresh : FnScope N_all_fresh p_all_fresh (defScope s_all_fresh) := ⟨rfl, rfl, rfl, by decide +kernel, rfl, by decide +kernel, by decide +kernel⟩
theorem ok_all_fresh (C : Cl K mg d) (D : Dn K mg "all_fresh" s_all_fresh p_all_fresh) (T : Txt K mg) (c_begin_of : C8.Cal P w K mg base 1 "begin_of" spBeginOf []) : C8.Cal P w K mg base 2 "all_fresh" (spAllFresh d K) [] := by
  refine D.ok sc_all_fresh (fun vs H Q E h => ?_) (fun f cdv A outer s H vs Q E hr h => ?_)
  · obtain ⟨t, n, ks, rfl, _⟩ := h
    rfl
  obtain ⟨t, n, ks, rfl, ⟨dx, p, ht, hk⟩, h0, h1, k⟩ := h
  refine ⟨_, (pss_one (ps_ret (pe_callTy call_tuple_of (by rfl) T.tuple (by decide +kernel) (pa_cons (pe_lc (own := [("cell", 1)]) (g := gName 1) (tt := tYes) rfl sc_all_fresh.nd (pi_range1 (by rfl) T.range (pa_cons (pe_fld (pv 0) rfl) pa_nil)) (blkOk_by (N := N_all_fresh) (sc := defScope s_all_fresh) (by decide +kernel)) (fun _ _ _ _ _ => (pg_name (i := 1) sc_all_fresh.nd rfl (Or.inl rfl))) (fun _ _ _ _ _ => pts_nil) (fun _ _ _ _ _ => (C8.pe_c c_begin_of hr (by decide) (by rfl) (pa_cons (pv 1) pa_nil)))) pa_nil)))), ?_⟩
  refine ⟨_, rfl, t, _, dx, _, _, rfl, ht, C.c_Table.cl, C.n_cells, rfl, n, rfl, by omega, by omega, fun D hD => lc_pure hD walk_range yfn_ex (fun _ => rfl) (fun _ _ => trivial) (by omega) (fun i y _ => y = .int (-1 - (i : Int))) (fun _ _ _ _ _ h => h) ?_ ?_⟩
  · rintro i v H1 H2 hi e1 ⟨rfl, rfl⟩ Q' q
    refine ⟨_, rfl, _, rfl, q _ _ (Ex.refl _) ?_⟩
    show V.int (-1 - (0 + (i : Int))) = _
    rw [Int.zero_add]
  · intro H1 acc e1 hA hl hR
    have ea : acc = (fresh n).map V.int := by
      unfold fresh
      rw [List.map_map]
      refine acc_map (by rw [hl, List.length_range]) fun i y h => ?_
      have hi := (List.getElem?_eq_some_iff.mp h).1
      rw [hl] at hi
      exact ⟨i, by rw [List.getElem?_range hi], hR i y h⟩
    rw [ea] at hA
    exact ⟨D, _, rfl, .inl ⟨SqL.of hA, fun l hl => k _ l (e1.trans (Ex.new hl)) upd_same⟩⟩
/-! ### the history -/
def spHistory (d : Ad) (K : PySem.W.Frag) : Sp := fun vs H Q _ => ∃ (x dx t a : Addr) (n : Int) (ks : List Kd) (js : List Int) (G : Hp), vs = [.ref x, .ref t, .ref a] ∧ G x = none ∧ Ex G H ∧ H x = some (.ins d.hs dx []) ∧ TabAt d K G t n ks ∧ tableOut n ks = none ∧
  SqT K G a (js.map V.int) ∧ isJournal ks.length js = true ∧ ∀ H', Ex G H' → HistAt d K H' x (story n ks js) → Q .non H'
abbrev s_History___init__ : Stmt := inClass (top 21) 0
abbrev N_History___init__ : List Str := ["self", "table", "journal", "last", "deed", "number", "cell", "reads", "one"]
abbrev p_History___init__ : List Str := ["self", "table", "journal"]
theorem sc_History___init__ : FnScope N_History___init__ p_History___init__ (defScope s_History___init__) := ⟨rfl, rfl, rfl, by decide +kernel, rfl, by decide +kernel, by decide +kernel⟩
theorem ok_History (C : Cl K mg d) (T : Txt K mg) (D : In K "History.__init__" d.hs s_History___init__ p_History___init__) (c_all_fresh : C8.Cal P w K mg base 2 "all_fresh" (spAllFresh d K) []) : Mak P w K mg base 3 "History" d.hs (spHistory d K) := by
  refine D.mak C.m_History C.k_History.1 C.k_History.2.1 C.k_History.2.2 sc_History___init__ (fun vs H Q E h => ?_) (fun f cdv A outer s H vs Q E hr h => ?_)
  · obtain ⟨x, dx, t, a, n, ks, js, G, rfl, _⟩ := h
    rfl
  obtain ⟨x, dx, t, a, n, ks, js, G, rfl, gx, eG, hx, hTab, hok, hJ, hj, k⟩ := h
  obtain ⟨hn, hks, hkd⟩ := table_ok hok
  obtain ⟨hj1, hj2⟩ := journal_bd hj
  refine ⟨_, (pss_cons (ps_fld (pv 0) (pe_lst pa_nil) rfl)
  (pss_cons (ps_fld (pv 0) (pe_lst pa_nil) rfl)
  (pss_cons (ps_set (i := 3) sc_History___init__.nd rfl (Or.inr rfl) (pe_callTy call_list_of (by rfl) T.list (by decide +kernel) (pa_cons (C8.pe_c c_all_fresh hr (by decide) (by rfl) (pa_cons (pv 1) pa_nil)) pa_nil)))
  (pss_cons (ps_for (passes_of rfl) rfl (pi_enumT (by rfl) T.enumerate (pa_cons (pv 2) pa_nil)) (pg_tup rfl (pgs_cons (pg_name (i := 4) sc_History___init__.nd rfl (Or.inl rfl)) (pgs_cons (pg_name (i := 5) sc_History___init__.nd rfl (Or.inl rfl)) pgs_nil)))
  (pss_cons (ps_asg (pe_ix ix_tup (pe_fld (pv 1) rfl) (pv 5) (fun _ _ => rfl)) (pg_tup (by rfl) (pgs_cons (pg_name (i := 6) sc_History___init__.nd rfl (Or.inl rfl)) (pgs_cons (pg_name (i := 7) sc_History___init__.nd rfl (Or.inl rfl)) pgs_nil))))
  (pss_cons (ps_expr (pe_bm PySem.F.plainAttrs_list PySem.F.slot_list_append PySem.F.type_list_append mt_append (pe_fld (pv 0) rfl) (pa_cons (pv 6) pa_nil)))
  (pss_cons (ps_expr (pe_bm PySem.F.plainAttrs_list PySem.F.slot_list_append PySem.F.type_list_append mt_append (pe_fld (pv 0) rfl) (pa_cons (pe_callTy call_tuple_of (by rfl) T.tuple (by decide +kernel) (pa_cons (pe_lc (own := [("one", 8)]) (g := gName 8) (tt := tYes) rfl sc_History___init__.nd (pi_tup (pv 7)) (blkOk_by (N := N_History___init__) (sc := defScope s_History___init__) (by decide +kernel)) (fun _ _ _ _ _ => (pg_name (i := 8) sc_History___init__.nd rfl (Or.inl rfl))) (fun _ _ _ _ _ => pts_nil) (fun _ _ _ _ _ => (pe_ix (ix_listK (K := K)) (pv 3) (pv 8) (fun _ _ => rfl)))) pa_nil)) pa_nil)))
  (pss_one (ps_asg (pv 4) (pg_sub (pv 3) (pv 6) set_list)))))))
  (pss_one (ps_fld (pv 0) (pe_callTy call_tuple_of (by rfl) T.tuple (by decide +kernel) (pa_cons (pv 3) pa_nil)) rfl)))))), ?_⟩
  -- self.cells_written = []; self.read = []; last = list(all_fresh(table))
  refine ⟨by decide, fun p1 h1 => ⟨_, rfl, x, d.hs, dx, [], rfl, ?_, C.c_History, C.n_cw, show 0 < 1000 by decide, ?_⟩⟩
  · rw [upd_ne (ne_of_none hx h1)]; exact hx
  have ne1 : x ≠ p1 := ne_of_none hx h1
  have g1 : G p1 = none := fr_back eG h1
  have E1 : Ex G (upd (upd H p1 (.lst [])) x (.ins d.hs dx (putF "cells_written" (.ref p1) []))) := ex_upd (ex_upd eG g1) gx
  have x1 : upd (upd H p1 (.lst [])) x (.ins d.hs dx (putF "cells_written" (.ref p1) [])) x = some (.ins d.hs dx [("cells_written", .ref p1)]) := upd_same
  have l1 : upd (upd H p1 (.lst [])) x (.ins d.hs dx (putF "cells_written" (.ref p1) [])) p1 = some (.lst []) := by rw [upd_ne (Ne.symm ne1), upd_same]
  generalize upd (upd H p1 (.lst [])) x (.ins d.hs dx (putF "cells_written" (.ref p1) [])) = H1 at E1 x1 l1 ⊢
  refine ⟨by decide, fun p2 h2 => ⟨_, rfl, x, d.hs, dx, [("cells_written", .ref p1)], rfl, ?_, C.c_History, C.n_read, show 1 < 1000 by decide, ?_⟩⟩
  · rw [upd_ne (ne_of_none x1 h2)]; exact x1
  have ne2 : x ≠ p2 := ne_of_none x1 h2
  have ne12 : p1 ≠ p2 := ne_of_none l1 h2
  have g2 : G p2 = none := fr_back E1 h2
  have E2 : Ex G (upd (upd H1 p2 (.lst [])) x (.ins d.hs dx (putF "read" (.ref p2) [("cells_written", .ref p1)]))) := ex_upd (ex_upd E1 g2) gx
  have x2 : upd (upd H1 p2 (.lst [])) x (.ins d.hs dx (putF "read" (.ref p2) [("cells_written", .ref p1)])) x = some (.ins d.hs dx [("cells_written", .ref p1), ("read", .ref p2)]) := upd_same
  have l2 : upd (upd H1 p2 (.lst [])) x (.ins d.hs dx (putF "read" (.ref p2) [("cells_written", .ref p1)])) p2 = some (.lst []) := by rw [upd_ne (Ne.symm ne2), upd_same]
  have l12 : upd (upd H1 p2 (.lst [])) x (.ins d.hs dx (putF "read" (.ref p2) [("cells_written", .ref p1)])) p1 = some (.lst []) := by rw [upd_ne (Ne.symm ne1), upd_ne ne12]; exact l1
  generalize upd (upd H1 p2 (.lst [])) x (.ins d.hs dx (putF "read" (.ref p2) [("cells_written", .ref p1)])) = H2 at E2 x2 l2 l12 ⊢
  refine ⟨_, rfl, t, n, ks, rfl, hTab.mono E2, by omega, by omega, fun H3 u e3 hu => ⟨u, _, rfl, .inr (SqT.of hu), fun p3 h3 => ?_⟩⟩
  have ne3 : x ≠ p3 := ne_of_none (e3 _ _ x2) h3
  have ne13 : p1 ≠ p3 := ne_of_none (e3 _ _ l12) h3
  have ne23 : p2 ≠ p3 := ne_of_none (e3 _ _ l2) h3
  have g3 : G p3 = none := fr_back (E2.trans e3) h3
  have E3 : Ex G (upd H3 p3 (.lst ((fresh n).map V.int))) := (E2.trans e3).trans (Ex.new h3)
  have x3 : upd H3 p3 (.lst ((fresh n).map V.int)) x = some (.ins d.hs dx [("cells_written", .ref p1), ("read", .ref p2)]) := by rw [upd_ne ne3]; exact e3 _ _ x2
  have m1 : upd H3 p3 (.lst ((fresh n).map V.int)) p1 = some (.lst []) := by rw [upd_ne ne13]; exact e3 _ _ l12
  have m2 : upd H3 p3 (.lst ((fresh n).map V.int)) p2 = some (.lst []) := by rw [upd_ne ne23]; exact e3 _ _ l2
  have m3 : upd H3 p3 (.lst ((fresh n).map V.int)) p3 = some (.lst ((fresh n).map V.int)) := upd_same
  generalize upd H3 p3 (.lst ((fresh n).map V.int)) = H4 at E3 x3 m1 m2 m3 ⊢
  refine ⟨_, rfl, a, _, rfl, ex_t E3 hJ, for_it (walk_enumT (xs := js.map V.int)) (fun i σ H' => Ex G H' ∧ H' x = some (.ins d.hs dx [("cells_written", .ref p1), ("read", .ref p2)]) ∧
    (∃ cws xs : List V, H' p1 = some (.lst cws) ∧ cws.length = i ∧ H' p2 = some (.lst xs) ∧ Paired (TAt K H') xs (storyTo n ks js i).1 ∧ H' p3 = some (.lst ((storyTo n ks js i).2.map V.int))) ∧
    ∃ y1 y2 y3 y4 y5 : Option V, σ = [some (.ref x), some (.ref t), some (.ref a), some (.ref p3), y1, y2, y3, y4, y5])
    ⟨E3, x3, ⟨[], [], m1, rfl, m2, .nil, m3⟩, none, none, none, none, none, rfl⟩ (fun i σ H' _ h => ex_t h.1 hJ) ?_ ?_⟩
  · rintro i v σ H5 H6 hi ⟨e5, x5, ⟨cws, xs, q1, hc, q2, hp, q3⟩, y1, y2, y3, y4, y5, rfl⟩ ⟨T, u1, u2, rfl, hT1, rfl, hu1, hu2⟩
    cases hu1
    obtain ⟨j, hjj, rfl⟩ := map_get hu2
    obtain ⟨j0, jl⟩ := hj2 j (List.mem_of_getElem? hjj)
    have hil : i < js.length := by rw [List.length_map] at hi; exact hi
    obtain ⟨hs1, hs2⟩ := story_len n ks js i (Nat.le_of_lt hil)
    have neT : ∀ {b : Addr} {o : HO}, H5 b = some o → b ≠ T := fun hb => ne_of_none hb hT1
    have e6 : Ex H5 (upd H5 T (.tup [V.int (i : Nat), V.int j])) := Ex.new hT1
    have hP : SqT K (upd H5 T (.tup [V.int (i : Nat), V.int j])) T [V.int (i : Nat), V.int j] := SqT.of upd_same
    generalize upd H5 T (.tup [V.int (i : Nat), V.int j]) = H6 at e6 hP
    refine ⟨T, _, rfl, hP, rfl, _, _, rfl, _, _, rfl, rfl, ?_⟩
    -- cell, reads = table.kinds[number]
    obtain ⟨dxt, pk, ht, xk, hk, hkp⟩ := hTab.mono (e5.trans e6)
    obtain ⟨kd, hkd'⟩ : ∃ kd, ks[j.toNat]? = some kd := ⟨_, List.getElem?_eq_getElem (by omega)⟩
    obtain ⟨vk, hvk, pa, pr, rfl, ha1, ha2⟩ := pair_get2 hkp hkd'
    obtain ⟨b1, b2, b3⟩ := kind_bd (hkd kd (List.mem_of_getElem? hkd'))
    refine ⟨_, rfl, t, _, dxt, _, _, rfl, ht, C.c_Table.cl, C.n_kinds, rfl, _, rfl, pk, xk, j, .ref pa, rfl, rfl, hk, at_int j0 hvk, pa, _, rfl, ha1, rfl, _, _, rfl, _, _, rfl, rfl, ?_⟩
    -- self.cells_written.append(cell)
    have x6 := e6 _ _ x5
    have q16 := e6 _ _ q1
    refine ⟨_, rfl, x, _, dx, _, _, rfl, x6, C.c_History, C.n_cw, rfl, .inl ⟨rfl, cws, SqL.of q16⟩, _, rfl, p1, cws, _, rfl, rfl, q16, Nat.lt_of_le_of_lt (by omega : cws.length ≤ 400) (by decide), ?_⟩
    have e7 : Ex G (upd H6 p1 (.lst (cws ++ [V.int kd.1]))) := ex_upd (e5.trans e6) g1
    have x7 : upd H6 p1 (.lst (cws ++ [V.int kd.1])) x = _ := (upd_ne ne1).trans x6
    have q17 : upd H6 p1 (.lst (cws ++ [V.int kd.1])) p1 = some (.lst (cws ++ [V.int kd.1])) := upd_same
    have q27 : upd H6 p1 (.lst (cws ++ [V.int kd.1])) p2 = _ := (upd_ne (Ne.symm ne12)).trans (e6 _ _ q2)
    have q37 : upd H6 p1 (.lst (cws ++ [V.int kd.1])) p3 = _ := (upd_ne (Ne.symm ne13)).trans (e6 _ _ q3)
    have L7 : ExL H5 (upd H6 p1 (.lst (cws ++ [V.int kd.1]))) := (ExL.of e6).trans (exl_upd q16)
    have hr7 : SqT K (upd H6 p1 (.lst (cws ++ [V.int kd.1]))) pr (kd.2.map V.int) := exl_t (exl_upd q16) ha2
    generalize upd H6 p1 (.lst (cws ++ [V.int kd.1])) = H7 at e7 x7 q17 q27 q37 L7 hr7 ⊢
    have hxl : xs.length = i := by rw [pair_len hp]; exact hs1
    -- self.read.append(tuple([last[one] for one in reads]))
    refine ⟨_, rfl, x, _, dx, _, _, rfl, x7, C.c_History, C.n_read, rfl, .inl ⟨rfl, xs, SqL.of q27⟩, _, rfl, pr, rfl, ⟨_, hr7⟩, fun D hD => lc_pure hD (walk_tup (xs := kd.2.map V.int)) yat_ex (fun _ => rfl) (fun H' e => ex_t e hr7) (by rw [List.length_map]; omega)
      (fun i' y _ => ∃ c, kd.2[i']? = some c ∧ y = V.int ((storyTo n ks js i).2.getD c.toNat 0)) (fun _ _ _ _ _ h => h) ?_ ?_⟩
    · rintro i' v H8 H9 _ e8 ⟨rfl, hv⟩ Q' q
      obtain ⟨c, hc', rfl⟩ := map_get hv
      obtain ⟨c0, c1⟩ := b2 c (List.mem_of_getElem? hc')
      have hg : (storyTo n ks js i).2[c.toNat]? = some ((storyTo n ks js i).2.getD c.toNat 0) := by
        rw [List.getD_eq_getElem?_getD, List.getElem?_eq_getElem (by omega)]; rfl
      exact ⟨_, rfl, _, rfl, p3, _, c, _, rfl, rfl, SqL.of (e8 _ _ q37), at_int c0 (by rw [List.getElem?_map, hg]; rfl), q _ _ (Ex.refl _) ⟨c, hc', rfl⟩⟩
    · intro H8 acc e8 hA hl hR
      have ea : acc = (kd.2.map fun c => (storyTo n ks js i).2.getD c.toNat 0).map V.int := by
        rw [List.map_map]
        exact acc_map (by rw [hl, List.length_map]) fun i y h => hR i y h
      rw [ea] at hA
      refine ⟨D, _, rfl, .inl ⟨SqL.of hA, fun l hl => ?_⟩⟩
      have e9 : Ex H7 (upd H8 l (.tup ((kd.2.map fun c => (storyTo n ks js i).2.getD c.toNat 0).map V.int))) := e8.trans (Ex.new hl)
      have hl9 : upd H8 l (.tup ((kd.2.map fun c => (storyTo n ks js i).2.getD c.toNat 0).map V.int)) l = some (.tup ((kd.2.map fun c => (storyTo n ks js i).2.getD c.toNat 0).map V.int)) := upd_same
      generalize upd H8 l (.tup ((kd.2.map fun c => (storyTo n ks js i).2.getD c.toNat 0).map V.int)) = H9 at e9 hl9 ⊢
      refine ⟨p2, xs, _, rfl, rfl, e9 _ _ q27, Nat.lt_of_le_of_lt (by omega : xs.length ≤ 400) (by decide), ?_⟩
      -- last[cell] = deed
      refine ⟨_, rfl, _, rfl, _, rfl, p3, _, kd.1, kd.1.toNat, rfl, rfl, (upd_ne (Ne.symm ne23)).trans (e9 _ _ q37), ixN_int b1.1 (by rw [List.length_map, hs2]; omega), ?_⟩
      have L10 : ExL H9 (upd (upd H9 p2 (.lst (xs ++ [V.ref l]))) p3 (.lst (((storyTo n ks js i).2.map V.int).set kd.1.toNat (.int (i : Nat))))) :=
        (exl_upd (e9 _ _ q27)).trans (exl_upd ((upd_ne (Ne.symm ne23)).trans (e9 _ _ q37)))
      refine ⟨ex_upd (ex_upd (e7.trans e9) g2) g3, ?_, ⟨cws ++ [V.int kd.1], xs ++ [V.ref l], ?_, by rw [List.length_append, List.length_singleton, hc], ?_, ?_, ?_⟩, _, _, _, _, _, rfl⟩
      · rw [upd_ne ne3, upd_ne ne2]; exact e9 _ _ x7
      · rw [upd_ne ne13, upd_ne ne12]; exact e9 _ _ q17
      · rw [upd_ne ne23, upd_same]
      · rw [story_next hjj]
        unfold stp
        rw [getD_of hkd']
        refine pair_app (Paired.mapP hp fun v r q => q.monoL ((L7.trans (.of e9)).trans L10)) (.cons ⟨l, rfl, exl_t L10 (SqT.of hl9)⟩ .nil)
      · rw [upd_same, story_next hjj]
        unfold stp
        rw [getD_of hkd', hs1, List.map_set]
  · rintro σ H5 ⟨e5, x5, ⟨cws, xs, q1, hc, q2, hp, q3⟩, y1, y2, y3, y4, y5, rfl⟩
    rw [List.length_map, story_all] at hp q3
    have hxs : xs.length ≤ 400 := by
      rw [pair_len hp]
      have := (story_len n ks js js.length (Nat.le_refl _)).1
      rw [story_all] at this
      omega
    refine ⟨_, rfl, p3, _, rfl, .inl ⟨SqL.of q3, fun l hl => ⟨_, rfl, x, d.hs, dx, [("cells_written", .ref p1), ("read", .ref p2)], rfl, ?_, C.c_History, C.n_last, show 2 < 1000 by decide, ?_⟩⟩⟩
    · rw [upd_ne (ne_of_none x5 hl)]; exact x5
    · have nl2 : p2 ≠ l := ne_of_none q2 hl
      have nlx : x ≠ l := ne_of_none x5 hl
      have gl : G l = none := fr_back e5 hl
      refine k _ (ex_upd (ex_upd e5 gl) gx) ⟨dx, p1, p2, l, xs, upd_same, SqL.of ?_, Paired.mapP hp fun v r q => ?_, SqT.of ?_⟩
      · rw [upd_ne (Ne.symm ne2), upd_ne nl2]; exact q2
      · obtain ⟨b, rfl, hb⟩ := q
        exact ⟨b, rfl, sqt_upd ((upd_ne (ne_of_none x5 hl)).trans x5) (fun _ z => by cases z) (fun _ _ z => by cases z) (ex_t (Ex.new hl) hb)⟩
      · rw [upd_ne (Ne.symm nlx), upd_same]
end
end K28
/-! # What is there; layings -/
namespace K28
open PySem PySem.Spec PyProof.Rows L2
open Evl (Ex ex_l ex_t)
/-- which plates are found behind i deeds -/
def closedTo (rs : List (List Int)) (held : List Int) : Nat → Int → Bool
  | 0 => fun k => decide (k ∈ held)
  | i + 1 => if (rs.getD i []).all (closedTo rs held i) = true then fun k => closedTo rs held i k || decide (k = (i : Int)) else closedTo rs held i
/-- all that a history has written last is there -/
def allThere (s : List (List Int) × List Int) (held : List Int) : Bool := s.2.all (closedTo s.1 held s.1.length)
/-- the dict of which these are the keys -/
def Keys (H : Hp) (a : Addr) (f : Int → Bool) (n : Nat) : Prop := ∃ kvs : List (Key × V), H a = some (.dK kvs) ∧ kvs.length ≤ n ∧ ∀ k : Int, (valV kvs (.inl k)).isSome = f k
theorem Keys.mono {H H' : Hp} {a : Addr} {f : Int → Bool} {n : Nat} (e : Ex H H') (h : Keys H a f n) : Keys H' a f n := by
  obtain ⟨kvs, h1, h2, h3⟩ := h
  exact ⟨kvs, e _ _ h1, h2, h3⟩
theorem Keys.put {H : Hp} {a : Addr} {f : Int → Bool} {n : Nat} {kvs : List (Key × V)} {i : Int} {v : V} (h2 : kvs.length ≤ n) (h3 : ∀ k : Int, (valV kvs (.inl k)).isSome = f k) : Keys (upd H a (.dK (putK kvs (.inl i) v))) a (fun k => f k || decide (k = i)) (n + 1) := by
  refine ⟨_, upd_same, ?_, fun k => ?_⟩
  · have := length_putK kvs (.inl i) v
    omega
  · rw [valV_put]
    by_cases c : k = i
    · subst c; simp
    · rw [if_neg (fun z => c (by injection z))]
      rw [h3]
      show f k = (f k || decide (k = i))
      rw [decide_eq_false c, Bool.or_false]
/-! tuples glued and cut, whatever the address -/
theorem use_cat {K : PySem.W.Frag} {H : Hp} {a b : Addr} {xs ys : List V} {Q : VK} (ha : SqT K H a xs) (hb : SqT K H b ys) (hz : xs.length + ys.length ≤ 100000) (k : ∀ p H', Ex H H' → SqT K H' p (xs ++ ys) → Q (.ref p) H') : rCatA K (.ref a) (.ref b) H Q := by
  refine ⟨a, b, xs, ys, rfl, rfl, ha, hb, Nat.le_trans hz (by decide), fun e => ?_, fun _ e => ?_, fun _ _ p hp => k p _ (Ex.new hp) (SqT.of upd_same)⟩
  · subst e; exact k b H (Ex.refl H) hb
  · subst e
    refine k a H (Ex.refl H) ?_
    rw [List.append_nil]
    exact ha
theorem use_slA {K : PySem.W.Frag} {H : Hp} {a : Addr} {xs : List V} {lo hi : Option Int} {Q : VK} (ha : SqT K H a xs) (k : ∀ p H', Ex H H' → SqT K H' p (cutV xs lo hi) → Q (.ref p) H') : rSlA K (.ref a) lo hi H Q := by
  refine ⟨a, xs, rfl, ha, fun e => ?_, fun _ p hp => k p _ (Ex.new hp) (SqT.of upd_same)⟩
  refine k a H (Ex.refl H) ?_
  have ec : cutV xs lo hi = xs := by
    unfold cutV
    rw [e.1, e.2, List.drop_zero, Nat.sub_zero, List.take_length]
  rw [ec]
  exact ha
/-- a plate laid -/
def laidAt (last plates : List Int) (c : Int) : List Int := plates.set c.toNat (last.getD c.toNat 0)
section
variable {P : Program} {w : World} {K : PySem.W.Frag} {mg : Str → Option Value} {base : Heap} {d : Ad}
def spClosure (d : Ad) (K : PySem.W.Frag) : Sp := fun vs H Q _ => ∃ (h p : Addr) (s : List (List Int) × List Int) (held : List Int), vs = [.ref h, .ref p] ∧ HistAt d K H h s ∧ SqT K H p (held.map V.int) ∧ held.length ≤ 1000 ∧ s.1.length ≤ 1000 ∧ (∀ r ∈ s.1, r.length ≤ 1000) ∧
  ∀ H' a, Ex H H' → Keys H' a (closedTo s.1 held s.1.length) 2000 → Q (.ref a) H'
abbrev s_closure : Stmt := top 23
abbrev N_closure : List Str := ["history", "plates", "found", "deed", "some", "version", "source"]
abbrev p_closure : List Str := ["history", "plates"]
theorem sc_closure : FnScope N_closure p_closure (defScope s_closure) := ⟨rfl, rfl, rfl, by decide +kernel, rfl, by decide +kernel, by decide +kernel⟩
theorem ok_closure (C : Cl K mg d) (D : Dn K mg "closure" s_closure p_closure) (T : Txt K mg) : C8.Cal P w K mg base 1 "closure" (spClosure d K) [] := by
  refine D.ok sc_closure (fun vs H Q E h => ?_) (fun f cdv A outer s H vs Q E hr h => ?_)
  · obtain ⟨h, p, s, held, rfl, _⟩ := h
    rfl
  obtain ⟨h, p, s, held, rfl, ⟨dx, p1, p2, t, xs, hh, hx, hp, ht⟩, hP, n1, n2, n3, k⟩ := h
  refine ⟨_, (pss_cons (ps_set (i := 2) sc_closure.nd rfl (Or.inr rfl) (pe_dc (own := [("version", 5)]) (g := gName 5) (tt := tYes) rfl sc_closure.nd (pi_tup (pv 1)) (blkOk_by (N := N_closure) (sc := defScope s_closure) (by decide +kernel)) (fun _ _ _ _ _ => (pg_name (i := 5) sc_closure.nd rfl (Or.inl rfl))) (fun _ _ _ _ _ => pts_nil) (fun _ _ _ _ _ => (pv 5)) (fun _ _ _ _ _ => pe_bl)))
  (pss_cons (ps_for PassesOwn.never rfl (pi_enum (by rfl) T.enumerate (pa_cons (pe_fld (pv 0) rfl) pa_nil)) (pg_tup rfl (pgs_cons (pg_name (i := 3) sc_closure.nd rfl (Or.inl rfl)) (pgs_cons (pg_name (i := 4) sc_closure.nd rfl (Or.inl rfl)) pgs_nil)))
  (pss_one (ps_if (pt_val (pe_callB (cr_all rfl) (by rfl) T.all (by decide +kernel) (pa_cons (pe_lc (own := [("source", 6)]) (g := gName 6) (tt := tYes) rfl sc_closure.nd (pi_tup (pv 4)) (blkOk_by (N := N_closure) (sc := defScope s_closure) (by decide +kernel)) (fun _ _ _ _ _ => (pg_name (i := 6) sc_closure.nd rfl (Or.inl rfl))) (fun _ _ _ _ _ => pts_nil) (fun _ _ _ _ _ => (pe_cmp (pc_din (hu_of hr) (pv 6) (pv 2)) rfl))) pa_nil))) (pss_one (ps_dput (hu_of hr) (pv 2) (pv 3) pe_bl rfl)) pss_nil)))
  (pss_one (ps_ret (pv 2))))), ?_⟩
  refine ⟨_, rfl, p, rfl, ⟨_, hP⟩, fun D hD => dc_tup (xs := held.map V.int) (fun i H' => Ex H H' ∧ Keys H' D (fun k => decide (k ∈ held.take i)) i) ⟨Ex.new hD, [], upd_same, Nat.le_refl _, fun k => by rw [List.take_zero]; rfl⟩ (fun i H' _ q => ex_t q.1 hP) ?_ ?_⟩
  · rintro i v H1 hv ⟨e1, kvs, q1, q2, q3⟩
    obtain ⟨m, hm, rfl⟩ := map_get hv
    have hi := (List.getElem?_eq_some_iff.mp hm).1
    refine ⟨rfl, yes_of ⟨_, rfl, kvs, .inl m, rfl, q1, Nat.lt_of_le_of_lt (by omega : kvs.length ≤ 1000) (by decide), ex_upd e1 hD, ?_⟩⟩
    obtain ⟨kvs', r1, r2, r3⟩ := Keys.put (H := H1) (a := D) (i := m) (v := .bl true) q2 q3
    refine ⟨kvs', r1, r2, fun k => ?_⟩
    rw [r3, take_get hm]
    simp [List.mem_append]
  · rintro H1 ⟨e1, hK⟩
    rw [List.length_map, List.take_length] at hK
    refine ⟨_, rfl, h, d.hs, dx, _, _, rfl, e1 _ _ hh, C.c_History, C.n_read, rfl, p2, xs, rfl, ex_l e1 hx, for_it (walk_enum (xs := xs)) (fun i σ H' => Ex H H' ∧ Keys H' D (closedTo s.1 held i) (held.length + i) ∧
      ∃ y1 y2 y3 y4 : Option V, σ = [some (.ref h), some (.ref p), some (.ref D), y1, y2, y3, y4]) ⟨e1, hK, none, none, none, none, rfl⟩ (fun i σ H' _ q => ex_l q.1 hx) ?_ ?_⟩
    · rintro i v σ H2 H3 hi ⟨e2, hK2, y1, y2, y3, y4, rfl⟩ ⟨T', u1, u2, rfl, hT1, rfl, hu1, hu2⟩
      cases hu1
      have hil : i < s.1.length := by rw [← pair_len hp]; exact hi
      have e3 : Ex H2 (upd H2 T' (.tup [V.int (i : Nat), u2])) := Ex.new hT1
      have hPr : SqT K (upd H2 T' (.tup [V.int (i : Nat), u2])) T' [V.int (i : Nat), u2] := SqT.of upd_same
      generalize upd H2 T' (.tup [V.int (i : Nat), u2]) = H3 at e3 hPr
      refine ⟨T', _, rfl, hPr, rfl, _, _, rfl, _, _, rfl, rfl, ?_⟩
      obtain ⟨r, hr', b, rfl, hb⟩ := pair_get hp hu2
      have hb3 : SqT K H3 b (r.map V.int) := ex_t (e2.trans e3) hb
      obtain ⟨kvs, q1, q2, q3⟩ := hK2.mono e3
      have hrl := n3 r (List.mem_of_getElem? hr')
      refine ⟨_, rfl, b, rfl, ⟨_, hb3⟩, fun L hL => lc_pure hL (walk_tup (xs := r.map V.int)) yat_ex (fun _ => rfl) (fun H' e => ex_t e hb3) (by rw [List.length_map]; omega)
        (fun i' y _ => ∃ c, r[i']? = some c ∧ y = V.bl (closedTo s.1 held i c)) (fun _ _ _ _ _ h => h) ?_ ?_⟩
      · rintro i' v H4 H5 _ e4 ⟨rfl, hv⟩ Q' q
        obtain ⟨c, hc, rfl⟩ := map_get hv
        refine ⟨_, rfl, _, rfl, D, _, rfl, DGet.k (k := .inl c) (e4 _ _ q1), q _ _ (Ex.refl _) ⟨c, hc, ?_⟩⟩
        rw [q3]
      · intro H4 acc e4 hA hl hR
        have ea : acc = (r.map (closedTo s.1 held i)).map V.bl := by
          rw [List.map_map]
          exact acc_map (by rw [hl, List.length_map]) fun i y h => hR i y h
        rw [ea] at hA
        refine ⟨L, _, rfl, SqL.of hA, _, rfl, ?_⟩
        rw [List.all_map]
        have eD : s.1.getD i [] = r := getD_of hr'
        refine ite2 (fun c => ?_) (fun c => ?_)
        · refine ⟨_, rfl, _, rfl, D, _, rfl, DPut.k (k := .inl (i : Int)) (e4 _ _ q1) (Nat.lt_of_le_of_lt (by omega : kvs.length ≤ 2000) (by decide)), ex_upd ((e2.trans e3).trans e4) hD, ?_, _, _, _, _, rfl⟩
          rw [closedTo, if_pos (by rw [eD]; exact c)]
          exact Keys.put q2 q3
        · refine ⟨(e2.trans e3).trans e4, ?_, _, _, _, _, rfl⟩
          rw [closedTo, if_neg (by rw [eD]; exact c)]
          obtain ⟨kvs', r1, r2, r3⟩ := Keys.mono e4 ⟨kvs, q1, q2, q3⟩
          exact ⟨kvs', r1, by omega, r3⟩
    · rintro σ H2 ⟨e2, hK2, y1, y2, y3, y4, rfl⟩
      rw [pair_len hp] at hK2
      obtain ⟨kvs, q1, q2, q3⟩ := hK2
      exact ⟨_, rfl, k _ _ e2 ⟨kvs, q1, by omega, q3⟩⟩
def spIsAllThere (d : Ad) (K : PySem.W.Frag) : Sp := fun vs H Q _ => ∃ (h p : Addr) (s : List (List Int) × List Int) (held : List Int), vs = [.ref h, .ref p] ∧ HistAt d K H h s ∧ SqT K H p (held.map V.int) ∧ held.length ≤ 1000 ∧ s.1.length ≤ 1000 ∧ (∀ r ∈ s.1, r.length ≤ 1000) ∧ s.2.length ≤ 1000 ∧
  ∀ H', Ex H H' → Q (.bl (allThere s held)) H'
abbrev s_is_all_there : Stmt := top 24
abbrev N_is_all_there : List Str := ["history", "plates", "found", "version"]
abbrev p_is_all_there : List Str := ["history", "plates"]
theorem sc_is_all_there : FnScope N_is_all_there p_is_all_there (defScope s_is_all_there) := ⟨rfl, rfl, rfl, by decide +kernel, rfl, by decide +kernel, by decide +kernel⟩
theorem ok_is_all_there (C : Cl K mg d) (D : Dn K mg "is_all_there" s_is_all_there p_is_all_there) (T : Txt K mg) (c_closure : C8.Cal P w K mg base 1 "closure" (spClosure d K) []) : C8.Cal P w K mg base 2 "is_all_there" (spIsAllThere d K) [] := by
  refine D.ok sc_is_all_there (fun vs H Q E h => ?_) (fun f cdv A outer s H vs Q E hr h => ?_)
  · obtain ⟨h, p, s, held, rfl, _⟩ := h
    rfl
  obtain ⟨h, p, s, held, rfl, hH, hP, n1, n2, n3, n4, k⟩ := h
  refine ⟨_, (pss_cons (ps_set (i := 2) sc_is_all_there.nd rfl (Or.inr rfl) (C8.pe_c c_closure hr (by decide) (by rfl) (pa_cons (pv 0) (pa_cons (pv 1) pa_nil))))
  (pss_one (ps_ret (pe_callB (cr_all rfl) (by rfl) T.all (by decide +kernel) (pa_cons (pe_lc (own := [("version", 3)]) (g := gName 3) (tt := tYes) rfl sc_is_all_there.nd (pi_tup (pe_fld (pv 0) rfl)) (blkOk_by (N := N_is_all_there) (sc := defScope s_is_all_there) (by decide +kernel)) (fun _ _ _ _ _ => (pg_name (i := 3) sc_is_all_there.nd rfl (Or.inl rfl))) (fun _ _ _ _ _ => pts_nil) (fun _ _ _ _ _ => (pe_cmp (pc_din (hu_of hr) (pv 3) (pv 2)) rfl))) pa_nil))))), ?_⟩
  refine ⟨_, rfl, _, rfl, h, p, s, held, rfl, hH, hP, n1, n2, n3, fun H1 D e1 hK => ?_⟩
  obtain ⟨dx, p1, p2, t, xs, hh, hx, hp, ht⟩ := hH.mono e1
  obtain ⟨kvs, q1, q2, q3⟩ := hK
  refine ⟨_, rfl, h, d.hs, dx, _, _, rfl, hh, C.c_History, C.n_last, rfl, t, rfl, ⟨_, ht⟩, fun L hL => lc_pure hL (walk_tup (xs := s.2.map V.int)) yat_ex (fun _ => rfl) (fun H' e => ex_t e ht) (by rw [List.length_map]; omega)
    (fun i' y _ => ∃ c, s.2[i']? = some c ∧ y = V.bl (closedTo s.1 held s.1.length c)) (fun _ _ _ _ _ h => h) ?_ ?_⟩
  · rintro i' v H4 H5 _ e4 ⟨rfl, hv⟩ Q' q
    obtain ⟨c, hc, rfl⟩ := map_get hv
    refine ⟨_, rfl, _, rfl, D, _, rfl, DGet.k (k := .inl c) (e4 _ _ q1), q _ _ (Ex.refl _) ⟨c, hc, ?_⟩⟩
    rw [q3]
  · intro H4 acc e4 hA hl hR
    have ea : acc = (s.2.map (closedTo s.1 held s.1.length)).map V.bl := by
      rw [List.map_map]
      exact acc_map (by rw [hl, List.length_map]) fun i y h => hR i y h
    rw [ea] at hA
    refine ⟨L, _, rfl, SqL.of hA, ?_⟩
    rw [List.all_map]
    exact k _ (e1.trans e4)
def spLaid (d : Ad) (K : PySem.W.Frag) : Sp := fun vs H Q _ => ∃ (h p : Addr) (s : List (List Int) × List Int) (plates : List Int) (c : Int), vs = [.ref h, .ref p, .int c] ∧ HistAt d K H h s ∧ SqT K H p (plates.map V.int) ∧ plates.length ≤ 1000 ∧ s.2.length = plates.length ∧ 0 ≤ c ∧ c.toNat < plates.length ∧
  ∀ H' a, Ex H H' → SqT K H' a ((laidAt s.2 plates c).map V.int) → Q (.ref a) H'
abbrev s_laid : Stmt := top 26
abbrev N_laid : List Str := ["history", "plates", "cell"]
abbrev p_laid : List Str := ["history", "plates", "cell"]
theorem sc_laid : FnScope N_laid p_laid (defScope s_laid) := ⟨rfl, rfl, rfl, by decide +kernel, rfl, by decide +kernel, by decide +kernel⟩
theorem ok_laid (C : Cl K mg d) (D : Dn K mg "laid" s_laid p_laid) (T : Txt K mg) : C8.Cal P w K mg base 1 "laid" (spLaid d K) [] := by
  refine D.ok sc_laid (fun vs H Q E h => ?_) (fun f cdv A outer s H vs Q E hr h => ?_)
  · obtain ⟨h, p, s, plates, c, rfl, _⟩ := h
    rfl
  obtain ⟨h, p, s, plates, c, rfl, ⟨dx, p1, p2, t, xs, hh, hx, hp, ht⟩, hP, n1, n2, c0, c1, k⟩ := h
  refine ⟨_, (pss_one (ps_ret (pe_op op_catA (pe_op op_catA (pe_slice sl_tupA (pv 1) po_none (po_some (pv 2))) (pe_tup (pa_cons (pe_ix ix_tup (pe_fld (pv 0) rfl) (pv 2) (fun _ _ => rfl)) pa_nil))) (pe_slice sl_tupA (pv 1) (po_some (pe_op op_add (pv 2) pe_int)) po_none)))), ?_⟩
  obtain ⟨m, rfl⟩ : ∃ m : Nat, c = (m : Int) := ⟨c.toNat, (nat_of c0).symm⟩
  rw [Int.toNat_natCast] at c1
  -- plates[:cell]
  refine ⟨_, rfl, _, rfl, _, rfl, use_slA hP fun q1 H1 e1 r1 => ?_⟩
  rw [cut_to] at r1
  -- (history.last[cell],)
  obtain ⟨z, hz⟩ : ∃ z, s.2[m]? = some z := ⟨_, List.getElem?_eq_getElem (by omega)⟩
  refine ⟨_, rfl, h, d.hs, dx, _, _, rfl, e1 _ _ hh, C.c_History, C.n_last, rfl, _, rfl, t, _, _, .int z, rfl, rfl, ex_t e1 ht, atI_nat (by rw [List.getElem?_map, hz]; rfl), len1, fun q2 h2 => ?_⟩
  have e2 : Ex H1 (upd H1 q2 (.tup [V.int z])) := Ex.new h2
  have r2 : SqT K (upd H1 q2 (.tup [V.int z])) q2 [V.int z] := SqT.of upd_same
  generalize upd H1 q2 (.tup [V.int z]) = H2 at e2 r2 ⊢
  refine use_cat (ex_t e2 r1) r2 (by rw [List.length_take, List.length_map, List.length_singleton]; omega) fun q3 H3 e3 r3 => ?_
  refine ⟨_, rfl, _, rfl, _, _, rfl, rfl, _, rfl, ?_⟩
  show rSlA K (.ref p) (some ((m : Int) + 1)) none H3 (fun y H2 => rCatA K (.ref q3) y H2 Q)
  refine use_slA (ex_t ((e1.trans e2).trans e3) hP) fun q4 H4 e4 r4 => ?_
  rw [show (m : Int) + 1 = ((m + 1 : Nat) : Int) by omega, cut_from] at r4
  refine use_cat (ex_t e4 r3) r4 (by simp only [List.length_append, List.length_take, List.length_map, List.length_singleton, List.length_drop]; omega) fun q5 H5 e5 r5 => ?_
  refine k H5 q5 ((((e1.trans e2).trans e3).trans e4).trans e5) ?_
  have el : (laidAt s.2 plates (m : Int)).map V.int = (plates.map V.int).take m ++ [V.int z] ++ (plates.map V.int).drop (m + 1) := by
    unfold laidAt
    rw [Int.toNat_natCast, getD_of hz, List.map_set, List.set_eq_take_append_cons_drop, if_pos (by rw [List.length_map]; exact c1), List.append_assoc]
    rfl
  rw [el]
  exact r5
end
end K28
/-! # Runs -/
namespace K28
open PySem PySem.Spec PyProof.Rows L2
open Evl (Ex ex_l ex_t)
abbrev Stp := Str × Int
def StepAt (K : PySem.W.Frag) (H : Hp) (v : V) (s : Stp) : Prop := ∃ a : Addr, v = .ref a ∧ SqT K H a [.str s.1, .int s.2]
theorem StepAt.mono {K : PySem.W.Frag} {H H' : Hp} {v : V} {s : Stp} (e : Ex H H') (h : StepAt K H v s) : StepAt K H' v s := by
  obtain ⟨a, e1, h1⟩ := h
  exact ⟨a, e1, ex_t e h1⟩
/-- how many numbers a word may have -/
def mostOf (n : Int) (m : Nat) (w : Str) : Int := if w = "do" then (m : Int) else if w = "lay" then n else 0
abbrev wordsD (n : Int) (m : Nat) : List (Key × V) := [(Sum.inr "do", .int (m : Nat)), (Sum.inr "lay", .int n)]
def isStep (n : Int) (m : Nat) (s : Stp) : Bool := decide (0 ≤ s.2) && decide (s.2 ≤ mostOf n m s.1 - 1)
/-- one step more of a run -/
def ledStep (n : Int) (ks : List Kd) (t : List Int × List Int) (s : Stp) : Option (List Int × List Int) :=
  if s.1 = "do" then some (t.1 ++ [s.2], t.2) else
    if allThere (story n ks t.1) (laidAt (story n ks t.1).2 t.2 s.2) = true then some (t.1, laidAt (story n ks t.1).2 t.2 s.2) else none
def led (n : Int) (ks : List Kd) : List Int × List Int → List Stp → Option (List Int × List Int)
  | t, [] => some t
  | t, s :: r => match ledStep n ks t s with
    | some t' => led n ks t' r
    | none => none
def isRun (n : Int) (ks : List Kd) (ss : List Stp) : Bool := decide (ss.length ≤ 400) && (ss.all (isStep n ks.length) && (led n ks ([], fresh n) ss).isSome)
theorem str_ne : ¬ (Str.ofString "lay" = Str.ofString "do") := by decide +kernel
theorem step_do {n : Int} {m : Nat} {s : Stp} (h : isStep n m s = true) (e : s.1 = "do") : 0 ≤ s.2 ∧ s.2 < m := by
  unfold isStep mostOf at h
  rw [if_pos e, Bool.and_eq_true, decide_eq_true_iff, decide_eq_true_iff] at h
  omega
theorem step_lay {n : Int} {m : Nat} {s : Stp} (h : isStep n m s = true) (e : ¬ s.1 = "do") : 0 ≤ s.2 ∧ s.2 < n := by
  unfold isStep mostOf at h
  rw [if_neg e, Bool.and_eq_true, decide_eq_true_iff, decide_eq_true_iff] at h
  by_cases c : s.1 = "lay"
  · rw [if_pos c] at h; omega
  · rw [if_neg c] at h; omega
theorem rows_few (n : Int) (ks : List Kd) (hk : ∀ k ∈ ks, isKind n k = true) : ∀ (js : List Int) (s : List (List Int) × List Int), (∀ r ∈ s.1, r.length ≤ 3) → ∀ r ∈ (js.foldl (stp ks) s).1, r.length ≤ 3
  | [], s, h => h
  | j :: js, s, h => by
    rw [List.foldl_cons]
    refine rows_few n ks hk js _ fun r hr => ?_
    unfold stp at hr
    rcases List.mem_append.mp hr with z | z
    · exact h r z
    · rw [List.mem_singleton.mp z, List.length_map]
      by_cases c : j.toNat < ks.length
      · rw [getD_of (List.getElem?_eq_getElem c)]
        exact (kind_bd (hk _ (List.getElem_mem c))).2.2
      · rw [List.getD_eq_getElem?_getD, List.getElem?_eq_none_iff.mpr (by omega)]
        exact Nat.zero_le _
theorem fresh_len (n : Int) : (fresh n).length = n.toNat := by
  unfold fresh
  rw [List.length_map, List.length_range]
theorem laid_len (l p : List Int) (c : Int) : (laidAt l p c).length = p.length := by
  unfold laidAt
  rw [List.length_set]
section
variable {P : Program} {w : World} {K : PySem.W.Frag} {mg : Str → Option Value} {base : Heap} {d : Ad}
def spIsStep (d : Ad) (K : PySem.W.Frag) : Sp := fun vs H Q _ => ∃ (t : Addr) (v : V) (n : Int) (ks : List Kd) (s : Stp), vs = [.ref t, v] ∧ TabAt d K H t n ks ∧ StepAt K H v s ∧ ∀ H', Ex H H' → Q (.bl (isStep n ks.length s)) H'
abbrev s_is_step : Stmt := top 31
abbrev N_is_step : List Str := ["table", "thing", "most"]
abbrev p_is_step : List Str := ["table", "thing"]
theorem sc_is_step : FnScope N_is_step p_is_step (defScope s_is_step) := ⟨rfl, rfl, rfl, by decide +kernel, rfl, by decide +kernel, by decide +kernel⟩
theorem ok_is_step (C : Cl K mg d) (D : Dn K mg "is_step" s_is_step p_is_step) (T : Txt K mg) (c_is_pair : C8.Cal P w K mg base 1 "is_pair" (spIsPair K) []) (c_is_within : C8.Cal P w K mg base 2 "is_within" spIsWithin []) : C8.Cal P w K mg base 3 "is_step" (spIsStep d K) [] := by
  refine D.ok sc_is_step (fun vs H Q E h => ?_) (fun f cdv A outer s H vs Q E hr h => ?_)
  · obtain ⟨t, v, n, ks, s, rfl, _⟩ := h
    rfl
  obtain ⟨t, v, n, ks, st, rfl, ⟨dx, p, ht, xs, hk, hp⟩, ⟨a, rfl, hS⟩, k⟩ := h
  refine ⟨_, (pss_cons (ps_if (PW.pt (pw_or (pt_not (pt_val (C8.pe_c c_is_pair hr (by decide) (by rfl) (pa_cons (pv 1) pa_nil)))) (pw_or1 (pt_not (pt_val (pe_callB call_isi (by rfl) T.isinstance (by decide +kernel) (pa_cons (pe_ix ix_tup (pv 1) pe_int (fun _ _ => rfl)) (pa_cons (pe_bltn (v := .ty "str") (by rfl) T.str (by decide +kernel) rfl) pa_nil)))))))) (pss_one (ps_ret pe_bl)) pss_nil)
  (pss_cons (ps_set (i := 2) sc_is_step.nd rfl (Or.inl rfl) (pe_dget2 (hu_of hr) (pe_disp (pps_cons (C8.pe_gc (by rfl) T.c_DO) (pe_callB call_len_seq (by rfl) T.len (by decide +kernel) (pa_cons (pe_fld (pv 0) rfl) pa_nil)) (pps_cons (C8.pe_gc (by rfl) T.c_LAY) (pe_fld (pv 0) rfl) pps_nil)) (by rfl) (by rfl) (fun z => by cases z) (by decide)) (pe_ix ix_tup (pv 1) pe_int (fun _ _ => rfl)) pe_int ⟨by rfl, by rfl, by rfl, by rfl⟩))
  (pss_one (ps_ret (C8.pe_c c_is_within hr (by decide) (by rfl) (pa_cons (pe_ix ix_tup (pv 1) pe_int (fun _ _ => rfl)) (pa_cons pe_int (pa_cons (pe_op op_sub (pv 2) pe_int) pa_nil)))))))), ?_⟩
  refine ⟨_, rfl, a, _, rfl, hS, _, rfl, iteF ?_⟩
  refine ⟨_, rfl, a, _, 0, .str st.1, rfl, rfl, hS, rfl, _, _, _, _, _, rfl, .ty _, .base (.str _), kit_ty (r := true) (by decide +kernel), _, rfl, iteF ?_⟩
  refine fun D hD => ⟨_, rfl, t, d.tb, dx, tFs n p, .ref p, rfl, ?_, C.c_Table.cl, C.n_kinds, rfl, p, xs, rfl, .inr ?_, ?_⟩
  · exact Ex.new hD _ _ ht
  · exact ex_t (Ex.new hD) hk
  have e1 : Ex H (upd H D (.dK [])) := Ex.new hD
  have dD : upd H D (.dK []) D = some (.dK []) := upd_same
  rw [pair_len hp]
  generalize upd H D (.dK []) = H1 at e1 dD ⊢
  refine ⟨_, rfl, t, d.tb, dx, tFs n p, .int n, rfl, e1 _ _ ht, C.c_Table.cl, C.n_cells, rfl, dD, wordsD n ks.length, rfl, show 2 ≤ 15 by decide, D, rfl, .inl ⟨_, .inl upd_same⟩, ?_⟩
  have e2 : Ex H (upd H1 D (.dK (mergeK [] (wordsD n ks.length)))) := ex_upd e1 hD
  have hd2 : upd H1 D (.dK (mergeK [] (wordsD n ks.length))) D = some (.dK (mergeK [] (wordsD n ks.length))) := upd_same
  generalize upd H1 D (.dK (mergeK [] (wordsD n ks.length))) = H2 at e2 hd2 ⊢
  refine ⟨_, rfl, a, _, 0, .str st.1, rfl, rfl, ex_t e2 hS, rfl, _, DGet.k (k := .inr st.1) hd2, ?_⟩
  have eo : (valV (mergeK [] (wordsD n ks.length)) (Sum.inr st.1)).getD (.int 0) = .int (mostOf n ks.length st.1) := by
    show (valV (putK (putK [] (Sum.inr "do" : Key) (V.int (ks.length : Nat))) (Sum.inr "lay" : Key) (V.int n)) (Sum.inr st.1 : Key)).getD (.int 0) = _
    rw [valV_put, valV_put]
    unfold mostOf
    by_cases c1 : st.1 = "do"
    · rw [if_neg (fun z => by injection z with z; rw [c1] at z; exact str_ne z.symm), if_pos (by rw [c1]), if_pos c1]; rfl
    · rw [if_neg c1]
      by_cases c2 : st.1 = "lay"
      · rw [if_pos (by rw [c2]), if_pos c2]; rfl
      · rw [if_neg (fun z => c2 (by injection z)), if_neg (fun z => c1 (by injection z)), if_neg c2]; rfl
  rw [eo]
  refine ⟨_, rfl, a, _, 1, .int st.2, rfl, rfl, ex_t e2 hS, rfl, _, rfl, _, _, rfl, rfl, st.2, 0, _, rfl, ?_⟩
  exact k H2 e2
/-- None, or what a run leads to -/
def spLedBy (d : Ad) (K : PySem.W.Frag) : Sp := fun vs H Q _ => ∃ (t a : Addr) (n : Int) (ks : List Kd) (xs : List V) (ss : List Stp), vs = [.ref t, .ref a] ∧ TabAt d K H t n ks ∧ tableOut n ks = none ∧ SqT K H a xs ∧ Paired (StepAt K H) xs ss ∧ ss.length ≤ 400 ∧ ss.all (isStep n ks.length) = true ∧
  (led n ks ([], fresh n) ss = none → ∀ H', Ex H H' → Q .non H') ∧ ((led n ks ([], fresh n) ss).isSome = true → ∀ H' v, Ex H H' → Q (.ref v) H')
abbrev s_led_by : Stmt := top 32
abbrev N_led_by : List Str := ["table", "steps", "journal", "plates", "word", "number", "history"]
abbrev p_led_by : List Str := ["table", "steps"]
theorem sc_led_by : FnScope N_led_by p_led_by (defScope s_led_by) := ⟨rfl, rfl, rfl, by decide +kernel, rfl, by decide +kernel, by decide +kernel⟩
theorem ok_led_by (C : Cl K mg d) (D : Dn K mg "led_by" s_led_by p_led_by) (T : Txt K mg) (c_all_fresh : C8.Cal P w K mg base 2 "all_fresh" (spAllFresh d K) []) (c_laid : C8.Cal P w K mg base 1 "laid" (spLaid d K) []) (c_is_all_there : C8.Cal P w K mg base 2 "is_all_there" (spIsAllThere d K) [])
    (i_History : Mak P w K mg base 3 "History" d.hs (spHistory d K)) : C8.Cal P w K mg base 5 "led_by" (spLedBy d K) [] := by
  refine D.ok sc_led_by (fun vs H Q E h => ?_) (fun f cdv A outer s H vs Q E hr h => ?_)
  · obtain ⟨t, a, n, ks, xs, ss, rfl, _⟩ := h
    rfl
  obtain ⟨t, a, n, ks, xs, ss, rfl, hTab, hok, hT, hp, hl, hall, k1, k2⟩ := h
  obtain ⟨hn, hks, hkd⟩ := table_ok hok
  refine ⟨_, (pss_cons (ps_set (i := 2) sc_led_by.nd rfl (Or.inl rfl) (pe_tup pa_nil))
  (pss_cons (ps_set (i := 3) sc_led_by.nd rfl (Or.inl rfl) (C8.pe_c c_all_fresh hr (by decide) (by rfl) (pa_cons (pv 0) pa_nil)))
  (pss_cons (ps_for PassesOwn.never rfl (pi_tup (pv 1)) (pg_tup rfl (pgs_cons (pg_name (i := 4) sc_led_by.nd rfl (Or.inl rfl)) (pgs_cons (pg_name (i := 5) sc_led_by.nd rfl (Or.inl rfl)) pgs_nil)))
  (pss_one (ps_if (pt_cmpR op_eq (pv 4) (C8.pe_gc (by rfl) T.c_DO) (nomark _)) (pss_one (ps_set (i := 2) sc_led_by.nd rfl (Or.inl rfl) (pe_op op_catA (pv 2) (pe_tup (pa_cons (pv 5) pa_nil))))) (pss_cons (ps_set (i := 6) sc_led_by.nd rfl (Or.inl rfl) (pe_mk i_History hr (by decide) (by rfl) passN (pa_cons (pv 0) (pa_cons (pv 2) pa_nil))))
  (pss_cons (ps_set (i := 3) sc_led_by.nd rfl (Or.inl rfl) (C8.pe_c c_laid hr (by decide) (by rfl) (pa_cons (pv 6) (pa_cons (pv 3) (pa_cons (pv 5) pa_nil)))))
  (pss_one (ps_if (pt_not (pt_val (C8.pe_c c_is_all_there hr (by decide) (by rfl) (pa_cons (pv 6) (pa_cons (pv 3) pa_nil))))) (pss_one (ps_ret pe_non)) pss_nil)))))))
  (pss_one (ps_ret (pe_tup (pa_cons (pv 2) (pa_cons (pv 3) pa_nil)))))))), ?_⟩
  refine ⟨by decide, fun q0 h0 => ?_⟩
  have e0 : Ex H (upd H q0 (.tup [])) := Ex.new h0
  have r0 : SqT K (upd H q0 (.tup [])) q0 (([] : List Int).map V.int) := SqT.of upd_same
  generalize upd H q0 (.tup []) = H0 at e0 r0 ⊢
  refine ⟨_, rfl, t, n, ks, rfl, hTab.mono e0, by omega, by omega, fun H1 q1 e1 hq1 => ?_⟩
  refine ⟨_, rfl, a, rfl, ⟨_, ex_t (e0.trans e1) hT⟩, for_tup (K := K) (a := a) (xs := xs) (fun i σ H' => Ex H H' ∧ ∃ (js plates : List Int) (pj pp : Addr) (y1 y2 y3 : Option V), σ = [some (.ref t), some (.ref a), some (.ref pj), some (.ref pp), y1, y2, y3] ∧
    led n ks ([], fresh n) ss = led n ks (js, plates) (ss.drop i) ∧ SqT K H' pj (js.map V.int) ∧ SqT K H' pp (plates.map V.int) ∧ js.length ≤ i ∧ (∀ j ∈ js, 0 ≤ j ∧ j < (ks.length : Int)) ∧ plates.length = n.toNat)
    ⟨e0.trans e1, [], fresh n, q0, q1, none, none, none, rfl, by rw [List.drop_zero], ex_t e1 r0, SqT.of hq1, Nat.le_refl _, fun j hj => (by cases hj), fresh_len n⟩ (fun i σ H' _ h => ex_t h.1 hT) ?_ ?_⟩
  · rintro i v σ H2 hv ⟨e2, js, plates, pj, pp, y1, y2, y3, rfl, el, rj, rp, nj, bj, np⟩
    obtain ⟨st, hst, b, rfl, hb⟩ := pair_get hp hv
    have hi := (List.getElem?_eq_some_iff.mp hst).1
    have hb2 := ex_t e2 hb
    have ok : isStep n ks.length st = true := List.all_eq_true.mp hall st (List.mem_of_getElem? hst)
    rw [drop_get hst, led] at el
    refine ⟨b, _, rfl, hb2, rfl, _, _, rfl, _, _, rfl, rfl, ?_⟩
    refine ⟨_, rfl, rfl, _, rfl, ?_⟩
    unfold ledStep at el
    by_cases hd : st.1 = "do"
    · rw [if_pos hd] at el
      refine ite2 (fun _ => ?_) (fun c => absurd (decide_eq_true (congrArg V.str hd)) c)
      obtain ⟨s0, s1⟩ := step_do ok hd
      refine ⟨_, rfl, _, rfl, len1, fun q2 h2 => ?_⟩
      have e3 : Ex H2 (upd H2 q2 (.tup [V.int st.2])) := Ex.new h2
      have r2 : SqT K (upd H2 q2 (.tup [V.int st.2])) q2 [V.int st.2] := SqT.of upd_same
      generalize upd H2 q2 (.tup [V.int st.2]) = H3 at e3 r2 ⊢
      refine use_cat (ex_t e3 rj) r2 (by rw [List.length_map, List.length_singleton]; omega) fun q3 H4 e4 r3 => ?_
      refine ⟨(e2.trans e3).trans e4, js ++ [st.2], plates, q3, pp, _, _, _, rfl, el, ?_, ex_t (e3.trans e4) rp, ?_, fun j hj => ?_, np⟩
      · rw [List.map_append]; exact r3
      · rw [List.length_append, List.length_singleton]; omega
      · rcases List.mem_append.mp hj with z | z
        · exact bj j z
        · rw [List.mem_singleton.mp z]; exact ⟨s0, s1⟩
    · rw [if_neg hd] at el
      refine ite2 (fun c => absurd (by injection of_decide_eq_true c) hd) (fun _ => ?_)
      obtain ⟨s0, s1⟩ := step_lay ok hd
      have jok : isJournal ks.length js = true := by
        unfold isJournal
        rw [Bool.and_eq_true, decide_eq_true_iff, List.all_eq_true]
        refine ⟨by omega, fun j hj => ?_⟩
        have := bj j hj
        rw [Bool.and_eq_true, decide_eq_true_iff, decide_eq_true_iff]
        omega
      obtain ⟨l1, l2⟩ := story_len n ks js js.length (Nat.le_refl _)
      rw [story_all] at l1 l2
      -- history = History(table, journal)
      refine ⟨_, rfl, _, rfl, fun x dx h1 h2 hne => ⟨x, dx, t, pj, n, ks, js, H2, rfl, h1, ex_upd (Ex.new h2) h1, upd_same, hTab.mono e2, hok, rj, jok, fun H3 e3 hH => ⟨rfl, ?_⟩⟩⟩
      have rp3 := ex_t e3 rp
      -- plates = laid(history, plates, number)
      refine ⟨_, rfl, _, rfl, _, rfl, x, pp, _, plates, st.2, rfl, hH, rp3, by omega, by omega, s0, by omega, fun H4 q4 e4 r4 => ?_⟩
      refine ⟨_, rfl, _, rfl, x, q4, _, _, rfl, hH.mono e4, r4, by rw [laid_len]; omega, by omega, fun r hr => Nat.le_trans (rows_few n ks hkd js ([], fresh n) (fun r hr => (by cases hr)) r hr) (by omega), by omega, fun H5 e5 => ⟨_, rfl, ?_⟩⟩
      have E5 : Ex H H5 := ((e2.trans e3).trans e4).trans e5
      cases hat : allThere (story n ks js) (laidAt (story n ks js).2 plates st.2) with
      | true =>
        rw [if_pos hat] at el
        refine iteF ?_
        exact ⟨E5, js, _, pj, q4, _, _, _, rfl, el, ex_t ((e3.trans e4).trans e5) rj, ex_t e5 r4, by omega, bj, by rw [laid_len]; exact np⟩
      | false =>
        rw [if_neg (by rw [hat]; exact Bool.false_ne_true)] at el
        exact iteT (k1 el H5 E5)
  · rintro σ H2 ⟨e2, js, plates, pj, pp, y1, y2, y3, rfl, el, rj, rp, nj, bj, np⟩
    rw [List.drop_of_length_le (by rw [pair_len hp]; exact Nat.le_refl _), led] at el
    exact ⟨_, rfl, _, rfl, len2, fun q hq => k2 (by rw [el]; rfl) _ q (e2.trans (Ex.new hq))⟩
def spBehind (d : Ad) (K : PySem.W.Frag) : Sp := fun vs H Q _ => ∃ (t a : Addr) (n : Int) (ks : List Kd) (xs : List V) (ss : List Stp), vs = [.ref t, .ref a] ∧ TabAt d K H t n ks ∧ tableOut n ks = none ∧ SqT K H a xs ∧ Paired (StepAt K H) xs ss ∧ ss.length ≤ 400 ∧
  (isRun n ks ss = false → ∀ H', Ex H H' → Q .non H') ∧ (isRun n ks ss = true → ∀ H' v, Ex H H' → Q (.ref v) H')
abbrev s_behind_run : Stmt := top 33
abbrev N_behind_run : List Str := ["table", "thing", "step"]
abbrev p_behind_run : List Str := ["table", "thing"]
theorem sc_behind_run : FnScope N_behind_run p_behind_run (defScope s_behind_run) := ⟨rfl, rfl, rfl, by decide +kernel, rfl, by decide +kernel, by decide +kernel⟩
theorem ok_behind_run (D : Dn K mg "behind_run" s_behind_run p_behind_run) (T : Txt K mg) (c_is_step : C8.Cal P w K mg base 3 "is_step" (spIsStep d K) []) (c_led_by : C8.Cal P w K mg base 5 "led_by" (spLedBy d K) []) : C8.Cal P w K mg base 6 "behind_run" (spBehind d K) [] := by
  refine D.ok sc_behind_run (fun vs H Q E h => ?_) (fun f cdv A outer s H vs Q E hr h => ?_)
  · obtain ⟨t, a, n, ks, xs, ss, rfl, _⟩ := h
    rfl
  obtain ⟨t, a, n, ks, xs, ss, rfl, hTab, hok, hT, hp, hl, k1, k2⟩ := h
  have hlen := pair_len hp
  unfold isRun at k1 k2
  rw [decide_eq_true hl, Bool.true_and] at k1 k2
  refine ⟨_, (pss_cons (ps_if (PW.pt (pw_or (pt_not (pt_val (pe_callB call_isi (by rfl) T.isinstance (by decide +kernel) (pa_cons (pv 1) (pa_cons (pe_bltn (v := .ty "tuple") (by rfl) T.tuple (by decide +kernel) rfl) pa_nil))))) (pw_or1 (pt_not (pt_val (pe_callB (cr_all rfl) (by rfl) T.all (by decide +kernel) (pa_cons (pe_lc (own := [("step", 2)]) (g := gName 2) (tt := tYes) rfl sc_behind_run.nd (pi_tup (pv 1)) (blkOk_by (N := N_behind_run) (sc := defScope s_behind_run) (by decide +kernel)) (fun _ _ _ _ _ => (pg_name (i := 2) sc_behind_run.nd rfl (Or.inl rfl))) (fun _ _ _ _ _ => pts_nil) (fun _ _ _ _ _ => (C8.pe_c c_is_step hr (by decide) (by rfl) (pa_cons (pv 0) (pa_cons (pv 2) pa_nil))))) pa_nil))))))) (pss_one (ps_ret pe_non)) pss_nil)
  (pss_one (ps_ret (C8.pe_c c_led_by hr (by decide) (by rfl) (pa_cons (pv 0) (pa_cons (pv 1) pa_nil)))))), ?_⟩
  refine ⟨_, rfl, _, _, _, _, _, rfl, .ty _, tyT hT, kit_ty (r := true) (by decide +kernel), _, rfl, iteF ?_⟩
  refine ⟨_, rfl, a, rfl, ⟨_, hT⟩, fun D hD => lc_pure hD (walk_tup (xs := xs)) yat_ex (fun _ => rfl) (fun H' e => ex_t e hT) (by omega) (fun i y _ => ∃ st, ss[i]? = some st ∧ y = V.bl (isStep n ks.length st)) (fun _ _ _ _ _ h => h) ?_ ?_⟩
  · rintro i v H1 H2 _ e1 ⟨rfl, hv⟩ Q' q
    obtain ⟨st, hst, hat⟩ := pair_get hp hv
    exact ⟨_, rfl, _, rfl, t, v, n, ks, st, rfl, hTab.mono e1, hat.mono e1, fun H' e' => q _ _ e' ⟨st, hst, rfl⟩⟩
  · intro H1 acc e1 hA hl' hR
    have ea : acc = (ss.map (isStep n ks.length)).map V.bl := by
      rw [List.map_map]
      exact acc_map (by rw [hl', hlen]) fun i y h => hR i y h
    rw [ea] at hA
    refine ⟨D, _, rfl, SqL.of hA, _, rfl, ?_⟩
    rw [List.all_map]
    show if (!(ss.all (isStep n ks.length))) = true then _ else _
    cases hall : ss.all (isStep n ks.length) with
    | false =>
      rw [hall, Bool.false_and] at k1
      exact iteT (k1 rfl H1 e1)
    | true =>
      rw [hall, Bool.true_and] at k1 k2
      refine iteF ⟨_, rfl, _, rfl, t, a, n, ks, xs, ss, rfl, hTab.mono e1, hok, ex_t e1 hT, Paired.mapP hp fun _ _ q => q.mono e1, hl, hall, fun hn H' e' => k1 (by rw [hn]; rfl) H' (e1.trans e'), fun hs H' v e' => k2 hs H' v (e1.trans e')⟩
def spIsRun (d : Ad) (K : PySem.W.Frag) : Sp := fun vs H Q _ => ∃ (t a : Addr) (n : Int) (ks : List Kd) (xs : List V) (ss : List Stp), vs = [.ref t, .ref a] ∧ TabAt d K H t n ks ∧ tableOut n ks = none ∧ SqT K H a xs ∧ Paired (StepAt K H) xs ss ∧ ∀ H', Ex H H' → Q (.bl (isRun n ks ss)) H'
abbrev s_is_run : Stmt := top 34
abbrev N_is_run : List Str := ["table", "thing"]
abbrev p_is_run : List Str := ["table", "thing"]
theorem sc_is_run : FnScope N_is_run p_is_run (defScope s_is_run) := ⟨rfl, rfl, rfl, by decide +kernel, rfl, by decide +kernel, by decide +kernel⟩
theorem ok_is_run (D : Dn K mg "is_run" s_is_run p_is_run) (T : Txt K mg) (c_behind_run : C8.Cal P w K mg base 6 "behind_run" (spBehind d K) []) : C8.Cal P w K mg base 7 "is_run" (spIsRun d K) [] := by
  refine D.ok sc_is_run (fun vs H Q E h => ?_) (fun f cdv A outer s H vs Q E hr h => ?_)
  · obtain ⟨t, a, n, ks, xs, ss, rfl, _⟩ := h
    rfl
  obtain ⟨t, a, n, ks, xs, ss, rfl, hTab, hok, hT, hp, k⟩ := h
  have hlen := pair_len hp
  refine ⟨_, (pss_cons (ps_if (PW.pt (pw_or (pt_not (pt_val (pe_callB call_isi (by rfl) T.isinstance (by decide +kernel) (pa_cons (pv 1) (pa_cons (pe_bltn (v := .ty "tuple") (by rfl) T.tuple (by decide +kernel) rfl) pa_nil))))) (pw_or1 (pt_cmpR op_gt (pe_callB call_len_seq (by rfl) T.len (by decide +kernel) (pa_cons (pv 1) pa_nil)) (C8.pe_gc (by rfl) T.c_MOST_STEPS) (nomark _))))) (pss_one (ps_ret pe_bl)) pss_nil)
  (pss_one (ps_ret (pe_cmpR op_notN (C8.pe_c c_behind_run hr (by decide) (by rfl) (pa_cons (pv 0) (pa_cons (pv 1) pa_nil))) pe_non (nomark _))))), ?_⟩
  refine ⟨_, rfl, _, _, _, _, _, rfl, .ty _, tyT hT, kit_ty (r := true) (by decide +kernel), _, rfl, iteF ?_⟩
  refine ⟨_, rfl, a, _, rfl, .inr hT, _, _, rfl, rfl, _, rfl, ?_⟩
  rw [hlen]
  by_cases h1 : ss.length ≤ 400
  rotate_left
  · unfold isRun at k
    rw [decide_eq_false h1, Bool.false_and] at k
    rw [decide_eq_true (show (400 : Int) < (ss.length : Int) by omega)]
    exact iteT (k H (Ex.refl H))
  rw [decide_eq_false (show ¬ (400 : Int) < (ss.length : Int) by omega)]
  refine iteF ⟨_, rfl, _, rfl, t, a, n, ks, xs, ss, rfl, hTab, hok, hT, hp, h1, fun hn H' e' => ⟨rfl, ?_⟩, fun hs H' v e' => ⟨rfl, ?_⟩⟩
  · rw [hn] at k
    exact k H' e'
  · rw [hs] at k
    exact k H' e'
end
end K28
/-! # Texts read, the program's -/
namespace K28
open PySem PySem.Spec PyProof.Rows L2
open Evl (Ex ex_l ex_t)
/-- the last of a sequence -/
theorem at_last {xs : List V} {v : V} (h : xs.getLast? = some v) : atI xs (-1) = some v := by
  have hne : xs ≠ [] := fun e => by rw [e] at h; cases h
  have hl : 0 < xs.length := List.length_pos_iff.mpr hne
  unfold atI ixN
  rw [if_neg (by decide), if_pos (by omega)]
  show xs[((-1 : Int) + xs.length).toNat]? = some v
  rw [List.getLast?_eq_getElem?] at h
  rw [show ((-1 : Int) + xs.length).toNat = xs.length - 1 by omega]
  exact h
theorem last_app {α : Type} (xs : List α) (v : α) : (xs ++ [v]).getLast? = some v := by rw [List.getLast?_append]; rfl
/-- no text -/
def NotS (K : PySem.W.Frag) (H : Hp) (v : V) : Prop := ∃ t, TyX K H v t ∧ PySem.W.kitOne K t (.type "str") = some false
theorem tyx_mono {K : PySem.W.Frag} {H H' : Hp} {v : V} {t : Value} (e : Ex H H') (h : TyX K H v t) : TyX K H' v t := by
  cases h with
  | base b =>
    refine .base ?_
    cases b with
    | non => exact .non
    | bl x => exact .bl x
    | int i => exact .int i
    | str x => exact .str x
    | flt x => exact .flt x
    | lst h => exact .lst (e _ _ h)
    | frz h => exact .frz (e _ _ h)
    | tup h => exact .tup (e _ _ h)
    | dK h => exact .dK (e _ _ h)
    | dT h => exact .dT (e _ _ h)
    | ins h h2 h3 h4 h5 h6 => exact .ins (e _ _ h) h2 h3 h4 h5 h6
  | byt b => exact .byt b
  | set h => exact .set (e _ _ h)
  | kList h c => exact .kList h c
  | kTuple h c => exact .kTuple h c
  | kDict h c => exact .kDict h c
  | fTuple h => exact .fTuple (e _ _ h)
  | fDict h => exact .fDict (e _ _ h)
theorem NotS.mono {K : PySem.W.Frag} {H H' : Hp} {v : V} (e : Ex H H') (h : NotS K H v) : NotS K H' v := by
  obtain ⟨t, h1, h2⟩ := h
  exact ⟨t, tyx_mono e h1, h2⟩
/-- what a reader of texts does: its answer at a text, BadText(0) at anything else -/
def spRd {α : Type} (d : Ad) (K : PySem.W.Frag) (res : Str → Except Out α) (At : Hp → V → α → Prop) (Q : VK) (E : XK) (H : Hp) (v : V) : Prop :=
  (∃ x : Str, v = .str x ∧ x.length ≤ 50000 ∧ (∀ o, res x = .error o → raised d o E H) ∧ ∀ r, res x = .ok r → ∀ H' y, Ex H H' → At H' y r → Q y H') ∨ (NotS K H v ∧ raised d (.line 0) E H)
/-! ### the lines of a table -/
def goLines : Nat → Option Int → List Kd → List Str → Except Nat (Option Int × List Kd)
  | _, n, ks, [] => .ok (n, ks)
  | i, n, ks, l :: r => if i = 0 then (match cellsOf l with
      | none => .error 0
      | some m => goLines 1 (some m) ks r) else match kindOf l with
    | none => .error i
    | some k => goLines (i + 1) n (ks ++ [k]) r
def readT (x : Str) : Except Out (Int × List Kd) :=
  match goLines 0 none [] (Txt.split x "\n").dropLast with
  | .error i => .error (.line ((i : Int) + 1))
  | .ok (n, ks) => if (Txt.split x "\n").getLast? ≠ some ("" : Str) then .error (.line (Txt.split x "\n").length) else match n with
    | none => .error (.line (Txt.split x "\n").length)
    | some m => match tableOut m ks with
      | some o => .error o
      | none => .ok (m, ks)
def wordsOf (x : Str) : List Str := if x = "-" then [] else Txt.split x ","
def readJ (m : Nat) (x : Str) : Except Out (List Int) := match numsOf (wordsOf x) with
  | none => .error (.line 1)
  | some js => if isJournal m js = true then .ok js else .error .journal
def stepOf (x : Str) : Option Stp := match Txt.split x " " with
  | [a, b] => match numOf b with
    | some n => if a = "do" ∨ a = "lay" then some (a, n) else none
    | none => none
  | _ => none
def stepsOf : List Str → Option (List Stp)
  | [] => some []
  | x :: r => match stepOf x, stepsOf r with
    | some s, some ss => some (s :: ss)
    | _, _ => none
def readR (n : Int) (ks : List Kd) (x : Str) : Except Out (List Stp) := match stepsOf (wordsOf x) with
  | none => .error (.line 1)
  | some ss => if isRun n ks ss = true then .ok ss else .error .run
section
variable {P : Program} {w : World} {K : PySem.W.Frag} {mg : Str → Option Value} {base : Heap} {d : Ad}
def spCheck (d : Ad) (K : PySem.W.Frag) : Sp := fun vs H Q E => ∃ v, vs = [v] ∧ spRd d K (fun x => .ok x) (fun _ y _ => y = .non) Q E H v
abbrev s_check_string : Stmt := top 43
abbrev N_check_string : List Str := ["thing"]
abbrev p_check_string : List Str := ["thing"]
theorem sc_check_string : FnScope N_check_string p_check_string (defScope s_check_string) := ⟨rfl, rfl, rfl, by decide +kernel, rfl, by decide +kernel, by decide +kernel⟩
theorem ok_check_string (D : Dn K mg "check_string" s_check_string p_check_string) (T : Txt K mg) (x_BadText : XMak P w K mg base 1 "BadText" d.bt (spBadText d.bt)) : CalX P w K mg base 3 "check_string" (spCheck d K) := by
  refine D.okX sc_check_string (fun vs H Q E h => ?_) (fun f cdv A outer s H vs Q E hr h => ?_)
  · obtain ⟨v, rfl, _⟩ := h
    rfl
  obtain ⟨v, rfl, h⟩ := h
  refine ⟨_, (pss_one (ps_if (pt_not (pt_val (pe_callB call_isi (by rfl) T.isinstance (by decide +kernel) (pa_cons (pv 0) (pa_cons (pe_bltn (v := .ty "str") (by rfl) T.str (by decide +kernel) rfl) pa_nil))))) (pss_one (ps_raise (by rfl) (takes_of rfl rfl rfl rfl) (pmk_x x_BadText hr (by decide) (by rfl) (pa_cons pe_int pa_nil)))) pss_nil)), ?_⟩
  rcases h with ⟨x, rfl, hl, _, k⟩ | ⟨⟨t, h1, h2⟩, k⟩
  · exact ⟨_, rfl, _, _, _, _, _, rfl, .ty _, .base (.str _), kit_ty (r := true) (by decide +kernel), _, rfl, iteF (k x rfl H _ (Ex.refl H) rfl)⟩
  · exact ⟨_, rfl, _, _, _, _, _, rfl, .ty _, h1, h2, _, rfl, iteT (use_BadText fun x hx => k _ x (Ex.new hx) upd_same)⟩
/-- a part of a text is no longer -/
theorem piece_le {x y p : Str} (h : IsMark y) (hp : p ∈ Txt.split x y) {n : Nat} (hl : x.length ≤ n) : p.length ≤ n := Nat.le_trans (split_piece h hp) hl
def spWords (d : Ad) (K : PySem.W.Frag) : Sp := fun vs H Q E => ∃ v, vs = [v] ∧ spRd d K (fun x => .ok (wordsOf x)) (fun H' y ws => ∃ a, y = .ref a ∧ SqL K H' a (ws.map V.str)) Q E H v
abbrev s_words_of : Stmt := top 45
abbrev N_words_of : List Str := ["text"]
abbrev p_words_of : List Str := ["text"]
theorem sc_words_of : FnScope N_words_of p_words_of (defScope s_words_of) := ⟨rfl, rfl, rfl, by decide +kernel, rfl, by decide +kernel, by decide +kernel⟩
theorem ok_words_of (D : Dn K mg "words_of" s_words_of p_words_of) (T : Txt K mg) (c_check_string : CalX P w K mg base 3 "check_string" (spCheck d K)) : CalX P w K mg base 4 "words_of" (spWords d K) := by
  refine D.okX sc_words_of (fun vs H Q E h => ?_) (fun f cdv A outer s H vs Q E hr h => ?_)
  · obtain ⟨v, rfl, _⟩ := h
    rfl
  obtain ⟨v, rfl, h⟩ := h
  refine ⟨_, (pss_cons (ps_expr (pe_cX c_check_string hr (by decide) (by rfl) (takes_of rfl rfl rfl rfl) (pa_cons (pv 0) pa_nil)))
  (pss_one (ps_ret (pe_ifExp (pt_cmpR op_eq (pv 0) (C8.pe_gc (by rfl) T.c_NOTHING) (nomark _)) (pe_lst pa_nil) (pe_split (pv 0) pe_str))))), ?_⟩
  refine ⟨_, rfl, v, rfl, ?_⟩
  rcases h with ⟨x, rfl, hl, _, k⟩ | ⟨h1, k⟩
  · refine .inl ⟨x, rfl, hl, fun o e => (by cases e), fun r _ H1 y e1 hy => ?_⟩
    have k' : ∀ H' y, Ex H H' → (∃ a, y = V.ref a ∧ SqL K H' a ((wordsOf x).map V.str)) → Q y H' := k _ rfl
    unfold wordsOf at k'
    refine ⟨_, rfl, rfl, _, rfl, ?_⟩
    rw [str_eq]
    by_cases hx : x = "-"
    · rw [decide_eq_true hx]
      rw [if_pos hx] at k'
      exact iteT ⟨by decide, fun p hp => k' _ _ (e1.trans (Ex.new hp)) ⟨p, rfl, SqL.of upd_same⟩⟩
    · rw [decide_eq_false hx]
      rw [if_neg hx] at k'
      exact iteF ⟨_, rfl, ⟨x, rfl⟩, x, _, rfl, rfl, mark_comma.ne0, Nat.le_trans (by omega : x.length + 2 ≤ 100000) (by decide), fun p hp => k' _ _ (e1.trans (Ex.new hp)) ⟨p, rfl, SqL.of upd_same⟩⟩
  · exact .inr ⟨h1, k⟩
theorem words_len {x : Str} {n : Nat} (h : x.length ≤ n) : (wordsOf x).length ≤ n + 1 ∧ ∀ y ∈ wordsOf x, y.length ≤ n := by
  unfold wordsOf
  by_cases hx : x = "-"
  · rw [if_pos hx]
    exact ⟨Nat.zero_le _, fun y hy => (by cases hy)⟩
  · rw [if_neg hx]
    exact ⟨Nat.le_trans (split_len x mark_comma) (by omega), fun y hy => piece_le mark_comma hy h⟩
/-- tuples of ints as answers -/
def IntsA (K : PySem.W.Frag) (H : Hp) (y : V) (js : List Int) : Prop := ∃ a : Addr, y = .ref a ∧ SqT K H a (js.map V.int)
def spReadJ (d : Ad) (K : PySem.W.Frag) : Sp := fun vs H Q E => ∃ (t : Addr) (n : Int) (ks : List Kd) (v : V), vs = [.ref t, v] ∧ TabAt d K H t n ks ∧ spRd d K (readJ ks.length) (IntsA K) Q E H v
abbrev s_read_journal : Stmt := top 46
abbrev N_read_journal : List Str := ["table", "text", "found"]
abbrev p_read_journal : List Str := ["table", "text"]
theorem sc_read_journal : FnScope N_read_journal p_read_journal (defScope s_read_journal) := ⟨rfl, rfl, rfl, by decide +kernel, rfl, by decide +kernel, by decide +kernel⟩
theorem ok_read_journal (C : Cl K mg d) (D : Dn K mg "read_journal" s_read_journal p_read_journal) (T : Txt K mg) (c_words_of : CalX P w K mg base 4 "words_of" (spWords d K)) (c_numbers_of : C8.Cal P w K mg base 2 "numbers_of" (spNums K) [])
    (c_is_journal : C8.Cal P w K mg base 3 "is_journal" (spIsJournal d K) []) (x_BadText : XMak P w K mg base 1 "BadText" d.bt (spBadText d.bt)) : CalX P w K mg base 5 "read_journal" (spReadJ d K) := by
  refine D.okX sc_read_journal (fun vs H Q E h => ?_) (fun f cdv A outer s H vs Q E hr h => ?_)
  · obtain ⟨t, n, ks, v, rfl, _⟩ := h
    rfl
  obtain ⟨t, n, ks, v, rfl, hTab, h⟩ := h
  refine ⟨_, (pss_cons (ps_set (i := 2) sc_read_journal.nd rfl (Or.inl rfl) (C8.pe_c c_numbers_of hr (by decide) (by rfl) (pa_cons (pe_cX c_words_of hr (by decide) (by rfl) (takes_of rfl rfl rfl rfl) (pa_cons (pv 1) pa_nil)) pa_nil)))
  (pss_cons (ps_if (pt_cmpR op_isN (pv 2) pe_non (nomark _)) (pss_one (ps_raise (by rfl) (takes_of rfl rfl rfl rfl) (pmk_x x_BadText hr (by decide) (by rfl) (pa_cons pe_int pa_nil)))) pss_nil)
  (pss_cons (ps_if (pt_not (pt_val (C8.pe_c c_is_journal hr (by decide) (by rfl) (pa_cons (pv 0) (pa_cons (pv 2) pa_nil))))) (pss_one (ps_raise (by rfl) (takes_of rfl rfl rfl rfl) (pmk_n C.x_NoJournal (by rfl)))) pss_nil)
  (pss_one (ps_ret (pv 2)))))), ?_⟩
  refine ⟨_, rfl, v, rfl, ?_⟩
  rcases h with ⟨x, rfl, hl, k1, k2⟩ | ⟨h1, k⟩
  rotate_left
  · exact .inr ⟨h1, k⟩
  obtain ⟨wl, wp⟩ := words_len hl
  refine .inl ⟨x, rfl, hl, fun o e => (by cases e), fun r er H1 y e1 hy => ?_⟩
  cases er
  obtain ⟨a, rfl, ha⟩ := hy
  unfold readJ at k1 k2
  refine ⟨a, wordsOf x, rfl, ha, by omega, fun y hy => by have := wp y hy; omega, fun hn H2 e2 => ?_, fun js hn H2 u e2 hu => ?_⟩
  · rw [hn] at k1
    exact ⟨_, rfl, rfl, _, rfl, iteT (use_BadText fun z hz => k1 _ rfl _ z ((e1.trans e2).trans (Ex.new hz)) upd_same)⟩
  · rw [hn] at k1 k2
    have hu2 : SqT K H2 u (js.map V.int) := SqT.of hu
    have bl : js.length ≤ 100000 := by
      have := numsOf_len hn
      omega
    refine ⟨_, rfl, rfl, _, rfl, iteF ?_⟩
    refine ⟨_, rfl, _, rfl, t, u, n, ks, js, rfl, hTab.mono (e1.trans e2), hu2, bl, fun H3 e3 => ⟨_, rfl, ?_⟩⟩
    cases hj : isJournal ks.length js with
    | false => 
      have k1' : ∀ o, (if isJournal ks.length js = true then Except.ok js else Except.error Out.journal : Except Out (List Int)) = .error o → raised d o E H := k1
      rw [hj, if_neg Bool.false_ne_true] at k1'
      exact iteT (k1' _ rfl _ ((e1.trans e2).trans e3))
    | true =>
      have k2' : ∀ r, (if isJournal ks.length js = true then Except.ok js else Except.error Out.journal : Except Out (List Int)) = .ok r → ∀ H' y, Ex H H' → IntsA K H' y r → Q y H' := k2
      rw [hj, if_pos rfl] at k2'
      exact iteF ⟨_, rfl, k2' _ rfl _ _ ((e1.trans e2).trans e3) ⟨u, rfl, ex_t e3 hu2⟩⟩
/-! ### steps -/
theorem in_two (a b c : Str) : inV (.str a) [.str b, .str c] = decide (a = b ∨ a = c) := by
  unfold inV
  simp only [List.any_cons, List.any_nil, Bool.or_false]
  have e : ∀ x y : Str, eqV (.str x) (.str y) = decide (y = x) := fun x y => by
    show (x == y) = _
    rw [Bool.eq_iff_iff, beq_iff_eq, decide_eq_true_iff]
    exact eq_comm
  rw [e, e]
  by_cases h1 : a = b <;> by_cases h2 : a = c <;> simp [h1, h2]
def spStepOf (K : PySem.W.Frag) : Sp := fun vs H Q _ => ∃ x : Str, vs = [.str x] ∧ x.length ≤ 90000 ∧ (stepOf x = none → ∀ H', Ex H H' → Q .non H') ∧ (∀ s, stepOf x = some s → ∀ H' v, Ex H H' → StepAt K H' v s → Q v H')
abbrev s_step_of : Stmt := top 47
abbrev N_step_of : List Str := ["word", "parts", "number"]
abbrev p_step_of : List Str := ["word"]
theorem sc_step_of : FnScope N_step_of p_step_of (defScope s_step_of) := ⟨rfl, rfl, rfl, by decide +kernel, rfl, by decide +kernel, by decide +kernel⟩
theorem ok_step_of (D : Dn K mg "step_of" s_step_of p_step_of) (T : Txt K mg) (c_number_of : C8.Cal P w K mg base 1 "number_of" spNum []) : C8.Cal P w K mg base 2 "step_of" (spStepOf K) [] := by
  refine D.ok sc_step_of (fun vs H Q E h => ?_) (fun f cdv A outer s H vs Q E hr h => ?_)
  · obtain ⟨x, rfl, _⟩ := h
    rfl
  obtain ⟨x, rfl, hl, k1, k2⟩ := h
  have hz : x.length + 2 ≤ sizeLine := Nat.le_trans (by omega : x.length + 2 ≤ 100000) (by decide)
  have hp1 := split_pos x mark_blank
  have hpc : ∀ p ∈ Txt.split x " ", p.length ≤ 90000 := fun p hp => Nat.le_trans (split_piece mark_blank hp) hl
  unfold stepOf at k1 k2
  refine ⟨_, (pss_cons (ps_set (i := 1) sc_step_of.nd rfl (Or.inl rfl) (pe_split (pv 0) pe_str))
  (pss_cons (ps_set (i := 2) sc_step_of.nd rfl (Or.inl rfl) (pe_ifExp (pt_cmpR op_eq (pe_callB call_len_seq (by rfl) T.len (by decide +kernel) (pa_cons (pv 1) pa_nil)) pe_int (nomark _)) (C8.pe_c c_number_of hr (by decide) (by rfl) (pa_cons (pe_ix ix_list (pv 1) pe_int (fun _ _ => rfl)) pa_nil)) pe_non))
  (pss_one (ps_ret (pe_ifExp (PW.pt (pw_and (pt_cmpR op_notN (pv 2) pe_non (nomark _)) (pw_and1 (pt_cmpR op_in_seq (pe_ix ix_list (pv 1) pe_int (fun _ _ => rfl)) (pe_tup (pa_cons pe_str (pa_cons pe_str pa_nil))) (by rfl))))) (pe_tup (pa_cons (pe_ix ix_list (pv 1) pe_int (fun _ _ => rfl)) (pa_cons (pv 2) pa_nil))) pe_non))))), ?_⟩
  refine ⟨_, rfl, ⟨x, rfl⟩, x, _, rfl, rfl, mark_blank.ne0, hz, fun p hp => ?_⟩
  have e1 : Ex H (upd H p (.lst ((Txt.split x " ").map V.str))) := Ex.new hp
  have hL : SqL K (upd H p (.lst ((Txt.split x " ").map V.str))) p ((Txt.split x " ").map V.str) := SqL.of upd_same
  generalize upd H p (.lst ((Txt.split x " ").map V.str)) = H1 at e1 hL
  generalize Txt.split x " " = ws at hL k1 k2 hp1 hpc
  refine ⟨_, rfl, p, _, rfl, .inl hL, rfl, _, rfl, ?_⟩
  rw [List.length_map]
  show if decide (V.int ((ws.length : Nat) : Int) = V.int ((2 : Nat) : Int)) = true then _ else _
  rw [len_eq]
  have two : ∀ a b, ws = [a, b] → True := fun _ _ _ => trivial
  match ws, k1, k2, hp1, hpc, hL with
  | [], _, _, h, _, _ => simp at h
  | [a], k1, _, _, _, _ =>
    exact iteF ⟨_, rfl, rfl, _, rfl, iteF (iteF (k1 rfl _ e1))⟩
  | a :: b :: c :: r, k1, _, _, _, _ =>
    rw [decide_eq_false (by simp)]
    exact iteF ⟨_, rfl, rfl, _, rfl, iteF (iteF (k1 rfl _ e1))⟩
  | [a, b], k1, k2, _, hpc, hL =>
    refine iteT ⟨_, rfl, p, _, 1, _, rfl, rfl, hL, rfl, b, rfl, ?_, fun H2 e2 => ?_⟩
    · have := hpc b (by simp)
      omega
    have hL2 := ex_l e2 hL
    have k1' : (match numOf b with | some n => if a = "do" ∨ a = "lay" then some (a, n) else none | none => none : Option Stp) = none → ∀ H', Ex H H' → Q .non H' := k1
    have k2' : ∀ s, (match numOf b with | some n => if a = "do" ∨ a = "lay" then some (a, n) else none | none => none : Option Stp) = some s → ∀ H' v, Ex H H' → StepAt K H' v s → Q v H' := k2
    cases hn : numOf b with
    | none =>
      rw [hn] at k1'
      exact ⟨_, rfl, rfl, _, rfl, iteF (iteF (k1' rfl _ (e1.trans e2)))⟩
    | some m =>
      rw [hn] at k1' k2'
      have k1' : (if a = "do" ∨ a = "lay" then some (a, m) else none : Option Stp) = none → ∀ H', Ex H H' → Q .non H' := k1'
      have k2' : ∀ s, (if a = "do" ∨ a = "lay" then some (a, m) else none : Option Stp) = some s → ∀ H' v, Ex H H' → StepAt K H' v s → Q v H' := k2'
      refine ⟨_, rfl, rfl, _, rfl, iteT ?_⟩
      refine ⟨_, rfl, p, _, 0, _, rfl, rfl, hL2, rfl, len2, fun q hq => ⟨q, _, rfl, .inr (SqT.of upd_same), rfl, rfl, _, rfl, ?_⟩⟩
      rw [in_two, if_neg Bool.false_ne_true]
      have e3 : Ex H2 (upd H2 q (.tup [V.str "do", V.str "lay"])) := Ex.new hq
      generalize upd H2 q (.tup [V.str "do", V.str "lay"]) = H3 at e3 ⊢
      by_cases hw : a = "do" ∨ a = "lay"
      · rw [if_pos hw] at k2'
        rw [decide_eq_true hw]
        refine iteT ⟨_, rfl, p, _, 0, _, rfl, rfl, ex_l e3 hL2, rfl, _, rfl, len2, fun u hu => k2' _ rfl _ _ (((e1.trans e2).trans e3).trans (Ex.new hu)) ⟨u, rfl, SqT.of upd_same⟩⟩
      · rw [if_neg hw] at k1'
        rw [decide_eq_false hw]
        exact iteF (k1' rfl _ ((e1.trans e2).trans e3))
/-! ### None in a tuple of steps and None -/
def optD : Option Stp → PyData
  | none => .none
  | some s => .tuple [.str s.1, .int s.2]
def OptAt (K : PySem.W.Frag) (H : Hp) (v : V) : Option Stp → Prop
  | none => v = .non
  | some s => StepAt K H v s
theorem opt_dp {H : Hp} : ∀ {xs : List V} {os : List (Option Stp)}, Paired (OptAt K H) xs os → DpAll K H xs (os.map optD)
  | _, _, .nil => .nil
  | _, _, .cons (b := o) h t => by
    refine .cons ?_ (opt_dp t)
    cases o with
    | none => cases h; exact .non
    | some s =>
      obtain ⟨a, rfl, h⟩ := h
      exact .tup h (.cons (.str _) (.cons (.int _) .nil))
theorem opt_lay : ∀ os : List (Option Stp), (∀ s, some s ∈ os → PyData.strOk s.1 = true) → PyData.canLayAll0 (os.map optD) = true
  | [], _ => rfl
  | o :: os, h => by
    show (PyData.canLay0 (optD o) && PyData.canLayAll0 (os.map optD)) = true
    rw [opt_lay os fun s hs => h s (List.mem_cons_of_mem _ hs)]
    cases o with
    | none => rfl
    | some s =>
      have := h s List.mem_cons_self
      simp [optD, PyData.canLay0, PyData.canLayAll0, this]
theorem step_word {x : Str} {s : Stp} (h : stepOf x = some s) : s.1 = "do" ∨ s.1 = "lay" := by
  unfold stepOf at h
  generalize Txt.split x " " = ws at h
  match ws, h with
  | [], h => cases h
  | [a], h => cases h
  | a :: b :: c :: r, h => cases h
  | [a, b], h =>
    have h : (match numOf b with | some n => if a = "do" ∨ a = "lay" then some (a, n) else none | none => none : Option Stp) = some s := h
    cases hn : numOf b with
    | none => rw [hn] at h; cases h
    | some m =>
      rw [hn] at h
      have h : (if a = "do" ∨ a = "lay" then some (a, m) else none : Option Stp) = some s := h
      by_cases c : a = "do" ∨ a = "lay"
      · rw [if_pos c] at h
        cases h
        exact c
      · rw [if_neg c] at h; cases h
theorem step_ok {x : Str} {s : Stp} (h : stepOf x = some s) : PyData.strOk s.1 = true := by
  rcases step_word h with e | e
  · rw [e]; decide +kernel
  · rw [e]; decide +kernel
theorem opt_any : ∀ os : List (Option Stp), ((os.map optD).any fun y => PyData.eqv y .none) = os.any fun o => o.isNone
  | [] => rfl
  | o :: os => by
    rw [List.map_cons, List.any_cons, List.any_cons, opt_any os]
    cases o <;> rfl
theorem op_noneIn {X : Cx} (hu : X.A.units + 64 < cLine) : OpR X (compareOp .In) (fun x y H Q => ∃ (a : Addr) (xs : List V) (os : List (Option Stp)), x = .non ∧ y = .ref a ∧ SqT X.K H a xs ∧ Paired (OptAt X.K H) xs os ∧ (∀ s, some s ∈ os → PyData.strOk s.1 = true) ∧ Q (.bl (os.any fun o => o.isNone)) H) := by
  intro pins s σ H x y v u Q I rx ry h
  obtain ⟨a, xs, os, rfl, rfl, hT, hp, hok, q⟩ := h
  obtain ⟨bs, r2⟩ := Dp.reads I (.tuple (os.map optD)) (.ref a) u (.tup hT (opt_dp hp)) ry
  cases (show v = Value.none from rx)
  refine SeqAt.in_tuple_reads r2 .none (opt_lay os hok) rfl (by show X.A.units + 1 + min _ 0 < cLine; rw [Nat.min_zero]; omega) ⟨.bl _, H, I, ?_, q⟩
  rw [opt_any]
  rfl
theorem steps_none : ∀ xs : List Str, ((xs.map stepOf).any fun o => o.isNone) = (stepsOf xs).isNone
  | [] => rfl
  | x :: xs => by
    rw [List.map_cons, List.any_cons, steps_none xs, stepsOf]
    cases stepOf x <;> cases stepsOf xs <;> rfl
theorem steps_some : ∀ {xs : List Str} {ss : List Stp}, stepsOf xs = some ss → xs.map stepOf = ss.map some
  | [], ss, h => by cases h; rfl
  | x :: xs, ss, h => by
    rw [stepsOf] at h
    cases h1 : stepOf x with
    | none => rw [h1] at h; cases h
    | some s =>
      cases h2 : stepsOf xs with
      | none => rw [h1, h2] at h; cases h
      | some r =>
        rw [h1, h2] at h
        cases h
        rw [List.map_cons, List.map_cons, h1, steps_some h2]
theorem opt_steps {H : Hp} : ∀ {xs : List V} {ss : List Stp}, Paired (OptAt K H) xs (ss.map some) → Paired (StepAt K H) xs ss
  | _, [], .nil => .nil
  | _, s :: ss, .cons h t => .cons h (opt_steps t)
def StepsA (K : PySem.W.Frag) (H : Hp) (y : V) (ss : List Stp) : Prop := ∃ (a : Addr) (xs : List V), y = .ref a ∧ SqT K H a xs ∧ Paired (StepAt K H) xs ss
def spReadR (d : Ad) (K : PySem.W.Frag) : Sp := fun vs H Q E => ∃ (t : Addr) (n : Int) (ks : List Kd) (v : V), vs = [.ref t, v] ∧ TabAt d K H t n ks ∧ tableOut n ks = none ∧ spRd d K (readR n ks) (StepsA K) Q E H v
abbrev s_read_run : Stmt := top 48
abbrev N_read_run : List Str := ["table", "text", "found", "word"]
abbrev p_read_run : List Str := ["table", "text"]
theorem sc_read_run : FnScope N_read_run p_read_run (defScope s_read_run) := ⟨rfl, rfl, rfl, by decide +kernel, rfl, by decide +kernel, by decide +kernel⟩
theorem ok_read_run (C : Cl K mg d) (D : Dn K mg "read_run" s_read_run p_read_run) (T : Txt K mg) (c_words_of : CalX P w K mg base 4 "words_of" (spWords d K)) (c_step_of : C8.Cal P w K mg base 2 "step_of" (spStepOf K) [])
    (c_is_run : C8.Cal P w K mg base 7 "is_run" (spIsRun d K) []) (x_BadText : XMak P w K mg base 1 "BadText" d.bt (spBadText d.bt)) : CalX P w K mg base 8 "read_run" (spReadR d K) := by
  refine D.okX sc_read_run (fun vs H Q E h => ?_) (fun f cdv A outer s H vs Q E hr h => ?_)
  · obtain ⟨t, n, ks, v, rfl, _⟩ := h
    rfl
  obtain ⟨t, n, ks, v, rfl, hTab, hok, h⟩ := h
  refine ⟨_, (pss_cons (ps_set (i := 2) sc_read_run.nd rfl (Or.inl rfl) (pe_callTy call_tuple_of (by rfl) T.tuple (by decide +kernel) (pa_cons (pe_lc (own := [("word", 3)]) (g := gName 3) (tt := tYes) rfl sc_read_run.nd (pi_list (pe_cX c_words_of hr (by decide) (by rfl) (takes_of rfl rfl rfl rfl) (pa_cons (pv 1) pa_nil))) (blkOk_by (N := N_read_run) (sc := defScope s_read_run) (by decide +kernel)) (fun _ _ _ _ _ => (pg_name (i := 3) sc_read_run.nd rfl (Or.inl rfl))) (fun _ _ _ _ _ => pts_nil) (fun _ _ _ _ _ => (C8.pe_c c_step_of hr (by decide) (by rfl) (pa_cons (pv 3) pa_nil)))) pa_nil)))
  (pss_cons (ps_if (pt_cmpR (op_noneIn hr.units) pe_non (pv 2) (by rfl)) (pss_one (ps_raise (by rfl) (takes_of rfl rfl rfl rfl) (pmk_x x_BadText hr (by decide) (by rfl) (pa_cons pe_int pa_nil)))) pss_nil)
  (pss_cons (ps_if (pt_not (pt_val (C8.pe_c c_is_run hr (by decide) (by rfl) (pa_cons (pv 0) (pa_cons (pv 2) pa_nil))))) (pss_one (ps_raise (by rfl) (takes_of rfl rfl rfl rfl) (pmk_n C.x_NoRun (by rfl)))) pss_nil)
  (pss_one (ps_ret (pv 2)))))), ?_⟩
  refine ⟨_, rfl, v, rfl, ?_⟩
  rcases h with ⟨x, rfl, hl, k1, k2⟩ | ⟨h1, k⟩
  rotate_left
  · exact .inr ⟨h1, k⟩
  obtain ⟨wl, wp⟩ := words_len hl
  refine .inl ⟨x, rfl, hl, fun o e => (by cases e), fun r er H1 y e1 hy => ?_⟩
  cases er
  obtain ⟨a, rfl, ha⟩ := hy
  unfold readR at k1 k2
  refine ⟨a, rfl, ⟨_, ha⟩, fun L hL => lc_pure hL (walk_list (xs := (wordsOf x).map V.str)) yat_ex (fun _ => rfl) (fun H' e => ex_l e ha) (by rw [List.length_map]; omega)
    (fun i' y H' => ∃ z, (wordsOf x)[i']? = some z ∧ OptAt K H' y (stepOf z)) ?_ ?_ ?_⟩
  · rintro i y H2 H3 e ⟨z, hz, ho⟩
    refine ⟨z, hz, ?_⟩
    cases hs : stepOf z with
    | none => rw [hs] at ho; exact ho
    | some st =>
      rw [hs] at ho
      obtain ⟨b, e1, hb⟩ := ho
      exact ⟨b, e1, exl_t e hb⟩
  · rintro i' v H4 H5 _ e4 ⟨rfl, hv⟩ Q' q
    obtain ⟨z, hz, rfl⟩ := map_get hv
    have := wp z (List.mem_of_getElem? hz)
    refine ⟨_, rfl, z, rfl, by omega, fun hn H' e' => q _ _ e' ⟨z, hz, by rw [hn]; rfl⟩, fun st hs H' v e' hv => q _ _ e' ⟨z, hz, by rw [hs]; exact hv⟩⟩
  · intro H4 acc e4 hA hl' hR
    refine ⟨L, _, rfl, .inl ⟨SqL.of hA, fun u hu => ?_⟩⟩
    have e5 : Ex H4 (upd H4 u (.tup acc)) := Ex.new hu
    have r5 : SqT K (upd H4 u (.tup acc)) u acc := SqT.of upd_same
    have hp : Paired (OptAt K (upd H4 u (.tup acc))) acc ((wordsOf x).map stepOf) := acc_pair (by rw [hl', List.length_map, List.length_map]) fun i y h => by
      obtain ⟨z, hz, ho⟩ := hR i y h
      refine ⟨stepOf z, by rw [List.getElem?_map, hz]; rfl, ?_⟩
      cases hs : stepOf z with
      | none => rw [hs] at ho; exact ho
      | some st => rw [hs] at ho; exact StepAt.mono e5 ho
    generalize upd H4 u (.tup acc) = H5 at e5 r5 hp ⊢
    have E5 : Ex H H5 := (e1.trans e4).trans e5
    refine ⟨_, rfl, u, acc, _, rfl, rfl, r5, hp, fun st hst => ?_, _, rfl, ?_⟩
    · obtain ⟨z, _, ez⟩ := List.mem_map.mp hst
      exact step_ok ez
    rw [steps_none]
    cases hs : stepsOf (wordsOf x) with
    | none =>
      rw [hs] at k1
      exact iteT (use_BadText fun z hz => k1 _ rfl _ z (E5.trans (Ex.new hz)) upd_same)
    | some ss =>
      rw [hs] at k1 k2
      rw [steps_some hs] at hp
      have hp2 := opt_steps hp
      refine iteF ⟨_, rfl, _, rfl, t, u, n, ks, acc, ss, rfl, hTab.mono E5, hok, r5, hp2, fun H6 e6 => ⟨_, rfl, ?_⟩⟩
      have k1' : ∀ o, (if isRun n ks ss = true then Except.ok ss else Except.error Out.run : Except Out (List Stp)) = .error o → raised d o E H := k1
      have k2' : ∀ r, (if isRun n ks ss = true then Except.ok ss else Except.error Out.run : Except Out (List Stp)) = .ok r → ∀ H' y, Ex H H' → StepsA K H' y r → Q y H' := k2
      cases hj : isRun n ks ss with
      | false =>
        rw [hj, if_neg Bool.false_ne_true] at k1'
        exact iteT (k1' _ rfl _ (E5.trans e6))
      | true =>
        rw [hj, if_pos rfl] at k2'
        exact iteF ⟨_, rfl, k2' _ rfl _ _ (E5.trans e6) ⟨u, acc, rfl, ex_t e6 r5, Paired.mapP hp2 fun _ _ q => q.mono e6⟩⟩
end
end K28
/-! # Tables read, the program's -/
namespace K28
open PySem PySem.Spec PyProof.Rows L2
open Evl (Ex ex_l ex_t)
/-- the list that the reader builds -/
def FoundAt (K : PySem.W.Frag) (H : Hp) (vs : List V) (n : Option Int) (ks : List Kd) : Prop := match n with
  | none => vs = [] ∧ ks = []
  | some m => ∃ xs, vs = .int m :: xs ∧ Paired (KdAt K H) xs ks
theorem FoundAt.monoL {K : PySem.W.Frag} {H H' : Hp} {vs : List V} {n : Option Int} {ks : List Kd} (e : ExL H H') (h : FoundAt K H vs n ks) : FoundAt K H' vs n ks := by
  cases n with
  | none => exact h
  | some m =>
    obtain ⟨xs, h1, h2⟩ := h
    exact ⟨xs, h1, Paired.mapP h2 fun _ _ q => q.monoL e⟩
theorem FoundAt.len {K : PySem.W.Frag} {H : Hp} {vs : List V} {n : Option Int} {ks : List Kd} (h : FoundAt K H vs n ks) : (n = none ↔ vs.length = 0) ∧ vs.length ≤ ks.length + 1 := by
  cases n with
  | none =>
    obtain ⟨rfl, rfl⟩ := h
    exact ⟨⟨fun _ => rfl, fun _ => rfl⟩, Nat.zero_le _⟩
  | some m =>
    obtain ⟨xs, rfl, h2⟩ := h
    rw [List.length_cons, pair_len h2]
    exact ⟨⟨fun z => (by cases z), fun z => (by omega)⟩, Nat.le_refl _⟩
def TabA (d : Ad) (K : PySem.W.Frag) (H : Hp) (y : V) (r : Int × List Kd) : Prop := ∃ t : Addr, y = .ref t ∧ TabAt d K H t r.1 r.2
section
variable {P : Program} {w : World} {K : PySem.W.Frag} {mg : Str → Option Value} {base : Heap} {d : Ad}
def spReadT (d : Ad) (K : PySem.W.Frag) : Sp := fun vs H Q E => ∃ v, vs = [v] ∧ spRd d K readT (TabA d K) Q E H v
abbrev s_read_table : Stmt := top 44
abbrev N_read_table : List Str := ["text", "lines", "found", "number", "line"]
abbrev p_read_table : List Str := ["text"]
theorem sc_read_table : FnScope N_read_table p_read_table (defScope s_read_table) := ⟨rfl, rfl, rfl, by decide +kernel, rfl, by decide +kernel, by decide +kernel⟩
theorem ok_read_table (C : Cl K mg d) (D : Dn K mg "read_table" s_read_table p_read_table) (T : Txt K mg) (c_check_string : CalX P w K mg base 3 "check_string" (spCheck d K)) (c_cells_of : C8.Cal P w K mg base 2 "cells_of" spCellsOf []) (c_kind_of : C8.Cal P w K mg base 3 "kind_of" (spKindOf K) [])
    (i_Table : Mak P w K mg base 5 "Table" d.tb (spTable d K)) (x_BadText : XMak P w K mg base 1 "BadText" d.bt (spBadText d.bt)) : CalX P w K mg base 7 "read_table" (spReadT d K) := by
  refine D.okX sc_read_table (fun vs H Q E h => ?_) (fun f cdv A outer s H vs Q E hr h => ?_)
  · obtain ⟨v, rfl, _⟩ := h
    rfl
  obtain ⟨v, rfl, h⟩ := h
  refine ⟨_, (pss_cons (ps_expr (pe_cX c_check_string hr (by decide) (by rfl) (takes_of rfl rfl rfl rfl) (pa_cons (pv 0) pa_nil)))
  (pss_cons (ps_set (i := 1) sc_read_table.nd rfl (Or.inl rfl) (pe_split (pv 0) pe_str))
  (pss_cons (ps_set (i := 2) sc_read_table.nd rfl (Or.inl rfl) (pe_lst pa_nil))
  (pss_cons (ps_for (passes_of rfl) rfl (pi_enum (by rfl) T.enumerate (pa_cons (pe_slice sl_list (pv 1) po_none (po_some (pe_un un_neg pe_int))) pa_nil)) (pg_tup rfl (pgs_cons (pg_name (i := 3) sc_read_table.nd rfl (Or.inl rfl)) (pgs_cons (pg_name (i := 4) sc_read_table.nd rfl (Or.inl rfl)) pgs_nil)))
  (pss_cons (ps_expr (pe_bm PySem.F.plainAttrs_list PySem.F.slot_list_append PySem.F.type_list_append mt_append (pv 2) (pa_cons (pe_ifExp (pt_cmpR op_eq (pv 3) pe_int (nomark _)) (C8.pe_c c_cells_of hr (by decide) (by rfl) (pa_cons (pv 4) pa_nil)) (C8.pe_c c_kind_of hr (by decide) (by rfl) (pa_cons (pv 4) pa_nil))) pa_nil)))
  (pss_one (ps_if (pt_cmpR op_isN (pe_ix ix_list (pv 2) (pe_un un_neg pe_int) (fun _ _ => rfl)) pe_non (nomark _)) (pss_one (ps_raise (by rfl) (takes_of rfl rfl rfl rfl) (pmk_x x_BadText hr (by decide) (by rfl) (pa_cons (pe_op op_add (pv 3) pe_int) pa_nil)))) pss_nil))))
  (pss_cons (ps_if (PW.pt (pw_or (pt_cmpR op_ne (pe_ix ix_list (pv 1) (pe_un un_neg pe_int) (fun _ _ => rfl)) pe_str (nomark _)) (pw_or1 (pt_cmpR op_eq (pe_callB call_len_seq (by rfl) T.len (by decide +kernel) (pa_cons (pv 2) pa_nil)) pe_int (nomark _))))) (pss_one (ps_raise (by rfl) (takes_of rfl rfl rfl rfl) (pmk_x x_BadText hr (by decide) (by rfl) (pa_cons (pe_callB call_len_seq (by rfl) T.len (by decide +kernel) (pa_cons (pv 1) pa_nil)) pa_nil)))) pss_nil)
  (pss_one (ps_ret (pe_mk i_Table hr (by decide) (by rfl) (passes_call (E := E) (takes_of rfl rfl rfl rfl) (fun _ _ _ _ h => h)) (pa_cons (pe_ix ix_list (pv 2) pe_int (fun _ _ => rfl)) (pa_cons (pe_callTy call_tuple_of (by rfl) T.tuple (by decide +kernel) (pa_cons (pe_slice sl_list (pv 2) (po_some pe_int) po_none) pa_nil)) pa_nil)))))))))), ?_⟩
  refine ⟨_, rfl, v, rfl, ?_⟩
  rcases h with ⟨x, rfl, hl, k1, k2⟩ | ⟨h1, k⟩
  rotate_left
  · exact .inr ⟨h1, k⟩
  refine .inl ⟨x, rfl, hl, fun o e => (by cases e), fun r er H1 y e1 hy => ?_⟩
  cases hy
  unfold readT at k1 k2
  have hz : x.length + 2 ≤ sizeLine := Nat.le_trans (by omega : x.length + 2 ≤ 100000) (by decide)
  have hp1 := split_pos x mark_line
  have hsl := split_len x mark_line
  have hpc : ∀ p ∈ Txt.split x "\n", p.length ≤ 50000 := fun p hp => Nat.le_trans (split_piece mark_line hp) hl
  refine ⟨_, rfl, ⟨x, rfl⟩, x, _, rfl, rfl, mark_line.ne0, hz, fun p hp => ?_⟩
  have e2 : Ex H1 (upd H1 p (.lst ((Txt.split x "\n").map V.str))) := Ex.new hp
  have hL : (upd H1 p (.lst ((Txt.split x "\n").map V.str))) p = some (.lst ((Txt.split x "\n").map V.str)) := upd_same
  generalize upd H1 p (.lst ((Txt.split x "\n").map V.str)) = H2 at e2 hL
  generalize Txt.split x "\n" = ws at hL k1 k2 hp1 hpc hsl
  have E2 := e1.trans e2
  refine ⟨by decide, fun pf hf => ?_⟩
  have npf : p ≠ pf := ne_of_none hL hf
  have f3 : upd H2 pf (.lst []) pf = some (.lst []) := upd_same
  have e3 : Ex H2 (upd H2 pf (.lst [])) := Ex.new hf
  generalize upd H2 pf (.lst []) = H3 at e3 f3
  refine ⟨_, rfl, 1, rfl, _, rfl, p, _, rfl, SqL.of (e3 _ _ hL), fun q hq => ?_⟩
  rw [cut_last]
  have nqf : q ≠ pf := Ne.symm (ne_of_none f3 hq)
  have e4 : Ex H3 (upd H3 q (.lst (ws.map V.str).dropLast)) := Ex.new hq
  have q4 : upd H3 q (.lst (ws.map V.str).dropLast) q = some (.lst (ws.map V.str).dropLast) := upd_same
  generalize upd H3 q (.lst (ws.map V.str).dropLast) = H4 at e4 q4
  have em : (ws.map V.str).dropLast = ws.dropLast.map V.str := by rw [List.map_dropLast]
  rw [em] at q4
  have gpf : H1 pf = none := fr_back e2 hf
  refine ⟨q, _, rfl, SqL.of q4, for_it (walk_enum (xs := ws.dropLast.map V.str)) (fun i σ H' => Ex H2 H' ∧ H' q = some (.lst (ws.dropLast.map V.str)) ∧ (∃ (n : Option Int) (ks : List Kd) (vs : List V), H' pf = some (.lst vs) ∧ FoundAt K H' vs n ks ∧ (n = none ↔ i = 0) ∧ ks.length ≤ i ∧
      goLines 0 none [] ws.dropLast = goLines i n ks (ws.dropLast.drop i)) ∧ ∃ y1 y2 : Option V, σ = [some (.str x), some (.ref p), some (.ref pf), y1, y2])
    ⟨e3.trans e4, q4, ⟨none, [], [], e4 _ _ f3, ⟨rfl, rfl⟩, ⟨fun _ => rfl, fun _ => rfl⟩, Nat.le_refl _, by rw [List.drop_zero]⟩, none, none, rfl⟩ (fun i σ H' _ h => SqL.of h.2.1) ?_ ?_⟩
  · rintro i v σ H5 H6 hi ⟨e5, q5, ⟨n, ks, vs, hvs, hfa, hn0, hkl, eg⟩, y1, y2, rfl⟩ ⟨T', u1, u2, rfl, hT1, rfl, hu1, hu2⟩
    cases hu1
    obtain ⟨l, hll, rfl⟩ := map_get hu2
    have hlw : l.length ≤ 50000 := hpc l (List.dropLast_subset _ (List.mem_of_getElem? hll))
    have e6 : Ex H5 (upd H5 T' (.tup [V.int (i : Nat), V.str l])) := Ex.new hT1
    have hPr : SqT K (upd H5 T' (.tup [V.int (i : Nat), V.str l])) T' [V.int (i : Nat), V.str l] := SqT.of upd_same
    generalize upd H5 T' (.tup [V.int (i : Nat), V.str l]) = H6 at e6 hPr
    refine ⟨T', _, rfl, hPr, rfl, _, _, rfl, _, _, rfl, rfl, ?_⟩
    have hv6 := e6 _ _ hvs
    have hfl := hfa.len
    have hbig : vs.length < sizeLine := Nat.lt_of_le_of_lt (by
      rw [List.length_map, List.length_dropLast] at hi
      have := hfl.2
      omega : vs.length ≤ 100000) (by decide)
    rw [drop_get hll, goLines] at eg
    refine ⟨_, rfl, .inl ⟨rfl, vs, SqL.of hv6⟩, _, rfl, rfl, _, rfl, ?_⟩
    -- what is said of None
    have bad : ∀ H', Ex H H' → (goLines 0 none [] ws.dropLast = .error i) → tMkO d.bt (spBadText d.bt) [] (tCons (tOp (rI0 fun i j => V.int (i + j)) (tVar 3) (tC (V.int 1))) tNil) [some (.str x), some (.ref p), some (.ref pf), some (.int (i : Nat)), some (.str l)] H' fun cls d H' => E cls d H' := fun H' e' he => by
      rw [he] at k1
      exact ⟨_, rfl, _, _, rfl, rfl, use_BadText fun z hz => k1 _ rfl _ z (e'.trans (Ex.new hz)) upd_same⟩
    have ok5 : ∀ {u : V} {H7 : Hp}, Ex H6 H7 → ExL H5 (upd H7 pf (.lst (vs ++ [u]))) := fun {u H7} e7 => ((ExL.of e6).trans (.of e7)).trans (exl_upd (e7 _ _ hv6))
    have g2 : H2 pf = none := hf
    have stay : ∀ {u : V} {H7 : Hp}, Ex H6 H7 → Ex H2 (upd H7 pf (.lst (vs ++ [u]))) ∧ upd H7 pf (.lst (vs ++ [u])) q = some (.lst (ws.dropLast.map V.str)) := fun {u H7} e7 => ⟨ex_upd ((e5.trans e6).trans e7) g2, by rw [upd_ne nqf]; exact e7 _ _ (e6 _ _ q5)⟩
    have EH : ∀ {u : V} {H7 : Hp}, Ex H6 H7 → Ex H (upd H7 pf (.lst (vs ++ [u]))) := fun {u H7} e7 => E2.trans (stay e7).1
    by_cases hi0 : i = 0
    · have hnn := hn0.mpr hi0
      subst hnn hi0
      obtain ⟨rfl, rfl⟩ := hfa
      rw [if_pos rfl] at eg
      refine iteT ⟨_, rfl, l, rfl, by omega, fun H7 e7 => ?_⟩
      refine ⟨pf, [], _, rfl, rfl, e7 _ _ hv6, by decide, ?_⟩
      refine ⟨_, rfl, 1, rfl, pf, _, _, optV (cellsOf l), rfl, rfl, SqL.of upd_same, at_last (last_app _ _), rfl, _, rfl, ?_⟩
      cases hc : cellsOf l with
      | none =>
        rw [hc] at eg
        exact iteT (bad _ (EH e7) eg)
      | some m =>
        rw [hc] at eg
        refine iteF ?_
        exact ⟨(stay e7).1, (stay e7).2, ⟨some m, [], _, upd_same, ⟨[], rfl, .nil⟩, ⟨fun z => (by cases z), fun z => (by cases z)⟩, Nat.zero_le _, eg⟩, _, _, rfl⟩
    · rw [if_neg hi0] at eg
      obtain ⟨m, rfl⟩ : ∃ m, n = some m := by
        cases n with
        | none => exact absurd (hn0.mp rfl) hi0
        | some m => exact ⟨m, rfl⟩
      obtain ⟨xs, rfl, hxk⟩ := hfa
      rw [decide_eq_false (fun z => hi0 (by injection z with z; omega))]
      refine iteF ⟨_, rfl, l, rfl, by omega, fun hk H7 e7 => ?_, fun kd hk H7 u e7 hat => ?_⟩
      · refine ⟨pf, _, _, rfl, rfl, e7 _ _ hv6, hbig, ?_⟩
        refine ⟨_, rfl, 1, rfl, pf, _, _, .non, rfl, rfl, SqL.of upd_same, at_last (last_app _ _), rfl, _, rfl, ?_⟩
        rw [hk] at eg
        exact iteT (bad _ (EH e7) eg)
      · refine ⟨pf, _, _, rfl, rfl, e7 _ _ hv6, hbig, ?_⟩
        have hat' := hat
        obtain ⟨b, r2, rfl, hb1, hb2⟩ := hat'
        refine ⟨_, rfl, 1, rfl, pf, _, _, .ref b, rfl, rfl, SqL.of upd_same, at_last (last_app _ _), rfl, _, rfl, ?_⟩
        rw [hk] at eg
        refine iteF ?_
        refine ⟨(stay e7).1, (stay e7).2, ⟨some m, ks ++ [kd], _, upd_same, ⟨xs ++ [.ref b], rfl, pair_app (Paired.mapP hxk fun _ _ q => q.monoL (ok5 e7)) (.cons (hat.monoL (exl_upd (e7 _ _ hv6))) .nil)⟩, ⟨fun z => (by cases z), fun z => (by cases z)⟩, ?_, eg⟩, _, _, rfl⟩
        rw [List.length_append, List.length_singleton]
        omega
  · rintro σ H5 ⟨e5, q5, ⟨n, ks, vs, hvs, hfa, hn0, hkl, eg⟩, y1, y2, rfl⟩
    rw [List.length_map] at hn0 hkl eg
    rw [List.drop_length, goLines] at eg
    rw [eg] at k1 k2
    have E5 : Ex H H5 := E2.trans e5
    obtain ⟨z, hlast⟩ : ∃ z, ws.getLast? = some z := by
      cases e : ws.getLast? with
      | none =>
        have := List.getLast?_eq_none_iff.mp e
        rw [this] at hp1
        simp at hp1
      | some z => exact ⟨z, rfl⟩
    have hlast2 : (ws.map V.str).getLast? = some (.str z) := by rw [List.getLast?_map, hlast]; rfl
    have hL5 := e5 _ _ hL
    have len_bad : (∀ o, (.error (.line (ws.length : Nat)) : Except Out (Int × List Kd)) = .error o → raised d o E H) → tMkO d.bt (spBadText d.bt) [] (tCons (tCB (fun xs H_2 Q => ∃ p ys, xs = [V.ref p] ∧ (SqL K H_2 p ys ∨ SqT K H_2 p ys) ∧ Q (V.int ys.length) H_2) (tCons (tVar 1) tNil)) tNil)
        [some (.str x), some (.ref p), some (.ref pf), y1, y2] H5 fun cls d H' => E cls d H' := fun kk => by
      refine ⟨_, rfl, p, _, rfl, .inl (SqL.of hL5), use_BadText fun w hw => ?_⟩
      rw [List.length_map]
      exact kk _ rfl _ w (E5.trans (Ex.new hw)) upd_same
    refine ⟨_, rfl, 1, rfl, p, _, _, .str z, rfl, rfl, SqL.of hL5, at_last hlast2, rfl, _, rfl, ?_⟩
    rw [str_eq]
    by_cases hz0 : z = ""
    rotate_left
    · rw [decide_eq_false hz0]
      refine iteT (iteT (len_bad fun o ho => ?_))
      have k1' : ∀ o, (if ws.getLast? ≠ some ("" : Str) then .error (.line ws.length) else match n with | none => .error (.line ws.length) | some m => match tableOut m ks with | some o => .error o | none => .ok (m, ks) : Except Out (Int × List Kd)) = .error o → raised d o E H := k1
      rw [if_pos (by rw [hlast]; exact fun q => hz0 (Option.some.inj q))] at k1'
      exact k1' o ho
    have k1' : ∀ o, (if ws.getLast? ≠ some ("" : Str) then .error (.line ws.length) else match n with | none => .error (.line ws.length) | some m => match tableOut m ks with | some o => .error o | none => .ok (m, ks) : Except Out (Int × List Kd)) = .error o → raised d o E H := k1
    have k2' : ∀ r, (if ws.getLast? ≠ some ("" : Str) then .error (.line ws.length) else match n with | none => .error (.line ws.length) | some m => match tableOut m ks with | some o => .error o | none => .ok (m, ks) : Except Out (Int × List Kd)) = .ok r → ∀ H' y, Ex H H' → TabA d K H' y r → Q y H' := k2
    rw [if_neg (by rw [hlast, hz0]; exact fun q => q rfl)] at k1' k2'
    rw [decide_eq_true hz0]
    refine iteF ⟨_, rfl, pf, _, rfl, .inl (SqL.of hvs), rfl, _, rfl, ?_⟩
    cases n with
    | none =>
      obtain ⟨rfl, rfl⟩ := hfa
      refine iteT ?_
      exact len_bad k1'
    | some m =>
      obtain ⟨xs, rfl, hxk⟩ := hfa
      rw [decide_eq_false (fun q => by injection q with q; rw [List.length_cons] at q; omega)]
      refine iteF ?_
      refine ⟨_, rfl, pf, _, 0, .int m, rfl, rfl, SqL.of hvs, atI_nat (j := 0) rfl, _, rfl, _, rfl, pf, _, rfl, SqL.of hvs, fun q2 hq2 => ?_⟩
      have ec : cutV (V.int m :: xs) (some 1) none = xs := by
        rw [show (some (1 : Int)) = some ((1 : Nat) : Int) from rfl, cut_from]
        rfl
      rw [ec]
      have e6 : Ex H5 (upd H5 q2 (.lst xs)) := Ex.new hq2
      have r6 : SqL K (upd H5 q2 (.lst xs)) q2 xs := SqL.of upd_same
      generalize upd H5 q2 (.lst xs) = H6 at e6 r6
      refine ⟨q2, _, rfl, .inl ⟨r6, fun l hl => ?_⟩⟩
      have e7 : Ex H6 (upd H6 l (.tup xs)) := Ex.new hl
      have r7 : SqT K (upd H6 l (.tup xs)) l xs := SqT.of upd_same
      generalize upd H6 l (.tup xs) = H7 at e7 r7
      have E7 : Ex H H7 := (E5.trans e6).trans e7
      have hx7 : Paired (KdAt K H7) xs ks := Paired.mapP hxk fun _ _ q => q.mono (e6.trans e7)
      have k1'' : ∀ o, (match tableOut m ks with | some o => .error o | none => .ok (m, ks) : Except Out (Int × List Kd)) = .error o → raised d o E H := k1'
      have k2'' : ∀ r, (match tableOut m ks with | some o => .error o | none => .ok (m, ks) : Except Out (Int × List Kd)) = .ok r → ∀ H' y, Ex H H' → TabA d K H' y r → Q y H' := k2'
      refine fun t dx h1 h2 hne => ?_
      have e8 : Ex H7 (upd (upd H7 dx (.own t)) t (.ins d.tb dx [])) := ex_upd (Ex.new h2) h1
      refine ⟨t, dx, m, l, ks, rfl, upd_same, ⟨xs, ex_t e8 r7, Paired.mapP hx7 fun _ _ q => q.mono e8⟩, ?_, fun hok H' eb ht => ⟨rfl, ?_⟩, fun o ho => ?_⟩
      · rw [List.length_dropLast] at hkl
        omega
      · rw [hok] at k2''
        have e9 : Ex H7 H' := eb.ex e8 h1
        exact k2'' _ rfl H' _ (E7.trans e9) ⟨t, rfl, dx, l, ht, xs, ex_t e9 r7, Paired.mapP hx7 fun _ _ q => q.mono e9⟩
      · rw [ho] at k1''
        exact raised.mono (E7.trans e8) (k1'' o rfl)
end
end K28
/-! # The law's pool of digits -/
namespace K28
open PySem PySem.Spec PyProof.Rows L2
open Evl (Ex ex_l ex_t)
theorem ExB.updn {p q : Addr} {H H2 : Hp} {o : HO} (e : ExB p H H2) (n : H q = none) : ExB p H (L2.upd H2 q o) := fun b u nb h => by rw [upd_ne (ne_of_none h n)]; exact e b u nb h
/-- the pool: two lists of ints, two ints; N: lists that aren't its own -/
def PoolAt (H : Hp) (p : Addr) (N : Addr → Prop) : Prop := ∃ (g s : Addr) (x y : Int) (gs ss : List Int), H p = some (.lst [.ref g, .ref s, .int x, .int y]) ∧ H g = some (.lst (gs.map V.int)) ∧ H s = some (.lst (ss.map V.int)) ∧ g ≠ p ∧ s ≠ p ∧
  ∀ a, N a → a ≠ g ∧ a ≠ s ∧ a ≠ p ∧ ∃ o, H a = some o
section
variable {H H2 : Hp} {p q : Addr} {N : Addr → Prop} {o : HO}
theorem PoolAt.keep (e : Ex H H2) (h : PoolAt H p N) : PoolAt H2 p N := by
  obtain ⟨g, s, x, y, gs, ss, h1, h2, h3, n1, n2, hN⟩ := h
  exact ⟨g, s, x, y, gs, ss, e _ _ h1, e _ _ h2, e _ _ h3, n1, n2, fun a ha => let ⟨a1, a2, a3, o, a4⟩ := hN a ha; ⟨a1, a2, a3, o, e _ _ a4⟩⟩
theorem PoolAt.sub {M : Addr → Prop} (h : PoolAt H p N) (s : ∀ a, M a → N a) : PoolAt H p M := by
  obtain ⟨g, s', x, y, gs, ss, h1, h2, h3, n1, n2, hN⟩ := h
  exact ⟨g, s', x, y, gs, ss, h1, h2, h3, n1, n2, fun a ha => hN a (s a ha)⟩
theorem PoolAt.at (h : PoolAt H p N) : ∃ xs, H p = some (.lst xs) := by
  obtain ⟨g, s, x, y, gs, ss, h1, _⟩ := h
  exact ⟨_, h1⟩
theorem PoolAt.ne (h : PoolAt H p N) (hq : H q = none) : q ≠ p := by
  obtain ⟨xs, h1⟩ := h.at
  exact Ne.symm (ne_of_none h1 hq)
/-- a new object, from now on none of the pool's -/
theorem PoolAt.new (h : PoolAt H p N) (hq : H q = none) : PoolAt (upd H q o) p (fun a => N a ∨ a = q) := by
  obtain ⟨g, s, x, y, gs, ss, h1, h2, h3, n1, n2, hN⟩ := h
  have st : ∀ {b u}, H b = some u → upd H q o b = some u := fun e => by rw [upd_ne (ne_of_none e hq)]; exact e
  refine ⟨g, s, x, y, gs, ss, st h1, st h2, st h3, n1, n2, fun a ha => ?_⟩
  rcases ha with ha | rfl
  · obtain ⟨a1, a2, a3, u, a4⟩ := hN a ha
    exact ⟨a1, a2, a3, u, st a4⟩
  · exact ⟨Ne.symm (ne_of_none h2 hq), Ne.symm (ne_of_none h3 hq), Ne.symm (ne_of_none h1 hq), o, upd_same⟩
/-- one of the others is written -/
theorem PoolAt.put (h : PoolAt H p N) (hq : N q) : PoolAt (upd H q o) p N := by
  obtain ⟨g, s, x, y, gs, ss, h1, h2, h3, n1, n2, hN⟩ := h
  obtain ⟨b1, b2, b3, u, b4⟩ := hN q hq
  refine ⟨g, s, x, y, gs, ss, by rw [upd_ne (Ne.symm b3)]; exact h1, by rw [upd_ne (Ne.symm b1)]; exact h2, by rw [upd_ne (Ne.symm b2)]; exact h3, n1, n2, fun a ha => ?_⟩
  obtain ⟨a1, a2, a3, v, a4⟩ := hN a ha
  by_cases c : a = q
  · subst c; exact ⟨a1, a2, a3, o, upd_same⟩
  · exact ⟨a1, a2, a3, v, by rw [upd_ne c]; exact a4⟩
theorem exb_exl {xs : List V} (hp : H p = some (.lst xs)) (e : ExB p H H2) : ExL H H2 := fun b o h n => by
  by_cases hb : b = p
  · subst hb; rw [hp] at h; exact absurd (Option.some.inj h).symm (n xs)
  · exact e b o hb h
theorem PoolAt.exl (h : PoolAt H p N) (e : ExB p H H2) : ExL H H2 := by
  obtain ⟨xs, h1⟩ := h.at
  exact exb_exl h1 e
theorem PoolAt.stay (h : PoolAt H p N) (hq : N q) (e : ExB p H H2) {u : HO} (hu : H q = some u) : H2 q = some u := by
  obtain ⟨g, s, x, y, gs, ss, h1, h2, h3, n1, n2, hN⟩ := h
  exact e q u (hN q hq).2.2.1 hu
end
theorem sql_but {K : PySem.W.Frag} {H H2 : Hp} {p a : Addr} {xs : List V} (e : ExB p H H2) (n : a ≠ p) (h : SqL K H a xs) : SqL K H2 a xs := by
  rcases h with (h | ⟨o, h⟩) | h
  · exact .inl (.inl (e _ _ n h))
  · exact .inl (.inr ⟨o, e _ _ n h⟩)
  · exact .inr h
theorem fmod_bd {i m : Int} (h : 0 < m) : 0 ≤ i.fmod m ∧ i.fmod m < m := ⟨Int.fmod_nonneg_of_pos i h, Int.fmod_lt_of_pos i h⟩
/-! comprehensions: with a test; with draws -/
section
variable {J : It} {n j : Nat} {Gd : Hp → Prop} {Y : Nat → Hp → V → Hp → Prop} {te : TE} {tt : TT} {vs : List Nat} {σ : L2.St} {H1 : Hp} {D : Addr} {Qd : Hp → Prop}
/-- [e for x in .. if t]: what stands at the end fulfils R -/
theorem lc_some (hD : H1 D = none) (w : Walk J n Gd Y) (hY : ∀ i H x H', Y i H x H' → Ex H H') (hw : ∀ x, wipe ((wipe σ vs).set j (some x)) vs = wipe σ vs) (src : ∀ H, Ex H1 H → Gd H) (hn : n ≤ 100000) (R : V → Hp → Prop)
    (mono : ∀ y H H', ExL H H' → R y H → R y H') (turn : ∀ i x H H', i < n → Ex H1 H → Y i H x H' → ∀ Q : Bool → Hp → Prop, (∀ H2, Ex H' H2 → Q false H2) → (∀ H2, Ex H' H2 → (∀ Q' : VK, (∀ y H3, Ex H2 H3 → R y H3 → Q' y H3) → te ((wipe σ vs).set j (some x)) H2 Q') → Q true H2) → tt ((wipe σ vs).set j (some x)) H' Q)
    (done : ∀ H acc, Ex H1 H → H D = some (.lst acc) → acc.length ≤ n → (∀ y ∈ acc, R y H) → Qd H) :
    ∃ W : Nat → Nat → Hp → Prop, (∃ m, W 0 m (upd H1 D (.lst []))) ∧ ∀ i m H, W i m H →
      (J.stop i H ∧ Qd H) ∨ (J.go i H ∧ ∃ Nx : Hp → Prop, (∀ H', Nx H' → ∃ m', m' < m ∧ W (i + 1) m' H') ∧ ∀ x H', J.yld i H x H' → gName j x (wipe σ vs) H' fun σ2 H2 => wipe σ2 vs = wipe σ vs ∧ tt σ2 H2 fun b H3 =>
        if b = true then te σ2 H3 fun y H4 => ∃ acc, H4 D = some (.lst acc) ∧ acc.length < sizeLine ∧ Nx (upd H4 D (.lst (acc ++ [y]))) else Nx H3) := by
  refine lc_it w (fun i H => Ex H1 H ∧ ∃ acc : List V, H D = some (.lst acc) ∧ acc.length ≤ i ∧ ∀ y ∈ acc, R y H) ⟨ex_upd (Ex.refl H1) hD, [], upd_same, Nat.le_refl _, fun y h => (by cases h)⟩ (fun i H _ p => src H p.1) ?_ ?_
  · rintro i x H H' hi ⟨e, acc, hA, hl, hR⟩ y
    have e0 : Ex H H' := hY i H x H' y
    refine ⟨hw x, turn i x H H' hi e y _ (fun H2 e2 => ?_) (fun H2 e2 hte => ?_)⟩
    · rw [if_neg Bool.false_ne_true]
      exact ⟨(e.trans e0).trans e2, acc, (e0.trans e2) _ _ hA, Nat.le_succ_of_le hl, fun y hy => mono y _ _ (.of (e0.trans e2)) (hR y hy)⟩
    · rw [if_pos rfl]
      refine hte _ fun v H4 e4 r => ?_
      have e3 : Ex H H4 := (e0.trans e2).trans e4
      refine ⟨acc, e3 _ _ hA, Nat.lt_of_le_of_lt (by omega : acc.length ≤ 100000) (by decide), ex_upd (e.trans e3) hD, _, upd_same, by rw [List.length_append, List.length_singleton]; omega, fun u hu => ?_⟩
      have grow : ∀ {u}, R u H4 → R u (upd H4 D (.lst (acc ++ [v]))) := fun {u} q => mono u _ _ (exl_upd (e3 _ _ hA)) q
      rcases List.mem_append.mp hu with z | z
      · exact grow (mono u _ _ (.of e3) (hR u z))
      · rw [List.mem_singleton.mp z]; exact grow r
  · rintro H ⟨e, acc, hA, hl, hR⟩
    exact done H acc e hA hl hR
/-- [.. draw .. for x in ..] -/
theorem lc_draw {p : Addr} {N : Addr → Prop} (hp : PoolAt H1 p N) (hD : H1 D = none) (w : Walk J n Gd Y) (hY : ∀ i H x H', Y i H x H' → Ex H H') (hw : ∀ x, wipe ((wipe σ vs).set j (some x)) vs = wipe σ vs) (src : ∀ H, ExB p H1 H → Gd H) (hn : n ≤ 100000) (R : Nat → V → Hp → Prop)
    (mono : ∀ i y H H', ExL H H' → R i y H → R i y H') (turn : ∀ i x H H', i < n → ExB p H1 H → Y i H x H' → PoolAt H' p (fun a => N a ∨ a = D) → ∀ Q : VK, (∀ y H2, ExB p H' H2 → PoolAt H2 p (fun a => N a ∨ a = D) → R i y H2 → Q y H2) → te ((wipe σ vs).set j (some x)) H' Q)
    (done : ∀ H acc, ExB p H1 H → PoolAt H p N → H D = some (.lst acc) → acc.length = n → (∀ (i : Nat) y, acc[i]? = some y → R i y H) → Qd H) :
    ∃ W : Nat → Nat → Hp → Prop, (∃ m, W 0 m (upd H1 D (.lst []))) ∧ ∀ i m H, W i m H →
      (J.stop i H ∧ Qd H) ∨ (J.go i H ∧ ∃ Nx : Hp → Prop, (∀ H', Nx H' → ∃ m', m' < m ∧ W (i + 1) m' H') ∧ ∀ x H', J.yld i H x H' → gName j x (wipe σ vs) H' fun σ2 H2 => wipe σ2 vs = wipe σ vs ∧ tYes σ2 H2 fun b H3 =>
        if b = true then te σ2 H3 fun y H4 => ∃ acc, H4 D = some (.lst acc) ∧ acc.length < sizeLine ∧ Nx (upd H4 D (.lst (acc ++ [y]))) else Nx H3) := by
  have nD : D ≠ p := hp.ne hD
  refine lc_it w (fun i H => ExB p H1 H ∧ PoolAt H p (fun a => N a ∨ a = D) ∧ ∃ acc : List V, H D = some (.lst acc) ∧ acc.length = i ∧ ∀ k y, acc[k]? = some y → R k y H) ⟨(ExB.refl p H1).updn hD, hp.new hD, [], upd_same, rfl, fun k y h => by simp at h⟩ (fun i H _ p => src H p.1) ?_ ?_
  · rintro i x H H' hi ⟨e, hP, acc, hA, hl, hR⟩ y
    have e0 : Ex H H' := hY i H x H' y
    refine ⟨hw x, yes_of ?_⟩
    refine turn i x H H' hi e y (hP.keep e0) _ fun v H4 e4 hP4 r => ?_
    have e3 : ExB p H H4 := (ExB.of e0).trans e4
    have hA4 := e3 D _ nD hA
    have lx : ExL H H4 := hP.exl e3
    refine ⟨acc, hA4, Nat.lt_of_le_of_lt (by omega : acc.length ≤ 100000) (by decide), (e.trans e3).updn hD, hP4.put (.inr rfl), _, upd_same, by rw [List.length_append, List.length_singleton, hl], fun k u hk => ?_⟩
    have grow : ∀ {k u}, R k u H4 → R k u (upd H4 D (.lst (acc ++ [v]))) := fun {k u} q => mono k u _ _ (exl_upd hA4) q
    by_cases hk2 : k < acc.length
    · rw [List.getElem?_append_left hk2] at hk
      exact grow (mono k u _ _ lx (hR k u hk))
    · have : k = acc.length := by
        have := (List.getElem?_eq_some_iff.mp hk).1
        rw [List.length_append, List.length_singleton] at this
        omega
      subst this
      rw [List.getElem?_append_right (Nat.le_refl _), Nat.sub_self] at hk
      have : v = u := Option.some.inj hk
      subst this
      rw [hl]
      exact grow r
  · rintro H ⟨e, hP, acc, hA, hl, hR⟩
    exact done H acc e (hP.sub fun a h => .inl h) hA hl hR
end
section
variable {P : Program} {w : World} {K : PySem.W.Frag} {mg : Str → Option Value} {base : Heap}
theorem asg_c {v : V} {i : Nat} {R : TS} {D : Ends} {σ : L2.St} {H : Hp} (h : R D (σ.set i (some v)) H) : tSeq (tAsg (tC v) (gName i)) R D σ H := h
theorem ix40 : ixN 4 0 = some 0 := by decide
theorem ix42 : ixN 4 2 = some 2 := by decide
theorem ix43 : ixN 4 3 = some 3 := by decide
/-- a draw of [0, m) -/
def spDraw : Sp := fun vs H Q _ => ∃ (p : Addr) (m : Int) (N : Addr → Prop), vs = [.ref p, .int m] ∧ PoolAt H p N ∧ 1 ≤ m ∧ m < 1073741824 ∧ ∀ H' r, ExB p H H' → PoolAt H' p N → 0 ≤ r → r < m → Q (.int r) H'
abbrev s__law_draw : Stmt := top 51
abbrev N__law_draw : List Str := ["_law_pool_here", "_law_many", "_law_digit", "_law_cell", "_law_number"]
abbrev p__law_draw : List Str := ["_law_pool_here", "_law_many"]
theorem sc__law_draw : FnScope N__law_draw p__law_draw (defScope s__law_draw) := ⟨rfl, rfl, rfl, by decide +kernel, rfl, by decide +kernel, by decide +kernel⟩
theorem ok__law_draw (D : Dn K mg "_law_draw" s__law_draw p__law_draw) (T : Txt K mg) : C8.Cal P w K mg base 1 "_law_draw" spDraw [] := by
  refine D.ok sc__law_draw (fun vs H Q E h => ?_) (fun f cdv A outer s H vs Q E hr h => ?_)
  · obtain ⟨p, m, N, rfl, _⟩ := h
    rfl
  obtain ⟨p, m, N, rfl, ⟨g, s, x, y, gs, ss, h1, h2, h3, n1, n2, hN⟩, m1, m2, k⟩ := h
  refine ⟨_, (pss_cons (ps_if (PW.pt (pw_and (pt_cmpR op_le (pe_ix ix_list (pv 0) pe_int (fun _ _ => rfl)) pe_int (nomark _)) (pw_and1 (pt_cmpR op_gt (pe_callB call_len_seq (by rfl) T.len (by decide +kernel) (pa_cons (pe_ix ix_list (pv 0) pe_int (fun _ _ => rfl)) pa_nil)) pe_int (nomark _))))) (pss_cons (ps_asg (pe_ix ix_list (pe_ix ix_list (pv 0) pe_int (fun _ _ => rfl)) pe_int (fun _ _ => rfl)) (pg_sub (pv 0) pe_int set_list))
  (pss_one (ps_asg (pe_slice sl_list (pe_ix ix_list (pv 0) pe_int (fun _ _ => rfl)) (po_some pe_int) po_none) (pg_sub (pv 0) pe_int set_list)))) pss_nil)
  (pss_cons (ps_if (pt_cmpR op_gt (pe_ix ix_list (pv 0) pe_int (fun _ _ => rfl)) pe_int (nomark _)) (pss_cons (ps_set (i := 2) sc__law_draw.nd rfl (Or.inl rfl) (pe_op op_modN (pe_callTy call_int1 (by rfl) T.int (by decide +kernel) (pa_cons (pe_ix ix_list (pv 0) pe_int (fun _ _ => rfl)) pa_nil)) (pv 1)))
  (pss_cons (ps_asg (pe_op op_fdivN (pe_ix ix_list (pv 0) pe_int (fun _ _ => rfl)) (pv 1)) (pg_sub (pv 0) pe_int set_list))
  (pss_one (ps_ret (pv 2))))) pss_nil)
  (pss_cons (ps_asg (pe_op op_add (pe_ix ix_list (pv 0) pe_int (fun _ _ => rfl)) pe_int) (pg_sub (pv 0) pe_int set_list))
  (pss_cons (ps_set (i := 3) sc__law_draw.nd rfl (Or.inl rfl) pe_int)
  (pss_cons (ps_if (pt_cmpR op_gt (pe_callB call_len_seq (by rfl) T.len (by decide +kernel) (pa_cons (pe_ix ix_list (pv 0) pe_int (fun _ _ => rfl)) pa_nil)) pe_int (nomark _)) (pss_one (ps_set (i := 3) sc__law_draw.nd rfl (Or.inl rfl) (pe_ix ix_list (pe_ix ix_list (pv 0) pe_int (fun _ _ => rfl)) (pe_op op_modN (pe_callTy call_int1 (by rfl) T.int (by decide +kernel) (pa_cons (pe_ix ix_list (pv 0) pe_int (fun _ _ => rfl)) pa_nil)) (pe_callB call_len_seq (by rfl) T.len (by decide +kernel) (pa_cons (pe_ix ix_list (pv 0) pe_int (fun _ _ => rfl)) pa_nil))) (fun _ _ => rfl)))) pss_nil)
  (pss_cons (ps_set (i := 4) sc__law_draw.nd rfl (Or.inl rfl) (pe_op op_modN (pe_callTy call_int1 (by rfl) T.int (by decide +kernel) (pa_cons (pe_op op_mul (pe_op op_add (pe_op op_add (pv 3) (pe_op op_mul pe_int (pe_ix ix_list (pv 0) pe_int (fun _ _ => rfl)))) pe_int) pe_int) pa_nil)) pe_int))
  (pss_cons (ps_set (i := 4) sc__law_draw.nd rfl (Or.inl rfl) (pe_op op_modN (pe_callTy call_int1 (by rfl) T.int (by decide +kernel) (pa_cons (pe_op op_mul (pv 4) (pe_op op_add (pe_op op_fdivN (pv 4) pe_int) pe_int)) pa_nil)) pe_int))
  (pss_cons (ps_set (i := 4) sc__law_draw.nd rfl (Or.inl rfl) (pe_op op_modN (pe_callTy call_int1 (by rfl) T.int (by decide +kernel) (pa_cons (pe_op op_mul (pv 4) (pe_op op_add (pe_op op_fdivN (pv 4) pe_int) pe_int)) pa_nil)) pe_int))
  (pss_one (ps_ret (pe_op op_modN (pe_callTy call_int1 (by rfl) T.int (by decide +kernel) (pa_cons (pe_op op_fdivN (pv 4) pe_int) pa_nil)) (pv 1)))))))))))), ?_⟩
  refine (show ∀ R : TS, (∀ (H1 : Hp) (g1 : Addr) (x1 : Int) (gs1 : List Int), ExB p H H1 → H1 p = some (.lst [.ref g1, .ref s, .int x1, .int y]) → H1 g1 = some (.lst (gs1.map V.int)) → g1 ≠ p → (∀ a, N a → a ≠ g1) → R ?D [some (.ref p), some (.int m), none, none, none] H1) → tSeq (tIfS _ _ _) R ?D [some (.ref p), some (.int m), none, none, none] H
    from fun R rest => ?_) _ (fun H1 g1 x1 gs1 e1 q1 q2 q3 q4 => ?_)
  · refine ⟨_, rfl, p, _, 2, .int x, rfl, rfl, SqL.of h1, atI_nat (j := 2) rfl, _, _, rfl, rfl, _, rfl, ?_⟩
    have old : tNext { nx := R ?D, rt := (?D : Ends).rt, bk := (?D : Ends).bk, ct := (?D : Ends).ct } [some (.ref p), some (.int m), none, none, none] H := rest H g x gs (ExB.refl p H) h1 h2 n1 fun a ha => (hN a ha).1
    by_cases c1 : x ≤ 1
    rotate_left
    · rw [decide_eq_false c1]
      exact iteF (iteF old)
    rw [decide_eq_true c1]
    refine iteT ⟨_, rfl, p, _, 0, .ref g, rfl, rfl, SqL.of h1, atI_nat (j := 0) rfl, g, _, rfl, .inl (SqL.of h2), _, _, rfl, rfl, _, rfl, ?_⟩
    rw [List.length_map]
    cases gs with
    | nil => exact iteF old
    | cons z zs =>
      rw [decide_eq_true (show (0 : Int) < ((z :: zs).length : Int) by rw [List.length_cons]; omega)]
      refine iteT ⟨_, rfl, p, _, 0, .ref g, rfl, rfl, SqL.of h1, atI_nat (j := 0) rfl, g, _, 0, .int z, rfl, rfl, SqL.of h2, atI_nat (j := 0) rfl, _, rfl, p, _, 2, 2, rfl, rfl, h1, ix42, ?_⟩
      have a1 : upd H p (.lst ([.ref g, .ref s, .int x, .int y].set 2 (.int z))) p = some (.lst [.ref g, .ref s, .int z, .int y]) := upd_same
      have ea : ExB p H (upd H p (.lst ([.ref g, .ref s, .int x, .int y].set 2 (.int z)))) := (ExB.refl p H).upd
      generalize upd H p (.lst ([.ref g, .ref s, .int x, .int y].set 2 (.int z))) = Ha at a1 ea ⊢
      have a2 := ea _ _ n1 h2
      refine ⟨_, rfl, p, _, 0, .ref g, rfl, rfl, SqL.of a1, atI_nat (j := 0) rfl, _, rfl, g, _, rfl, SqL.of a2, fun l hl => ⟨_, rfl, p, _, 0, 0, rfl, rfl, (Ex.new hl) _ _ a1, ix40, ?_⟩⟩
      have ec : cutV ((z :: zs).map V.int) (some 1) none = zs.map V.int := by
        rw [show (some (1 : Int)) = some ((1 : Nat) : Int) from rfl, cut_from]
        rfl
      rw [ec]
      have nl : l ≠ p := Ne.symm (ne_of_none a1 hl)
      refine rest _ l z zs (((ea.trans (.of (Ex.new hl))).upd)) upd_same ?_ nl fun a ha => ?_
      · rw [upd_ne nl, upd_same]
      · obtain ⟨_, _, b3, u, b4⟩ := hN a ha
        exact ne_of_none (ea _ _ b3 b4) hl
  · have s1 : H1 s = some (.lst (ss.map V.int)) := e1 _ _ n2 h3
    have N1 : ∀ a, N a → a ≠ g1 ∧ a ≠ s ∧ a ≠ p ∧ ∃ o, H1 a = some o := fun a ha => let ⟨_, b2, b3, u, b4⟩ := hN a ha; ⟨q4 a ha, b2, b3, u, e1 _ _ b3 b4⟩
    have fin : ∀ z y' : Int, ExB p H (upd H1 p (.lst [.ref g1, .ref s, .int z, .int y'])) ∧ PoolAt (upd H1 p (.lst [.ref g1, .ref s, .int z, .int y'])) p N := fun z y' =>
      ⟨e1.upd, g1, s, z, y', gs1, ss, upd_same, by rw [upd_ne q3]; exact q2, by rw [upd_ne n2]; exact s1, q3, n2, fun a ha => let ⟨b1, b2, b3, u, b4⟩ := N1 a ha; ⟨b1, b2, b3, u, by rw [upd_ne b3]; exact b4⟩⟩
    refine ⟨_, rfl, p, _, 2, .int x1, rfl, rfl, SqL.of q1, atI_nat (j := 2) rfl, _, _, rfl, rfl, _, rfl, ?_⟩
    by_cases c1 : 1 < x1
    · rw [decide_eq_true c1]
      obtain ⟨f1, f2⟩ := fmod_bd (i := x1) (m := m) (by omega)
      refine iteT ⟨_, rfl, p, _, 2, .int x1, rfl, rfl, SqL.of q1, atI_nat (j := 2) rfl, .inl ⟨x1, rfl, _, rfl, x1, m, rfl, rfl, by omega, ?_⟩⟩
      refine ⟨_, rfl, p, _, 2, .int x1, rfl, rfl, SqL.of q1, atI_nat (j := 2) rfl, _, rfl, x1, m, rfl, rfl, ⟨by omega, by omega⟩, _, rfl, p, _, 2, 2, rfl, rfl, q1, ix42, ?_⟩
      obtain ⟨t1, t2⟩ := fin (x1.fdiv m) y
      exact ⟨_, rfl, k _ _ t1 t2 f1 f2⟩
    rw [decide_eq_false c1]
    refine iteF ?_
    -- pool[3] = pool[3] + 1
    refine ⟨_, rfl, p, _, 3, .int y, rfl, rfl, SqL.of q1, atI_nat (j := 3) rfl, y, 1, rfl, rfl, _, rfl, p, _, 3, 3, rfl, rfl, q1, ix43, ?_⟩
    obtain ⟨t1, t2⟩ := fin x1 (y + 1)
    have t0 : upd H1 p (.lst ([.ref g1, .ref s, .int x1, .int y].set 3 (.int (y + 1)))) p = some (.lst [.ref g1, .ref s, .int x1, .int (y + 1)]) := upd_same
    have t3 : upd H1 p (.lst ([.ref g1, .ref s, .int x1, .int y].set 3 (.int (y + 1)))) s = some (.lst (ss.map V.int)) := by rw [upd_ne n2]; exact s1
    have t1' : ExB p H (upd H1 p (.lst ([.ref g1, .ref s, .int x1, .int y].set 3 (.int (y + 1))))) := t1
    have t2' : PoolAt (upd H1 p (.lst ([.ref g1, .ref s, .int x1, .int y].set 3 (.int (y + 1))))) p N := t2
    generalize upd H1 p (.lst ([.ref g1, .ref s, .int x1, .int y].set 3 (.int (y + 1)))) = Hb at t0 t3 t1' t2' ⊢
    -- cell = 0; if len(pool[1]) > 0: cell = ..
    refine asg_c ?_
    dsimp only
    refine (show ∀ R : TS, (∀ c : Int, R ?D2 [some (.ref p), some (.int m), none, some (.int c), none] Hb) → tSeq (tIfS _ _ _) R ?D2 [some (.ref p), some (.int m), none, some (.int 0), none] Hb from fun R rest => ?_) _ (fun c => ?_)
    · refine ⟨_, rfl, p, _, 1, .ref s, rfl, rfl, SqL.of t0, atI_nat (j := 1) rfl, s, _, rfl, .inl (SqL.of t3), _, _, rfl, rfl, _, rfl, ?_⟩
      rw [List.length_map]
      by_cases c2 : 0 < ss.length
      · rw [decide_eq_true (show (0 : Int) < (ss.length : Int) by omega)]
        obtain ⟨f1, f2⟩ := fmod_bd (i := y + 1) (m := (ss.length : Int)) (by omega)
        obtain ⟨z, hz⟩ : ∃ z, ss[((y + 1).fmod (ss.length : Int)).toNat]? = some z := ⟨_, List.getElem?_eq_getElem (by omega)⟩
        have hat : atI (ss.map V.int) ((y + 1).fmod (ss.length : Int)) = some (.int z) := by
          have := atI_nat (xs := ss.map V.int) (j := ((y + 1).fmod (ss.length : Int)).toNat) (by rw [List.getElem?_map, hz]; rfl : _ = some (V.int z))
          rw [Int.toNat_of_nonneg f1] at this
          exact this
        refine iteT ⟨_, rfl, p, _, 1, .ref s, rfl, rfl, SqL.of t0, atI_nat (j := 1) rfl, _, rfl, p, _, 3, .int (y + 1), rfl, rfl, SqL.of t0, atI_nat (j := 3) rfl, .inl ⟨y + 1, rfl, ?_⟩⟩
        refine ⟨_, rfl, p, _, 1, .ref s, rfl, rfl, SqL.of t0, atI_nat (j := 1) rfl, s, _, rfl, .inl (SqL.of t3), y + 1, (ss.length : Int), rfl, by rw [List.length_map], by omega, ?_⟩
        exact ⟨s, _, _, .int z, rfl, rfl, SqL.of t3, hat, rest z⟩
      · rw [decide_eq_false (show ¬ (0 : Int) < (ss.length : Int) by omega)]
        exact iteF (rest 0)
    · refine ⟨_, rfl, _, rfl, p, _, 3, .int (y + 1), rfl, rfl, SqL.of t0, atI_nat (j := 3) rfl, ?_⟩
      refine ⟨7919, y + 1, rfl, rfl, .inl ⟨by decide, by decide⟩, c, _, rfl, rfl, _, 1, rfl, rfl, _, 48271, rfl, rfl, .inr ⟨by decide, by decide⟩, .inl ⟨_, rfl, _, 2147483647, rfl, rfl, show (2147483647 : Int) ≠ 0 by decide, ?_⟩⟩
      obtain ⟨b1, b2⟩ := fmod_bd (i := (c + 7919 * (y + 1) + 1) * 48271) (m := 2147483647) (by decide)
      obtain ⟨r1, hr1⟩ : ∃ r, r = ((c + 7919 * (y + 1) + 1) * 48271).fmod 2147483647 := ⟨_, rfl⟩
      rw [← hr1] at b1 b2
      refine ⟨_, rfl, _, rfl, r1, 1009, by rw [hr1], rfl, ⟨by decide, by decide⟩, _, 69621, rfl, rfl, r1, _, by rw [hr1], rfl, .inl ⟨Int.lt_of_lt_of_le (by decide) b1, Int.lt_trans b2 (by decide)⟩, .inl ⟨_, rfl, _, 2147483647, rfl, rfl, show (2147483647 : Int) ≠ 0 by decide, ?_⟩⟩
      obtain ⟨c1, c2⟩ := fmod_bd (i := r1 * (r1.fdiv 1009 + 69621)) (m := 2147483647) (by decide)
      obtain ⟨r2, hr2⟩ : ∃ r, r = (r1 * (r1.fdiv 1009 + 69621)).fmod 2147483647 := ⟨_, rfl⟩
      rw [← hr2] at c1 c2
      refine ⟨_, rfl, _, rfl, r2, 2003, by rw [hr2], rfl, ⟨by decide, by decide⟩, _, 40692, rfl, rfl, r2, _, by rw [hr2], rfl, .inl ⟨Int.lt_of_lt_of_le (by decide) c1, Int.lt_trans c2 (by decide)⟩, .inl ⟨_, rfl, _, 2147483399, rfl, rfl, show (2147483399 : Int) ≠ 0 by decide, ?_⟩⟩
      obtain ⟨d1, d2⟩ := fmod_bd (i := ((r2 * (r2.fdiv 2003 + 40692)).fmod 2147483399).fdiv 16) (m := m) (by omega)
      exact ⟨_, rfl, _, 16, rfl, rfl, ⟨by decide, by decide⟩, .inl ⟨_, rfl, _, rfl, _, m, rfl, rfl, by omega, k _ _ t1' t2' d1 d2⟩⟩
end
end K28
/-! # The law's small draws -/
namespace K28
open PySem PySem.Spec PyProof.Rows L2
open Evl (Ex ex_l ex_t)
section
variable {P : Program} {w : World} {K : PySem.W.Frag} {mg : Str → Option Value} {base : Heap} {d : Ad}
/-- the pool of a script -/
def spPool (K : PySem.W.Frag) : Sp := fun vs H Q _ => ∃ (a : Addr) (is : List Int), vs = [.ref a] ∧ SqL K H a (is.map V.int) ∧ ∀ H' p, Ex H H' → H p = none → PoolAt H' p (fun _ => False) → Q (.ref p) H'
theorem bool_two {A : Bool → Prop} {b : Bool} (t : b = true → A true) (f : b = false → A false) : A b := by cases b with | true => exact t rfl | false => exact f rfl
theorem cut63 (is : List Int) : ∃ js : List Int, cutV (is.map V.int) none (some 63) = js.map V.int ∧ js.length ≤ 63 := by
  refine ⟨is.take 63, ?_, by rw [List.length_take]; omega⟩
  rw [show (some (63 : Int)) = some ((63 : Nat) : Int) from rfl, cut_to, List.map_take]
theorem all_ints : ∀ {acc : List V}, (∀ y ∈ acc, ∃ i : Int, y = V.int i) → ∃ zs : List Int, acc = zs.map V.int
  | [], _ => ⟨[], rfl⟩
  | y :: acc, h => by
    obtain ⟨i, rfl⟩ := h y List.mem_cons_self
    obtain ⟨zs, rfl⟩ := all_ints fun y hy => h y (List.mem_cons_of_mem _ hy)
    exact ⟨i :: zs, rfl⟩
abbrev s__law_pool : Stmt := top 50
abbrev N__law_pool : List Str := ["_law_script", "_law_great", "_law_small", "_law_cell"]
abbrev p__law_pool : List Str := ["_law_script"]
theorem sc__law_pool : FnScope N__law_pool p__law_pool (defScope s__law_pool) := ⟨rfl, rfl, rfl, by decide +kernel, rfl, by decide +kernel, by decide +kernel⟩
theorem ok__law_pool (D : Dn K mg "_law_pool" s__law_pool p__law_pool) (T : Txt K mg) : C8.Cal P w K mg base 1 "_law_pool" (spPool K) [] := by
  refine D.ok sc__law_pool (fun vs H Q E h => ?_) (fun f cdv A outer s H vs Q E hr h => ?_)
  · obtain ⟨a, is, rfl, _⟩ := h
    rfl
  obtain ⟨a, is, rfl, hL, k⟩ := h
  obtain ⟨js, ejs, hjs⟩ := cut63 is
  refine ⟨_, (pss_cons (ps_setLc (i := 1) (own := [("_law_cell", 3)]) (g := gName 3) rfl sc__law_pool.nd rfl rfl (sw_true rfl rfl rfl (by decide +kernel)) (pi_list (pe_slice sl_list (pv 0) po_none (po_some pe_int))) (blkOk_by (N := N__law_pool) (sc := defScope s__law_pool) (by decide +kernel)) (fun _ _ _ _ _ => (pg_name (i := 3) sc__law_pool.nd rfl (Or.inl rfl))) (fun _ _ _ _ _ => (pts_one (pt_cmpR op_ge (pe_callB call_abs (by rfl) T.abs (by decide +kernel) (pa_cons (pv 3) pa_nil)) (pe_op op_pow pe_int pe_int) (nomark _)))) (fun _ _ _ _ _ => (pe_callB call_abs (by rfl) T.abs (by decide +kernel) (pa_cons (pv 3) pa_nil))))
  (pss_cons (ps_setLc (i := 2) (own := [("_law_cell", 3)]) (g := gName 3) rfl sc__law_pool.nd rfl rfl (sw_true rfl rfl rfl (by decide +kernel)) (pi_list (pe_slice sl_list (pv 0) po_none (po_some pe_int))) (blkOk_by (N := N__law_pool) (sc := defScope s__law_pool) (by decide +kernel)) (fun _ _ _ _ _ => (pg_name (i := 3) sc__law_pool.nd rfl (Or.inl rfl))) (fun _ _ _ _ _ => (pts_one (pt_cmpR op_lt (pe_callB call_abs (by rfl) T.abs (by decide +kernel) (pa_cons (pv 3) pa_nil)) (pe_op op_pow pe_int pe_int) (nomark _)))) (fun _ _ _ _ _ => (pe_op op_modN (pe_callTy call_int1 (by rfl) T.int (by decide +kernel) (pa_cons (pv 3) pa_nil)) pe_int)))
  (pss_one (ps_ret (pe_lst (pa_cons (pv 1) (pa_cons (pv 2) (pa_cons pe_int (pa_cons pe_int pa_nil))))))))), ?_⟩
  refine ⟨_, rfl, _, rfl, a, _, rfl, hL, fun q hq => ⟨q, rfl, ⟨_, SqL.of upd_same⟩, fun D1 hD1 => ?_⟩⟩
  rw [ejs] at hD1 ⊢
  have e1 : Ex H (upd H q (.lst (js.map V.int))) := Ex.new hq
  have r1 : upd H q (.lst (js.map V.int)) q = some (.lst (js.map V.int)) := upd_same
  generalize upd H q (.lst (js.map V.int)) = H1 at e1 r1 hD1
  refine lc_some hD1 (walk_list (xs := js.map V.int)) yat_ex (fun _ => rfl) (fun H' e => ex_l e (SqL.of r1)) (by rw [List.length_map]; omega) (fun y _ => ∃ i : Int, y = V.int i) (fun _ _ _ _ h => h) ?_ ?_
  · rintro i v H2 H3 _ e2 ⟨rfl, hv⟩ Q' qf qt
    obtain ⟨c, hc, rfl⟩ := map_get hv
    refine ⟨_, rfl, c, rfl, 10, 18, rfl, rfl, ⟨by decide, by decide, by decide⟩, _, _, rfl, rfl, _, rfl, ?_⟩
    refine bool_two (A := fun b => Q' b H3) (fun z => ?_) (fun z => ?_)
    · exact qt _ (Ex.refl _) fun Q2 q2 => ⟨_, rfl, c, rfl, q2 _ _ (Ex.refl _) ⟨_, rfl⟩⟩
    · exact qf _ (Ex.refl _)
  intro H2 acc e2 hA _ hR
  obtain ⟨gs, rfl⟩ := all_ints hR
  refine ⟨_, rfl, _, rfl, a, _, rfl, ex_l (e1.trans e2) hL, fun q2 hq2 => ⟨q2, rfl, ⟨_, SqL.of upd_same⟩, fun D2 hD2 => ?_⟩⟩
  rw [ejs] at hD2 ⊢
  have e3 : Ex H2 (upd H2 q2 (.lst (js.map V.int))) := Ex.new hq2
  have r3 : upd H2 q2 (.lst (js.map V.int)) q2 = some (.lst (js.map V.int)) := upd_same
  generalize upd H2 q2 (.lst (js.map V.int)) = H3 at e3 r3 hD2
  refine lc_some hD2 (walk_list (xs := js.map V.int)) yat_ex (fun _ => rfl) (fun H' e => ex_l e (SqL.of r3)) (by rw [List.length_map]; omega) (fun y _ => ∃ i : Int, y = V.int i) (fun _ _ _ _ h => h) ?_ ?_
  · rintro i v H4 H5 _ e4 ⟨rfl, hv⟩ Q' qf qt
    obtain ⟨c, hc, rfl⟩ := map_get hv
    refine ⟨_, rfl, c, rfl, 10, 18, rfl, rfl, ⟨by decide, by decide, by decide⟩, _, _, rfl, rfl, _, rfl, ?_⟩
    refine bool_two (A := fun b => Q' b H5) (fun z => ?_) (fun z => ?_)
    · exact qt _ (Ex.refl _) fun Q2 q2 => ⟨_, rfl, .inl ⟨c, rfl, _, _, rfl, rfl, show (1000003 : Int) ≠ 0 by decide, q2 _ _ (Ex.refl _) ⟨_, rfl⟩⟩⟩
    · exact qf _ (Ex.refl _)
  intro H4 acc e4 hA4 _ hR4
  obtain ⟨ss, rfl⟩ := all_ints hR4
  have hA5 := (e3.trans e4) _ _ hA
  refine ⟨_, rfl, _, rfl, len4, fun p hp => k _ p ((((e1.trans e2).trans e3).trans e4).trans (Ex.new hp)) (fr_back (((e1.trans e2).trans e3).trans e4) hp) ⟨D1, D2, 0, 0, gs, ss, upd_same, (Ex.new hp) _ _ hA5, (Ex.new hp) _ _ hA4, ne_of_none hA5 hp, ne_of_none hA4 hp, fun a ha => ha.elim⟩⟩
/-- one of some things -/
def spPick (K : PySem.W.Frag) : Sp := fun vs H Q _ => ∃ (p a : Addr) (xs : List V) (N : Addr → Prop), vs = [.ref p, .ref a] ∧ PoolAt H p N ∧ SqL K H a xs ∧ a ≠ p ∧ 1 ≤ xs.length ∧ xs.length ≤ 1000000 ∧ ∀ H' v, ExB p H H' → PoolAt H' p N → v ∈ xs → Q v H'
abbrev s__law_pick : Stmt := top 52
abbrev N__law_pick : List Str := ["_law_pool_here", "_law_things"]
abbrev p__law_pick : List Str := ["_law_pool_here", "_law_things"]
theorem sc__law_pick : FnScope N__law_pick p__law_pick (defScope s__law_pick) := ⟨rfl, rfl, rfl, by decide +kernel, rfl, by decide +kernel, by decide +kernel⟩
theorem ok__law_pick (D : Dn K mg "_law_pick" s__law_pick p__law_pick) (T : Txt K mg) (c__law_draw : C8.Cal P w K mg base 1 "_law_draw" spDraw []) : C8.Cal P w K mg base 2 "_law_pick" (spPick K) [] := by
  refine D.ok sc__law_pick (fun vs H Q E h => ?_) (fun f cdv A outer s H vs Q E hr h => ?_)
  · obtain ⟨p, a, xs, N, rfl, _⟩ := h
    rfl
  obtain ⟨p, a, xs, N, rfl, hp, hL, na, n1, n2, k⟩ := h
  refine ⟨_, (pss_one (ps_ret (pe_ix ix_list (pv 1) (C8.pe_c c__law_draw hr (by decide) (by rfl) (pa_cons (pv 0) (pa_cons (pe_callB call_len_seq (by rfl) T.len (by decide +kernel) (pa_cons (pv 1) pa_nil)) pa_nil))) (fun _ _ => rfl)))), ?_⟩
  refine ⟨_, rfl, _, rfl, _, rfl, a, _, rfl, .inl hL, p, (xs.length : Int), N, rfl, hp, by omega, by omega, fun H1 r e1 hp1 r0 r1 => ?_⟩
  obtain ⟨v, hv⟩ : ∃ v, xs[r.toNat]? = some v := ⟨_, List.getElem?_eq_getElem (by omega)⟩
  exact ⟨a, xs, r, v, rfl, rfl, sql_but e1 na hL, at_int r0 hv, k H1 v e1 hp1 (List.mem_of_getElem? hv)⟩
def spIsNum : Sp := fun vs H Q _ => ∃ i a b : Int, vs = [.int i, .int a, .int b] ∧ Q (.bl (decide (a ≤ i) && decide (i ≤ b))) H
abbrev s__law_is_number : Stmt := top 55
abbrev N__law_is_number : List Str := ["_law_thing", "_law_least", "_law_most"]
abbrev p__law_is_number : List Str := ["_law_thing", "_law_least", "_law_most"]
theorem sc__law_is_number : FnScope N__law_is_number p__law_is_number (defScope s__law_is_number) := ⟨rfl, rfl, rfl, by decide +kernel, rfl, by decide +kernel, by decide +kernel⟩
theorem ok__law_is_number (D : Dn K mg "_law_is_number" s__law_is_number p__law_is_number) (T : Txt K mg) : C8.Cal P w K mg base 1 "_law_is_number" spIsNum [] := by
  refine D.ok sc__law_is_number (fun vs H Q E h => ?_) (fun f cdv A outer s H vs Q E hr h => ?_)
  · obtain ⟨i, a, b, rfl, _⟩ := h
    rfl
  obtain ⟨i, a, b, rfl, k⟩ := h
  refine ⟨_, (pss_one (ps_ret (pe_and (pe_callB call_isi (by rfl) T.isinstance (by decide +kernel) (pa_cons (pv 0) (pa_cons (pe_bltn (v := .ty "int") (by rfl) T.int (by decide +kernel) rfl) pa_nil))) (pe_and (pe_not (pe_callB call_isi (by rfl) T.isinstance (by decide +kernel) (pa_cons (pv 0) (pa_cons (pe_bltn (v := .ty "bool") (by rfl) T.bool (by decide +kernel) rfl) pa_nil)))) (pe_one (pe_chain op_le op_le (pv 1) (pv 0) (pv 2))))))), ?_⟩
  refine ⟨_, rfl, _, _, _, _, _, rfl, .ty _, .base (.int i), kit_ty (r := true) (by decide +kernel), _, rfl, iteT ?_⟩
  refine ⟨_, rfl, _, _, _, _, _, rfl, .ty _, .base (.int i), kit_ty (r := false) (by decide +kernel), _, rfl, _, rfl, iteT ?_⟩
  refine ⟨_, rfl, _, rfl, _, _, rfl, rfl, _, rfl, ?_⟩
  by_cases h1 : a ≤ i
  · rw [decide_eq_true h1, Bool.true_and] at k
    rw [decide_eq_true h1]
    exact iteT ⟨_, rfl, _, _, rfl, rfl, k⟩
  · rw [decide_eq_false h1, Bool.false_and] at k
    rw [decide_eq_false h1]
    exact iteF k
end
end K28
/-! # The law's draws of reads and journals; specs -/
namespace K28
open PySem PySem.Spec PyProof.Rows L2
open Evl (Ex ex_l ex_t)
/-- what a table is made of, as a pair -/
def SpecAt (K : PySem.W.Frag) (H : Hp) (v : V) (n : Int) (ks : List Kd) : Prop := ∃ s pk : Addr, v = .ref s ∧ SqT K H s [.int n, .ref pk] ∧ KdsAt K H pk ks
theorem SpecAt.monoL {K : PySem.W.Frag} {H H' : Hp} {v : V} {n : Int} {ks : List Kd} (e : ExL H H') (h : SpecAt K H v n ks) : SpecAt K H' v n ks := by
  obtain ⟨s, pk, e1, h1, h2⟩ := h
  exact ⟨s, pk, e1, exl_t e h1, h2.monoL e⟩
theorem SpecAt.mono {K : PySem.W.Frag} {H H' : Hp} {v : V} {n : Int} {ks : List Kd} (e : Ex H H') (h : SpecAt K H v n ks) : SpecAt K H' v n ks := h.monoL (.of e)
section
variable {P : Program} {w : World} {K : PySem.W.Frag} {mg : Str → Option Value} {base : Heap} {d : Ad}
def spFresh (K : PySem.W.Frag) : Sp := fun vs H Q _ => ∃ (v : V) (n : Int) (ks : List Kd), vs = [v] ∧ SpecAt K H v n ks ∧ 0 ≤ n ∧ n ≤ 1000 ∧ ∀ H' a, Ex H H' → H' a = some (.tup ((fresh n).map V.int)) → Q (.ref a) H'
abbrev s__law_fresh : Stmt := top 63
abbrev N__law_fresh : List Str := ["_law_spec_here", "_law_cell"]
abbrev p__law_fresh : List Str := ["_law_spec_here"]
theorem sc__law_fresh : FnScope N__law_fresh p__law_fresh (defScope s__law_fresh) := ⟨rfl, rfl, rfl, by decide +kernel, rfl, by decide +kernel, by decide +kernel⟩
theorem ok__law_fresh (D : Dn K mg "_law_fresh" s__law_fresh p__law_fresh) (T : Txt K mg) : C8.Cal P w K mg base 1 "_law_fresh" (spFresh K) [] := by
  refine D.ok sc__law_fresh (fun vs H Q E h => ?_) (fun f cdv A outer s H vs Q E hr h => ?_)
  · obtain ⟨v, n, ks, rfl, _⟩ := h
    rfl
  obtain ⟨v, n, ks, rfl, ⟨sp, pk, rfl, hs, hk⟩, h0, h1, k⟩ := h
  refine ⟨_, (pss_one (ps_ret (pe_callTy call_tuple_of (by rfl) T.tuple (by decide +kernel) (pa_cons (pe_lc (own := [("_law_cell", 1)]) (g := gName 1) (tt := tYes) rfl sc__law_fresh.nd (pi_range1 (by rfl) T.range (pa_cons (pe_ix ix_tup (pv 0) pe_int (fun _ _ => rfl)) pa_nil)) (blkOk_by (N := N__law_fresh) (sc := defScope s__law_fresh) (by decide +kernel)) (fun _ _ _ _ _ => (pg_name (i := 1) sc__law_fresh.nd rfl (Or.inl rfl))) (fun _ _ _ _ _ => pts_nil) (fun _ _ _ _ _ => (pe_op op_sub (pe_un un_neg pe_int) (pv 1)))) pa_nil)))), ?_⟩
  refine ⟨_, rfl, sp, _, 0, .int n, rfl, rfl, hs, atI_nat (j := 0) rfl, n, rfl, by omega, by omega, fun D hD => lc_pure hD walk_range yfn_ex (fun _ => rfl) (fun _ _ => trivial) (by omega) (fun i y _ => y = .int (-1 - (i : Int))) (fun _ _ _ _ _ h => h) ?_ ?_⟩
  · rintro i v H1 H2 hi e1 ⟨rfl, rfl⟩ Q' q
    refine ⟨1, rfl, _, rfl, _, _, rfl, rfl, q _ _ (Ex.refl _) ?_⟩
    show V.int (-1 - (0 + (i : Int))) = _
    rw [Int.zero_add]
  · intro H1 acc e1 hA hl hR
    have ea : acc = (fresh n).map V.int := by
      unfold fresh
      rw [List.map_map]
      refine acc_map (by rw [hl, List.length_range]) fun i y h => ?_
      have hi := (List.getElem?_eq_some_iff.mp h).1
      rw [hl] at hi
      exact ⟨i, by rw [List.getElem?_range hi], hR i y h⟩
    rw [ea] at hA
    exact ⟨D, _, rfl, .inl ⟨SqL.of hA, fun l hl => k _ l (e1.trans (Ex.new hl)) upd_same⟩⟩
def spMade (d : Ad) (K : PySem.W.Frag) : Sp := fun vs H Q _ => ∃ (v : V) (n : Int) (ks : List Kd), vs = [v] ∧ SpecAt K H v n ks ∧ tableOut n ks = none ∧ ∀ H' t, Ex H H' → H t = none → TabAt d K H' t n ks → Q (.ref t) H'
abbrev s__law_made : Stmt := top 59
abbrev N__law_made : List Str := ["_law_spec_here"]
abbrev p__law_made : List Str := ["_law_spec_here"]
theorem sc__law_made : FnScope N__law_made p__law_made (defScope s__law_made) := ⟨rfl, rfl, rfl, by decide +kernel, rfl, by decide +kernel, by decide +kernel⟩
theorem ok__law_made (D : Dn K mg "_law_made" s__law_made p__law_made) (i_Table : Mak P w K mg base 5 "Table" d.tb (spTable d K)) : C8.Cal P w K mg base 7 "_law_made" (spMade d K) [] := by
  refine D.ok sc__law_made (fun vs H Q E h => ?_) (fun f cdv A outer s H vs Q E hr h => ?_)
  · obtain ⟨v, n, ks, rfl, _⟩ := h
    rfl
  obtain ⟨v, n, ks, rfl, ⟨sp, pk, rfl, hs, hk⟩, hok, k⟩ := h
  obtain ⟨hn, hks, _⟩ := table_ok hok
  refine ⟨_, (pss_one (ps_ret (pe_mk i_Table hr (by decide) (by rfl) passN (pa_cons (pe_ix ix_tup (pv 0) pe_int (fun _ _ => rfl)) (pa_cons (pe_ix ix_tup (pv 0) pe_int (fun _ _ => rfl)) pa_nil))))), ?_⟩
  refine ⟨_, rfl, sp, _, 0, .int n, rfl, rfl, hs, atI_nat (j := 0) rfl, _, rfl, sp, _, 1, .ref pk, rfl, rfl, hs, atI_nat (j := 1) rfl, fun t dx h1 h2 hne => ?_⟩
  have e8 : Ex H (upd (upd H dx (.own t)) t (.ins d.tb dx [])) := ex_upd (Ex.new h2) h1
  refine ⟨t, dx, n, pk, ks, rfl, upd_same, hk.mono e8, by omega, fun _ H' eb ht => ⟨rfl, ?_⟩, fun o ho => ?_⟩
  · have e9 : Ex H H' := eb.ex e8 h1
    exact k H' t e9 h1 ⟨dx, pk, ht, hk.mono e9⟩
  · rw [hok] at ho; cases ho
def spLIsJ (K : PySem.W.Frag) : Sp := fun vs H Q _ => ∃ (v : V) (a : Addr) (n : Int) (ks : List Kd) (js : List Int), vs = [v, .ref a] ∧ SpecAt K H v n ks ∧ SqT K H a (js.map V.int) ∧ js.length ≤ 100000 ∧ ∀ H', Ex H H' → Q (.bl (isJournal ks.length js)) H'
abbrev s__law_is_journal : Stmt := top 67
abbrev N__law_is_journal : List Str := ["_law_spec_here", "_law_thing", "_law_number"]
abbrev p__law_is_journal : List Str := ["_law_spec_here", "_law_thing"]
theorem sc__law_is_journal : FnScope N__law_is_journal p__law_is_journal (defScope s__law_is_journal) := ⟨rfl, rfl, rfl, by decide +kernel, rfl, by decide +kernel, by decide +kernel⟩
theorem ok__law_is_journal (D : Dn K mg "_law_is_journal" s__law_is_journal p__law_is_journal) (T : Txt K mg) (c__law_is_number : C8.Cal P w K mg base 1 "_law_is_number" spIsNum []) : C8.Cal P w K mg base 2 "_law_is_journal" (spLIsJ K) [] := by
  refine D.ok sc__law_is_journal (fun vs H Q E h => ?_) (fun f cdv A outer s H vs Q E hr h => ?_)
  · obtain ⟨v, a, n, ks, js, rfl, _⟩ := h
    rfl
  obtain ⟨v, a, n, ks, js, rfl, ⟨sp, pk, rfl, hs, xs, hk, hp⟩, hT, hn, k⟩ := h
  refine ⟨_, (pss_cons (ps_if (PW.pt (pw_or (pt_not (pt_val (pe_callB call_isi (by rfl) T.isinstance (by decide +kernel) (pa_cons (pv 1) (pa_cons (pe_bltn (v := .ty "tuple") (by rfl) T.tuple (by decide +kernel) rfl) pa_nil))))) (pw_or1 (pt_cmpR op_gt (pe_callB call_len_seq (by rfl) T.len (by decide +kernel) (pa_cons (pv 1) pa_nil)) pe_int (nomark _))))) (pss_one (ps_ret pe_bl)) pss_nil)
  (pss_one (ps_ret (pe_callB (cr_all rfl) (by rfl) T.all (by decide +kernel) (pa_cons (pe_lc (own := [("_law_number", 2)]) (g := gName 2) (tt := tYes) rfl sc__law_is_journal.nd (pi_tup (pv 1)) (blkOk_by (N := N__law_is_journal) (sc := defScope s__law_is_journal) (by decide +kernel)) (fun _ _ _ _ _ => (pg_name (i := 2) sc__law_is_journal.nd rfl (Or.inl rfl))) (fun _ _ _ _ _ => pts_nil) (fun _ _ _ _ _ => (C8.pe_c c__law_is_number hr (by decide) (by rfl) (pa_cons (pv 2) (pa_cons pe_int (pa_cons (pe_op op_sub (pe_callB (call_len_seqK (K := K)) (by rfl) T.len (by decide +kernel) (pa_cons (pe_ix (ix_tupK (K := K)) (pv 0) pe_int (fun _ _ => rfl)) pa_nil)) pe_int) pa_nil)))))) pa_nil))))), ?_⟩
  refine ⟨_, rfl, _, _, _, _, _, rfl, .ty _, tyT hT, kit_ty (r := true) (by decide +kernel), _, rfl, iteF ?_⟩
  refine ⟨_, rfl, a, _, rfl, .inr hT, _, _, rfl, rfl, _, rfl, ?_⟩
  rw [List.length_map]
  unfold isJournal at k
  by_cases h1 : js.length ≤ 400
  rotate_left
  · rw [decide_eq_false h1, Bool.false_and] at k
    rw [decide_eq_true (show (400 : Int) < (js.length : Int) by omega)]
    exact iteT (k H (Ex.refl H))
  rw [decide_eq_true h1, Bool.true_and] at k
  rw [decide_eq_false (show ¬ (400 : Int) < (js.length : Int) by omega)]
  refine iteF ?_
  refine ⟨_, rfl, a, rfl, ⟨_, hT⟩, fun D hD => lc_pure hD (walk_tup (xs := js.map V.int)) yat_ex (fun _ => rfl) (fun H' e => ex_t e hT) (by rw [List.length_map]; exact hn) (fun i y _ => ∃ j, js[i]? = some j ∧ y = V.bl (decide (0 ≤ j) && decide (j ≤ (ks.length : Int) - 1))) (fun _ _ _ _ _ h => h) ?_ ?_⟩
  · rintro i v H1 H2 _ e1 ⟨rfl, hv⟩ Q' q
    obtain ⟨j, hj, rfl⟩ := map_get hv
    refine ⟨_, rfl, _, rfl, sp, _, 1, .ref pk, rfl, rfl, ex_t e1 hs, atI_nat (j := 1) rfl, pk, _, rfl, .inr (ex_t e1 hk), _, _, rfl, rfl, j, 0, _, rfl, ?_⟩
    rw [pair_len hp]
    exact q _ _ (Ex.refl _) ⟨j, hj, rfl⟩
  · intro H1 acc e1 hA hl hR
    have ea : acc = (js.map fun j => decide (0 ≤ j) && decide (j ≤ (ks.length : Int) - 1)).map V.bl := by
      rw [List.map_map]
      exact acc_map (by rw [hl, List.length_map]) fun i y h => hR i y h
    rw [ea] at hA
    refine ⟨D, _, rfl, SqL.of hA, ?_⟩
    rw [List.all_map]
    exact k H1 e1
/-- a journal drawn -/
def spLJ (K : PySem.W.Frag) : Sp := fun vs H Q _ => ∃ (p : Addr) (v : V) (m n : Int) (ks : List Kd) (N : Addr → Prop), vs = [.ref p, v, .int m] ∧ PoolAt H p N ∧ SpecAt K H v n ks ∧ 0 ≤ m ∧ m ≤ 1000 ∧ 1 ≤ ks.length ∧ ks.length ≤ 1000 ∧
  ∀ H' a js, ExB p H H' → PoolAt H' p N → SqT K H' a (List.map V.int js) → (js.length : Int) ≤ m → (∀ j ∈ js, 0 ≤ j ∧ j < (ks.length : Int)) → Q (.ref a) H'
theorem ints_of_acc {n : Nat} {R : Int → Prop} {acc : List V} (hl : acc.length = n) (h : ∀ (i : Nat) y, acc[i]? = some y → ∃ r : Int, y = .int r ∧ R r) : ∃ js : List Int, acc = js.map V.int ∧ js.length = n ∧ ∀ j ∈ js, R j := by
  obtain ⟨js, rfl⟩ := all_ints fun y hy => by
    obtain ⟨i, hi⟩ := List.mem_iff_getElem?.mp hy
    obtain ⟨r, e, _⟩ := h i y hi
    exact ⟨r, e⟩
  refine ⟨js, rfl, by rw [← hl, List.length_map], fun j hj => ?_⟩
  obtain ⟨i, hi⟩ := List.mem_iff_getElem?.mp hj
  obtain ⟨r, e, q⟩ := h i (.int j) (by rw [List.getElem?_map, hi]; rfl)
  cases e
  exact q
abbrev s__law_journal : Stmt := top 66
abbrev N__law_journal : List Str := ["_law_pool_here", "_law_spec_here", "_law_most", "_law_turn"]
abbrev p__law_journal : List Str := ["_law_pool_here", "_law_spec_here", "_law_most"]
theorem sc__law_journal : FnScope N__law_journal p__law_journal (defScope s__law_journal) := ⟨rfl, rfl, rfl, by decide +kernel, rfl, by decide +kernel, by decide +kernel⟩
theorem ok__law_journal (D : Dn K mg "_law_journal" s__law_journal p__law_journal) (T : Txt K mg) (c__law_draw : C8.Cal P w K mg base 1 "_law_draw" spDraw []) : C8.Cal P w K mg base 2 "_law_journal" (spLJ K) [] := by
  refine D.ok sc__law_journal (fun vs H Q E h => ?_) (fun f cdv A outer s H vs Q E hr h => ?_)
  · obtain ⟨p, v, m, n, ks, N, rfl, _⟩ := h
    rfl
  obtain ⟨p, v, m, n, ks, N, rfl, hP, ⟨sp, pk, rfl, hs, xs, hk, hp⟩, m0, m1, l0, l1, k⟩ := h
  refine ⟨_, (pss_one (ps_ret (pe_callTy call_tuple_of (by rfl) T.tuple (by decide +kernel) (pa_cons (pe_lc (own := [("_law_turn", 3)]) (g := gName 3) (tt := tYes) rfl sc__law_journal.nd (pi_range1 (by rfl) T.range (pa_cons (C8.pe_c c__law_draw hr (by decide) (by rfl) (pa_cons (pv 0) (pa_cons (pe_op op_add (pv 2) pe_int) pa_nil))) pa_nil)) (blkOk_by (N := N__law_journal) (sc := defScope s__law_journal) (by decide +kernel)) (fun _ _ _ _ _ => (pg_name (i := 3) sc__law_journal.nd rfl (Or.inl rfl))) (fun _ _ _ _ _ => pts_nil) (fun _ _ _ _ _ => (C8.pe_c c__law_draw hr (by decide) (by rfl) (pa_cons (pv 0) (pa_cons (pe_callB (call_len_seqK (K := K)) (by rfl) T.len (by decide +kernel) (pa_cons (pe_ix (ix_tupK (K := K)) (pv 1) pe_int (fun _ _ => rfl)) pa_nil)) pa_nil))))) pa_nil)))), ?_⟩
  refine ⟨_, rfl, _, rfl, _, _, rfl, rfl, p, m + 1, N, rfl, hP, by omega, by omega, fun H1 r e1 hP1 r0 r1 => ?_⟩
  have hs1 := exl_t (hP.exl e1) hs
  have hk1 := exl_t (hP.exl e1) hk
  refine ⟨r, rfl, by omega, by omega, fun D hD => lc_draw hP1 hD walk_range yfn_ex (fun _ => rfl) (fun _ _ => trivial) (by omega) (fun i y _ => ∃ j : Int, y = .int j ∧ (0 ≤ j ∧ j < (ks.length : Int))) (fun _ _ _ _ _ h => h) ?_ ?_⟩
  · rintro i v H2 H3 hi e2 ⟨rfl, rfl⟩ hP2 Q' q
    have lx := hP1.exl e2
    refine ⟨_, rfl, _, rfl, sp, _, 1, .ref pk, rfl, rfl, exl_t lx hs1, atI_nat (j := 1) rfl, pk, _, rfl, .inr (exl_t lx hk1), p, _, _, rfl, hP2, ?_, ?_, fun H4 j e4 hP4 j0 j1 => q _ _ e4 hP4 ⟨j, rfl, j0, ?_⟩⟩
    · rw [pair_len hp]; omega
    · rw [pair_len hp]; omega
    · rw [pair_len hp] at j1; exact j1
  · intro H2 acc e2 hP2 hA hl hR
    obtain ⟨js, rfl, hjl, hjs⟩ := ints_of_acc hl hR
    refine ⟨D, _, rfl, .inl ⟨SqL.of hA, fun l hl => k _ l js ((e1.trans e2).trans (.of (Ex.new hl))) (hP2.keep (Ex.new hl)) (SqT.of upd_same) (by omega) hjs⟩⟩
end
end K28
/-! # The law's reads and mixings -/
namespace K28
open PySem PySem.Spec PyProof.Rows L2
open Evl (Ex ex_l ex_t)
section
variable {P : Program} {w : World} {K : PySem.W.Frag} {mg : Str → Option Value} {base : Heap} {d : Ad}
def spReads (K : PySem.W.Frag) : Sp := fun vs H Q _ => ∃ (p : Addr) (m mo : Int) (N : Addr → Prop), vs = [.ref p, .int m, .int mo] ∧ PoolAt H p N ∧ 1 ≤ m ∧ m ≤ 1000 ∧ 0 ≤ mo ∧ mo ≤ 30 ∧
  ∀ H' a (ns : List Int), ExB p H H' → PoolAt H' p N → SqT K H' a (ns.map V.int) → ns.Pairwise (· < ·) → (∀ k ∈ ns, 0 ≤ k ∧ k < m) → (ns.length : Int) ≤ mo → Q (.ref a) H'
abbrev s__law_reads : Stmt := top 57
abbrev N__law_reads : List Str := ["_law_pool_here", "_law_many", "_law_most", "_law_turn"]
abbrev p__law_reads : List Str := ["_law_pool_here", "_law_many", "_law_most"]
theorem sc__law_reads : FnScope N__law_reads p__law_reads (defScope s__law_reads) := ⟨rfl, rfl, rfl, by decide +kernel, rfl, by decide +kernel, by decide +kernel⟩
theorem ok__law_reads (D : Dn K mg "_law_reads" s__law_reads p__law_reads) (T : Txt K mg) (c__law_draw : C8.Cal P w K mg base 1 "_law_draw" spDraw []) : C8.Cal P w K mg base 2 "_law_reads" (spReads K) [] := by
  refine D.ok sc__law_reads (fun vs H Q E h => ?_) (fun f cdv A outer s H vs Q E hr h => ?_)
  · obtain ⟨p, m, mo, N, rfl, _⟩ := h
    rfl
  obtain ⟨p, m, mo, N, rfl, hP, m0, m1, o0, o1, k⟩ := h
  refine ⟨_, (pss_one (ps_ret (pe_callTy call_tuple_of (by rfl) T.tuple (by decide +kernel) (pa_cons (pe_callB (cr_sortedSet rfl) (by rfl) T.sorted (by decide +kernel) (pa_cons (pe_callTy (cr_setL rfl) (by rfl) T.set (by decide +kernel) (pa_cons (pe_lc (own := [("_law_turn", 3)]) (g := gName 3) (tt := tYes) rfl sc__law_reads.nd (pi_range1 (by rfl) T.range (pa_cons (C8.pe_c c__law_draw hr (by decide) (by rfl) (pa_cons (pv 0) (pa_cons (pe_op op_add (pv 2) pe_int) pa_nil))) pa_nil)) (blkOk_by (N := N__law_reads) (sc := defScope s__law_reads) (by decide +kernel)) (fun _ _ _ _ _ => (pg_name (i := 3) sc__law_reads.nd rfl (Or.inl rfl))) (fun _ _ _ _ _ => pts_nil) (fun _ _ _ _ _ => (C8.pe_c c__law_draw hr (by decide) (by rfl) (pa_cons (pv 0) (pa_cons (pv 1) pa_nil))))) pa_nil)) pa_nil)) pa_nil)))), ?_⟩
  refine ⟨_, rfl, _, rfl, _, _, rfl, rfl, p, mo + 1, N, rfl, hP, by omega, by omega, fun H1 r e1 hP1 r0 r1 => ?_⟩
  refine ⟨r, rfl, by omega, by omega, fun D hD => lc_draw hP1 hD walk_range yfn_ex (fun _ => rfl) (fun _ _ => trivial) (by omega) (fun i y _ => ∃ j : Int, y = .int j ∧ (0 ≤ j ∧ j < m)) (fun _ _ _ _ _ h => h) ?_ ?_⟩
  · rintro i v H2 H3 hi e2 ⟨rfl, rfl⟩ hP2 Q' q
    exact ⟨_, rfl, _, rfl, p, m, _, rfl, hP2, m0, by omega, fun H4 j e4 hP4 j0 j1 => q _ _ e4 hP4 ⟨j, rfl, j0, j1⟩⟩
  · intro H2 acc e2 hP2 hA hl hR
    obtain ⟨js, rfl, hjl, hjs⟩ := ints_of_acc hl hR
    refine ⟨D, js, rfl, SqL.of hA, by omega, fun q n hq hn => ?_⟩
    have e3 : Ex H2 (upd H2 q (SetO w q (fun j => decide (j ∈ js)) n)) := Ex.new hq
    have r3 : upd H2 q (SetO w q (fun j => decide (j ∈ js)) n) q = some (SetO w q (fun j => decide (j ∈ js)) n) := upd_same
    refine ⟨q, _, n, rfl, r3, by omega, fun ns q2 hs hm hlen hq2 => ?_⟩
    refine ⟨q2, _, rfl, .inl ⟨SqL.of upd_same, fun l hl' => ?_⟩⟩
    have e5 := (e3.trans (Ex.new (o := .lst (ns.map V.int)) hq2)).trans (Ex.new (o := .tup (ns.map V.int)) hl')
    exact k _ l ns ((e1.trans e2).trans (.of e5)) (hP2.keep e5) (SqT.of upd_same) hs (fun j hj => hjs j (of_decide_eq_true ((hm j).mp hj))) (by omega)
def spMixed (K : PySem.W.Frag) : Sp := fun vs H Q _ => ∃ (p a : Addr) (is : List Int) (N : Addr → Prop), vs = [.ref p, .ref a] ∧ PoolAt H p N ∧ SqL K H a (is.map V.int) ∧ a ≠ p ∧ is.length ≤ 1000 ∧
  ∀ H' b (ys : List Int), ExB p H H' → PoolAt H' p N → H' b = some (.lst (ys.map V.int)) → ys.length = is.length → (∀ y ∈ ys, y ∈ is) → Q (.ref b) H'
abbrev s__law_mixed : Stmt := top 56
abbrev N__law_mixed : List Str := ["_law_pool_here", "_law_things", "_law_left", "_law_turn"]
abbrev p__law_mixed : List Str := ["_law_pool_here", "_law_things"]
theorem sc__law_mixed : FnScope N__law_mixed p__law_mixed (defScope s__law_mixed) := ⟨rfl, rfl, rfl, by decide +kernel, rfl, by decide +kernel, by decide +kernel⟩
theorem ok__law_mixed (D : Dn K mg "_law_mixed" s__law_mixed p__law_mixed) (T : Txt K mg) (c__law_draw : C8.Cal P w K mg base 1 "_law_draw" spDraw []) : C8.Cal P w K mg base 2 "_law_mixed" (spMixed K) [] := by
  refine D.ok sc__law_mixed (fun vs H Q E h => ?_) (fun f cdv A outer s H vs Q E hr h => ?_)
  · obtain ⟨p, a, is, N, rfl, _⟩ := h
    rfl
  obtain ⟨p, a, is, N, rfl, hP, hL, na, hn, k⟩ := h
  refine ⟨_, (pss_cons (ps_set (i := 2) sc__law_mixed.nd rfl (Or.inr rfl) (pe_callTy call_list_of (by rfl) T.list (by decide +kernel) (pa_cons (pv 1) pa_nil)))
  (pss_one (ps_ret (pe_lc (own := [("_law_turn", 3)]) (g := gName 3) (tt := tYes) rfl sc__law_mixed.nd (pi_range1 (by rfl) T.range (pa_cons (pe_callB call_len_seq (by rfl) T.len (by decide +kernel) (pa_cons (pv 1) pa_nil)) pa_nil)) (blkOk_by (N := N__law_mixed) (sc := defScope s__law_mixed) (by decide +kernel)) (fun _ _ _ _ _ => (pg_name (i := 3) sc__law_mixed.nd rfl (Or.inl rfl))) (fun _ _ _ _ _ => pts_nil) (fun _ _ _ _ _ => (pe_bmK (K := K) PySem.F.plainAttrs_list PySem.F.slot_list_pop PySem.F.type_list_pop mt_popAt (pv 2) (pa_cons (C8.pe_c c__law_draw hr (by decide) (by rfl) (pa_cons (pv 0) (pa_cons (pe_callB (call_len_seqK (K := K)) (by rfl) T.len (by decide +kernel) (pa_cons (pv 2) pa_nil)) pa_nil))) pa_nil))))))), ?_⟩
  refine ⟨_, rfl, a, _, rfl, .inl hL, fun l hl => ?_⟩
  have e1 : Ex H (upd H l (.lst (is.map V.int))) := Ex.new hl
  have r1 : upd H l (.lst (is.map V.int)) l = some (.lst (is.map V.int)) := upd_same
  have hP1 := hP.new (o := .lst (is.map V.int)) hl
  generalize upd H l (.lst (is.map V.int)) = H1 at e1 r1 hP1 ⊢
  have nl : l ≠ p := hP.ne hl
  refine ⟨_, rfl, a, _, rfl, .inl (ex_l e1 hL), (is.length : Int), by rw [List.length_map], by omega, by omega, fun D hD => ?_⟩
  have nD : D ≠ p := hP1.ne hD
  have nlD : l ≠ D := ne_of_none r1 hD
  have gD : H D = none := fr_back e1 hD
  refine lc_it walk_range (fun i Hc => ExB p H Hc ∧ PoolAt Hc p (fun b => (N b ∨ b = l) ∨ b = D) ∧ (∃ left : List Int, Hc l = some (.lst (left.map V.int)) ∧ left.length + i = is.length ∧ ∀ y ∈ left, y ∈ is) ∧ ∃ ys : List Int, Hc D = some (.lst (ys.map V.int)) ∧ ys.length = i ∧ ∀ y ∈ ys, y ∈ is)
    ⟨(ExB.of e1).updn gD, hP1.new hD, ⟨is, by rw [upd_ne nlD]; exact r1, rfl, fun y h => h⟩, [], upd_same, rfl, fun y h => (by cases h)⟩ (fun _ _ _ _ => trivial) ?_ ?_
  · rintro i v Hc H' hi ⟨e, hP2, ⟨left, hleft, hll, hlm⟩, ys, hD2, hyl, hym⟩ ⟨rfl, rfl⟩
    refine ⟨rfl, yes_of ?_⟩
    have hi' : i < is.length := by omega
    refine ⟨_, rfl, .inl ⟨rfl, _, SqL.of hleft⟩, _, rfl, _, rfl, l, _, rfl, .inl (SqL.of hleft), p, _, _, rfl, hP2, ?_, ?_, fun H4 r e4 hP4 r0 r1' => ?_⟩
    · rw [List.length_map]; omega
    · rw [List.length_map]; omega
    rw [List.length_map] at r1'
    obtain ⟨z, hz⟩ : ∃ z, left[r.toNat]? = some z := ⟨_, List.getElem?_eq_getElem (by omega)⟩
    have hz2 : (left.map V.int)[r.toNat]? = some (.int z) := by rw [List.getElem?_map, hz]; rfl
    have hl4 := e4 _ _ nl hleft
    have hD4 := e4 _ _ nD hD2
    refine ⟨l, _, r, r.toNat, .int z, rfl, rfl, hl4, by omega, by omega, (ixN_seq (ixN_int r0 (by rw [List.length_map]; omega))).1, hz2, ?_⟩
    have hm := List.mem_of_getElem? hz
    refine ⟨ys.map V.int, (upd_ne (Ne.symm nlD)).trans hD4, Nat.lt_of_le_of_lt (by rw [List.length_map]; omega : (ys.map V.int).length ≤ 1000) (by decide), ((e.trans e4).updn hl).updn gD, (hP4.put (.inl (.inr rfl))).put (.inr rfl), ⟨left.eraseIdx r.toNat, ?_, ?_, fun y hy => hlm y (List.mem_of_mem_eraseIdx hy)⟩, ys ++ [z], ?_, ?_, fun y hy => ?_⟩
    · rw [upd_ne nlD, upd_same, L2.erase_mapI]
    · rw [List.length_eraseIdx_of_lt (by omega)]; omega
    · rw [upd_same, List.map_append]; rfl
    · rw [List.length_append, List.length_singleton, hyl]
    · rcases List.mem_append.mp hy with q | q
      · exact hym y q
      · rw [List.mem_singleton.mp q]; exact hlm z hm
  · rintro Hc ⟨e, hP2, _, ys, hD2, hyl, hym⟩
    exact k _ D ys e (hP2.sub fun b hb => .inl (.inl hb)) hD2 (by rw [hyl]; omega) hym
end
end K28
/-! # A table drawn -/
namespace K28
open PySem PySem.Spec PyProof.Rows L2
open Evl (Ex ex_l ex_t)
/-! ### in plain Lean -/
theorem lot_of : ∀ {ns : List Int} {lo hi : Int}, ns.Pairwise (· < ·) → (∀ k ∈ ns, lo ≤ k ∧ k ≤ hi) → isLot lo hi ns = true
  | [], _, _, _, _ => rfl
  | n :: r, lo, hi, hp, hb => by
    obtain ⟨h1, h2⟩ := List.pairwise_cons.mp hp
    have hn := hb n List.mem_cons_self
    rw [isLot, decide_eq_true hn.1, decide_eq_true hn.2, Bool.true_and, Bool.true_and]
    exact lot_of h2 fun k hk => ⟨by have := h1 k hk; omega, (hb k (List.mem_cons_of_mem _ hk)).2⟩
theorem kind_of_bd {n c : Int} {ns : List Int} (h0 : 0 ≤ c) (h1 : c < n) (hp : ns.Pairwise (· < ·)) (hb : ∀ k ∈ ns, 0 ≤ k ∧ k < n) (hl : ns.length ≤ 3) : isKind n (c, ns) = true := by
  unfold isKind
  rw [decide_eq_true h0, decide_eq_true (show c ≤ n - 1 by omega), lot_of hp fun k hk => ⟨(hb k hk).1, by have := (hb k hk).2; omega⟩, decide_eq_true hl]
  rfl
theorem badAt_none {n : Int} : ∀ {ks : List Kd} {prev : Option Kd} {i : Nat}, (∀ k ∈ ks, isKind n k = true) → ks.Pairwise ltKd → (∀ p, prev = some p → ∀ k ∈ ks, ltKd p k) → badAt n prev i ks = none
  | [], _, _, _, _, _ => rfl
  | k :: r, prev, i, hk, hp, hv => by
    obtain ⟨h1, h2⟩ := List.pairwise_cons.mp hp
    have e : leO k prev = false := by
      cases prev with
      | none => rfl
      | some p =>
        show leKd k p = false
        rw [leKd_eq, decide_eq_true (hv p rfl k List.mem_cons_self)]
        rfl
    rw [badAt, if_neg (by rw [hk k List.mem_cons_self, e]; simp)]
    exact badAt_none (fun y hy => hk y (List.mem_cons_of_mem _ hy)) h2 fun p hpk y hy => by cases hpk; exact h1 y hy
theorem table_good {n : Int} {ks : List Kd} (h1 : 1 ≤ n) (h2 : n ≤ 8) (h3 : 1 ≤ ks.length) (h4 : ks.length ≤ 40) (hk : ∀ k ∈ ks, isKind n k = true) (hp : ks.Pairwise ltKd) : tableOut n ks = none := by
  unfold tableOut
  rw [if_neg (fun q => q ⟨h1, h2⟩), if_neg (fun q => q ⟨h3, h4⟩), badAt_none hk hp fun p e => by cases e]
theorem nodup_len {α : Type} [DecidableEq α] : ∀ (l D : List α), l.Nodup → (∀ x ∈ l, x ∈ D) → l.length ≤ D.length
  | [], _, _, _ => Nat.zero_le _
  | x :: l, D, hn, hs => by
    obtain ⟨h1, h2⟩ := List.nodup_cons.mp hn
    have hx : x ∈ D := hs x List.mem_cons_self
    have ih := nodup_len l (D.erase x) h2 fun y hy => (List.mem_erase_of_ne (fun e => h1 (by rw [← e]; exact hy))).2 (hs y (List.mem_cons_of_mem _ hy))
    rw [List.length_erase_of_mem hx] at ih
    have := List.length_pos_of_mem hx
    rw [List.length_cons]
    omega
/-! ### a comprehension with a test, over a tuple of ints -/
section
variable {K : PySem.W.Frag} {a : Addr} {j : Nat} {te : TE} {tt : TT} {vs : List Nat} {σ : L2.St} {H1 : Hp} {D : Addr} {Qd : Hp → Prop}
theorem lc_filt (zs : List Int) (q : Int → Bool) (hD : H1 D = none) (hw : ∀ x, wipe ((wipe σ vs).set j (some x)) vs = wipe σ vs) (hT : SqT K H1 a (zs.map V.int)) (hn : zs.length ≤ 100000)
    (turn : ∀ z H, Ex H1 H → ∀ Q : Bool → Hp → Prop, (q z = false → Q false H) → (q z = true → Q true H) → tt ((wipe σ vs).set j (some (.int z))) H Q) (elt : ∀ z H (Q : VK), Q (.int z) H → te ((wipe σ vs).set j (some (.int z))) H Q)
    (done : ∀ H, Ex H1 H → H D = some (.lst ((zs.filter q).map V.int)) → Qd H) :
    ∃ W : Nat → Nat → Hp → Prop, (∃ m, W 0 m (upd H1 D (.lst []))) ∧ ∀ i m H, W i m H →
      ((Itt K a).stop i H ∧ Qd H) ∨ ((Itt K a).go i H ∧ ∃ Nx : Hp → Prop, (∀ H', Nx H' → ∃ m', m' < m ∧ W (i + 1) m' H') ∧ ∀ x H', (Itt K a).yld i H x H' → gName j x (wipe σ vs) H' fun σ2 H2 => wipe σ2 vs = wipe σ vs ∧ tt σ2 H2 fun b H3 =>
        if b = true then te σ2 H3 fun y H4 => ∃ acc, H4 D = some (.lst acc) ∧ acc.length < sizeLine ∧ Nx (upd H4 D (.lst (acc ++ [y]))) else Nx H3) := by
  refine lc_it (walk_tup (xs := zs.map V.int)) (fun i H => Ex H1 H ∧ H D = some (.lst (((zs.take i).filter q).map V.int))) ⟨ex_upd (Ex.refl H1) hD, upd_same⟩ (fun i H _ p => ex_t p.1 hT) ?_ ?_
  · rintro i x H H' hi ⟨e, hA⟩ ⟨rfl, hx⟩
    obtain ⟨z, hz, rfl⟩ := map_get hx
    refine ⟨hw _, turn z _ e _ (fun hq => ?_) (fun hq => ?_)⟩
    · rw [if_neg Bool.false_ne_true]
      refine ⟨e, ?_⟩
      rw [take_get hz, List.filter_append, List.filter_cons_of_neg (by rw [hq]; exact Bool.false_ne_true), List.filter_nil, List.append_nil]
      exact hA
    · rw [if_pos rfl]
      refine elt z _ _ ⟨_, hA, Nat.lt_of_le_of_lt (Nat.le_trans (by rw [List.length_map]; exact Nat.le_trans (List.length_filter_le ..) (by rw [List.length_take]; omega)) hn) (by decide), ex_upd e hD, ?_⟩
      rw [upd_same, take_get hz, List.filter_append, List.filter_cons_of_pos hq, List.filter_nil, List.map_append]
      rfl
  · rintro H ⟨e, hA⟩
    rw [List.length_map, List.take_length] at hA
    exact done H e hA
end
/-! ### the kinds while they are drawn -/
section
variable {K : PySem.W.Frag}
abbrev refsOf (ps : List (Addr × Kd)) : List V := ps.map fun q => V.ref q.1
structure KdL (K : PySem.W.Frag) (H : Hp) (p : Addr) (N : Addr → Prop) (n : Int) (Hc : Hp) (lk : Addr) (ps : List (Addr × Kd)) : Prop where
  ex : ExB p H Hc
  pool : PoolAt Hc p (fun a => N a ∨ a = lk)
  new : H lk = none
  at_ : Hc lk = some (.lst (refsOf ps))
  kd : ∀ q ∈ ps, KdAt K Hc (.ref q.1) q.2 ∧ isKind n q.2 = true
variable {H Hc Hd : Hp} {p lk : Addr} {N : Addr → Prop} {n : Int} {ps : List (Addr × Kd)}
theorem KdL.ne (k : KdL K H p N n Hc lk ps) : lk ≠ p := by
  obtain ⟨g, s, x, y, gs, ss, h1, h2, h3, n1, n2, hN⟩ := k.pool
  exact (hN lk (.inr rfl)).2.2.1
theorem KdL.grow (k : KdL K H p N n Hc lk ps) (e : Ex Hc Hd) : KdL K H p N n Hd lk ps :=
  ⟨k.ex.trans (.of e), k.pool.keep e, k.new, e _ _ k.at_, fun q hq => ⟨(k.kd q hq).1.mono e, (k.kd q hq).2⟩⟩
theorem KdL.draw (k : KdL K H p N n Hc lk ps) (e : ExB p Hc Hd) (hP : PoolAt Hd p (fun a => N a ∨ a = lk)) : KdL K H p N n Hd lk ps :=
  ⟨k.ex.trans e, hP, k.new, e _ _ k.ne k.at_, fun q hq => ⟨(k.kd q hq).1.monoL (k.pool.exl e), (k.kd q hq).2⟩⟩
theorem KdL.app (k : KdL K H p N n Hc lk ps) {t : Addr} {kd : Kd} (h : KdAt K Hc (.ref t) kd) (ok : isKind n kd = true) : KdL K H p N n (upd Hc lk (.lst (refsOf ps ++ [.ref t]))) lk (ps ++ [(t, kd)]) := by
  have lx : ExL Hc (upd Hc lk (.lst (refsOf ps ++ [.ref t]))) := exl_upd k.at_
  refine ⟨k.ex.updn k.new, k.pool.put (.inr rfl), k.new, by rw [upd_same]; unfold refsOf; rw [List.map_append]; rfl, fun q hq => ?_⟩
  rcases List.mem_append.mp hq with z | z
  · exact ⟨(k.kd q z).1.monoL lx, (k.kd q z).2⟩
  · rw [List.mem_singleton.mp z]; exact ⟨h.monoL lx, ok⟩
/-- a new list of kinds in its place -/
theorem KdL.other (k : KdL K H p N n Hc lk ps) {q : Addr} {rs : List (Addr × Kd)} (hq : Hc q = none) (hr : ∀ r ∈ rs, KdAt K Hc (.ref r.1) r.2 ∧ isKind n r.2 = true) : KdL K H p N n (upd Hc q (.lst (refsOf rs))) q rs := by
  have hH : H q = none := by
    cases e : H q with
    | none => rfl
    | some o =>
      have := k.ex q o (k.pool.ne hq) e
      rw [hq] at this; cases this
  exact ⟨k.ex.updn hH, (k.pool.new hq).sub fun a ha => ha.elim (fun z => .inl (.inl z)) .inr, hH, upd_same, fun r h => ⟨(hr r h).1.mono (Ex.new hq), (hr r h).2⟩⟩
end
section
variable {P : Program} {w : World} {K : PySem.W.Frag} {mg : Str → Option Value} {base : Heap}
def spSpec (K : PySem.W.Frag) : Sp := fun vs H Q _ => ∃ (p : Addr) (mo : Int) (N : Addr → Prop), vs = [.ref p, .int mo] ∧ PoolAt H p N ∧ 1 ≤ mo ∧ mo ≤ 8 ∧
  ∀ H' v n ks, ExB p H H' → PoolAt H' p N → SpecAt K H' v n ks → tableOut n ks = none → ks.length ≤ 17 → Q v H'
theorem ways {r : Int} (h0 : 0 ≤ r) (h1 : r < 5) : ∃ b m : Int, atI [V.int 1, .int 0, .int 2, .int 0, .int 0] r = some (.int b) ∧ atI [V.int 6, .int 3, .int 5, .int 3, .int 1] r = some (.int m) ∧ 1 ≤ m ∧ 0 ≤ b ∧ b + m ≤ 7 ∧ (r = 1 ∨ r = 3 ∨ r = 4 → b + m ≤ 3) := by
  obtain rfl | rfl | rfl | rfl | rfl : r = 0 ∨ r = 1 ∨ r = 2 ∨ r = 3 ∨ r = 4 := by omega
  · exact ⟨1, 6, rfl, rfl, by omega, by omega, by omega, by omega⟩
  · exact ⟨0, 3, rfl, rfl, by omega, by omega, by omega, by omega⟩
  · exact ⟨2, 5, rfl, rfl, by omega, by omega, by omega, by omega⟩
  · exact ⟨0, 3, rfl, rfl, by omega, by omega, by omega, by omega⟩
  · exact ⟨0, 1, rfl, rfl, by omega, by omega, by omega, by omega⟩
theorem lay_nums : ∀ ns : List Int, PyData.canLayAll0 (ns.map .int) = true
  | [] => rfl
  | n :: r => by
    show (PyData.canLay0 (.int n) && PyData.canLayAll0 (r.map .int)) = true
    rw [lay_nums r]; rfl
abbrev dsOf (ps : List (Addr × Kd)) : List PyData := ps.map fun q => kdD q.2
theorem kds_lay : ∀ ps : List (Addr × Kd), PyData.canLayAll0 (ps.map fun q => kdD q.2) = true ∧ PyData.depthAll (ps.map fun q => kdD q.2) ≤ 2
  | [] => ⟨rfl, by decide⟩
  | q :: r => by
    obtain ⟨h1, h2⟩ := kds_lay r
    refine ⟨?_, ?_⟩
    · show (PyData.canLay0 (kdD q.2) && PyData.canLayAll0 (r.map fun q => kdD q.2)) = true
      rw [h1]
      unfold kdD
      simp [PyData.canLay0, PyData.canLayAll0, lay_nums]
    · show max (kdD q.2).depth (PyData.depthAll (r.map fun q => kdD q.2)) ≤ 2
      have := kd_depth q.2
      omega
theorem kds_shaped (ps : List (Addr × Kd)) : SeqAt.shaped (.list (ps.map fun q => kdD q.2)) = true := by
  obtain ⟨h1, h2⟩ := kds_lay ps
  unfold SeqAt.shaped
  rw [Bool.and_eq_true, decide_eq_true_iff]
  refine ⟨h1, ?_⟩
  show PyData.depthAll (ps.map fun q => kdD q.2) + 1 ≤ 64
  omega
theorem in_three (a b c e : Int) : inV (.int a) [.int b, .int c, .int e] = decide (a = b ∨ a = c ∨ a = e) := by
  unfold inV
  simp only [List.any_cons, List.any_nil, Bool.or_false]
  have q : ∀ x y : Int, eqV (.int x) (.int y) = decide (y = x) := fun x y => by
    show (x == y) = _
    rw [Bool.eq_iff_iff, beq_iff_eq, decide_eq_true_iff]
    exact eq_comm
  rw [q, q, q]
  by_cases h1 : a = b <;> by_cases h2 : a = c <;> by_cases h3 : a = e <;> simp [h1, h2, h3]
theorem pool_ne_ints {H : Hp} {p b : Addr} {N : Addr → Prop} {ys : List Int} (hP : PoolAt H p N) (hb : H b = some (.lst (ys.map V.int))) : b ≠ p := by
  rintro rfl
  obtain ⟨g, s, x, y, gs, ss, h1, _⟩ := hP
  rw [h1] at hb
  cases ys with
  | nil => cases hb
  | cons z zs => rw [List.map_cons] at hb; cases hb
abbrev s__law_spec : Stmt := top 58
abbrev N__law_spec : List Str := ["_law_pool_here", "_law_most", "_law_cells", "_law_way", "_law_kinds", "_law_turn", "_law_cell", "_law_reads_here", "_law_line_here", "_law_at", "_law_one"]
abbrev p__law_spec : List Str := ["_law_pool_here", "_law_most"]
theorem sc__law_spec : FnScope N__law_spec p__law_spec (defScope s__law_spec) := ⟨rfl, rfl, rfl, by decide +kernel, rfl, by decide +kernel, by decide +kernel⟩
theorem ok__law_spec (D : Dn K mg "_law_spec" s__law_spec p__law_spec) (T : Txt K mg) (c__law_draw : C8.Cal P w K mg base 1 "_law_draw" spDraw []) (c__law_reads : C8.Cal P w K mg base 2 "_law_reads" (spReads K) []) (c__law_mixed : C8.Cal P w K mg base 2 "_law_mixed" (spMixed K) []) :
    C8.Cal P w K mg base 3 "_law_spec" (spSpec K) [] := by
  refine D.ok sc__law_spec (fun vs H Q E h => ?_) (fun f cdv A outer s H vs Q E hr h => ?_)
  · obtain ⟨p, mo, N, rfl, _⟩ := h
    rfl
  obtain ⟨p, mo, N, rfl, hP, m0, m1, k⟩ := h
  refine ⟨_, (pss_cons (ps_set (i := 2) sc__law_spec.nd rfl (Or.inl rfl) (pe_op op_add pe_int (C8.pe_c c__law_draw hr (by decide) (by rfl) (pa_cons (pv 0) (pa_cons (pv 1) pa_nil)))))
  (pss_cons (ps_set (i := 3) sc__law_spec.nd rfl (Or.inr rfl) (C8.pe_c c__law_draw hr (by decide) (by rfl) (pa_cons (pv 0) (pa_cons pe_int pa_nil))))
  (pss_cons (ps_set (i := 4) sc__law_spec.nd rfl (Or.inl rfl) (pe_lst pa_nil))
  (pss_cons (ps_for PassesOwn.never rfl (pi_range1 (by rfl) T.range (pa_cons (pe_op op_add (pe_ix ix_list (pe_lst (pa_cons pe_int (pa_cons pe_int (pa_cons pe_int (pa_cons pe_int (pa_cons pe_int pa_nil)))))) (pv 3) (fun _ _ => rfl)) (C8.pe_c c__law_draw hr (by decide) (by rfl) (pa_cons (pv 0) (pa_cons (pe_ix ix_list (pe_lst (pa_cons pe_int (pa_cons pe_int (pa_cons pe_int (pa_cons pe_int (pa_cons pe_int pa_nil)))))) (pv 3) (fun _ _ => rfl)) pa_nil)))) pa_nil)) (pg_name (i := 5) sc__law_spec.nd rfl (Or.inl rfl))
  (pss_cons (ps_set (i := 6) sc__law_spec.nd rfl (Or.inr rfl) (C8.pe_c c__law_draw hr (by decide) (by rfl) (pa_cons (pv 0) (pa_cons (pv 2) pa_nil))))
  (pss_cons (ps_set (i := 7) sc__law_spec.nd rfl (Or.inl rfl) (C8.pe_c c__law_reads hr (by decide) (by rfl) (pa_cons (pv 0) (pa_cons (pv 2) (pa_cons pe_int pa_nil)))))
  (pss_one (ps_expr (pe_bm PySem.F.plainAttrs_list PySem.F.slot_list_append PySem.F.type_list_append mt_append (pv 4) (pa_cons (pe_tup (pa_cons (pv 6) (pa_cons (pe_callTy call_tuple_of (by rfl) T.tuple (by decide +kernel) (pa_cons (pe_lc (own := [("_law_one", 10)]) (g := gName 10) rfl sc__law_spec.nd (pi_tup (pv 7)) (blkOk_by (N := N__law_spec) (sc := defScope s__law_spec) (by decide +kernel)) (fun _ _ _ _ _ => (pg_name (i := 10) sc__law_spec.nd rfl (Or.inl rfl))) (fun _ _ _ _ _ => (pts_one (PW.pt (pw_or (pt_cmpR op_ne (pv 3) pe_int (nomark _)) (pw_or1 (pt_cmpR op_le (pv 10) (pv 6) (nomark _))))))) (fun _ _ _ _ _ => (pv 10))) pa_nil)) pa_nil))) pa_nil)))))))
  (pss_cons (ps_if (PW.pt (pw_and (pt_cmpR op_in_seq (pv 3) (pe_tup (pa_cons pe_int (pa_cons pe_int (pa_cons pe_int pa_nil)))) (by rfl)) (pw_and1 (pt_cmpR op_gt (pv 2) pe_int (nomark _))))) (pss_cons (ps_set (i := 8) sc__law_spec.nd rfl (Or.inl rfl) (pe_slice sl_list (C8.pe_c c__law_mixed hr (by decide) (by rfl) (pa_cons (pv 0) (pa_cons (pe_listRg rfl (by rfl) T.list (prg_1 (by rfl) T.range (pv 2))) pa_nil))) po_none (po_some (pe_op op_add pe_int (C8.pe_c c__law_draw hr (by decide) (by rfl) (pa_cons (pv 0) (pa_cons (pe_op op_sub (pv 2) pe_int) pa_nil)))))))
  (pss_cons (ps_for PassesOwn.never rfl (pi_range2 (by rfl) T.range (pa_cons pe_int (pa_cons (pe_callB call_len_seq (by rfl) T.len (by decide +kernel) (pa_cons (pv 8) pa_nil)) pa_nil))) (pg_name (i := 9) sc__law_spec.nd rfl (Or.inl rfl))
  (pss_one (ps_set (i := 4) sc__law_spec.nd rfl (Or.inl rfl) (pe_op op_cat (pv 4) (pe_lst (pa_cons (pe_tup (pa_cons (pe_ix ix_list (pv 8) (pe_op op_sub (pv 9) pe_int) (fun _ _ => rfl)) (pa_cons (pe_tup (pa_cons (pe_ix ix_list (pv 8) (pv 9) (fun _ _ => rfl)) pa_nil)) pa_nil))) (pa_cons (pe_tup (pa_cons (pe_ix ix_list (pv 8) (pv 9) (fun _ _ => rfl)) (pa_cons (pe_tup (pa_cons (pe_ix ix_list (pv 8) (pe_op op_sub (pv 9) pe_int) (fun _ _ => rfl)) pa_nil)) pa_nil))) pa_nil)))))))
  (pss_one (ps_if (pt_cmpR op_eq (pv 3) pe_int (nomark _)) (pss_one (ps_expr (pe_bm PySem.F.plainAttrs_list PySem.F.slot_list_append PySem.F.type_list_append mt_append (pv 4) (pa_cons (pe_tup (pa_cons (pe_ix ix_list (pv 8) pe_int (fun _ _ => rfl)) (pa_cons (pe_tup (pa_cons (pe_ix ix_list (pv 8) (pe_un un_neg pe_int) (fun _ _ => rfl)) pa_nil)) pa_nil))) pa_nil)))) pss_nil)))) pss_nil)
  (pss_one (ps_ret (pe_tup (pa_cons (pv 2) (pa_cons (pe_callTy call_tuple_of (by rfl) T.tuple (by decide +kernel) (pa_cons (pe_callB (cr_sortKd rfl hr.units) (by rfl) T.sorted (by decide +kernel) (pa_cons (pe_callTy (cr_setKd rfl hr.units) (by rfl) T.set (by decide +kernel) (pa_cons (pe_op op_cat (pv 4) (pe_op op_rep (pe_lst (pa_cons (pe_tup (pa_cons pe_int (pa_cons (pe_tup pa_nil) pa_nil))) pa_nil)) (pe_callTy call_int1 (by rfl) T.int (by decide +kernel) (pa_cons (pe_cmpR (op_eqD hr.units) (pv 4) (pe_lst pa_nil) (nomark _)) pa_nil)))) pa_nil)) pa_nil)) pa_nil)) pa_nil)))))))))), ?_⟩
  refine ⟨_, rfl, _, rfl, p, mo, N, rfl, hP, m0, by omega, fun H1 r1 e1 hP1 r10 r11 => ⟨1, r1, rfl, rfl, ?_⟩⟩
  have nn1 : 1 ≤ 1 + r1 := by omega
  have nn8 : 1 + r1 ≤ 8 := by omega
  dsimp only
  generalize 1 + r1 = n at nn1 nn8 ⊢
  refine ⟨_, rfl, p, 5, N, rfl, hP1, by decide, by decide, fun H2 wy e2 hP2 w0 w1 => ?_⟩
  refine ⟨by decide, fun lk hlk => ?_⟩
  have hH : H lk = none := by
    cases e : H lk with
    | none => rfl
    | some o =>
      have := (e1.trans e2) lk o (hP2.ne hlk) e
      rw [hlk] at this; cases this
  have k3 : KdL K H p N n (upd H2 lk (.lst [])) lk [] := ⟨(e1.trans e2).updn hH, hP2.new hlk, hH, upd_same, fun q hq => (by cases hq)⟩
  generalize upd H2 lk (.lst []) = H3 at k3 ⊢
  obtain ⟨b1, mm, hb1, hmm, mm0, b10, bm1, bm2⟩ := ways w0 w1
  refine ⟨show 5 ≤ sizeLine by decide, fun q1 hq1 => ⟨_, rfl, q1, _, wy, .int b1, rfl, rfl, SqL.of upd_same, hb1, _, rfl, show 5 ≤ sizeLine by decide, fun q2 hq2 => ⟨_, rfl, q2, _, wy, .int mm, rfl, rfl, SqL.of upd_same, hmm, ?_⟩⟩⟩
  have k5 := (k3.grow (Ex.new (o := .lst [V.int 1, .int 0, .int 2, .int 0, .int 0]) hq1)).grow (Ex.new (o := .lst [V.int 6, .int 3, .int 5, .int 3, .int 1]) hq2)
  refine ⟨p, mm, _, rfl, k5.pool, mm0, by omega, fun H6 r6 e6 hP6 r60 r61 => ⟨b1, r6, rfl, rfl, b1 + r6, rfl, by omega, by omega, ?_⟩⟩
  have k6 := k5.draw e6 hP6
  refine for_it walk_range (fun i σ Hc => ∃ (ps : List (Addr × Kd)) (y5 y6 y7 : Option V), σ = [some (.ref p), some (.int mo), some (.int n), some (.int wy), some (.ref lk), y5, y6, y7, none, none, none] ∧ KdL K H p N n Hc lk ps ∧ ps.length = i)
    ⟨[], none, none, none, rfl, k6, rfl⟩ (fun _ _ _ _ _ => trivial) ?_ ?_
  · rintro i x σ Hc Hd hi ⟨ps, y5, y6, y7, rfl, kc, hpl⟩ ⟨rfl, rfl⟩
    refine ⟨_, rfl, _, rfl, p, n, _, rfl, kc.pool, nn1, by omega, fun H7 cl e7 hP7 c0 c1 => ?_⟩
    have k7 := kc.draw e7 hP7
    refine ⟨_, rfl, _, rfl, p, n, 3, _, rfl, k7.pool, nn1, by omega, by decide, by decide, fun H8 a zs e8 hP8 hT hasc hbd hlen => ?_⟩
    have k8 := k7.draw e8 hP8
    refine ⟨_, rfl, .inl ⟨rfl, _, SqL.of k8.at_⟩, _, rfl, _, rfl, a, rfl, ⟨_, hT⟩, fun D hD => lc_filt zs (fun z => decide (wy ≠ 2) || decide (z ≤ cl)) hD (fun _ => rfl) hT (by omega) ?_ (fun z H Q q => ⟨_, rfl, q⟩) ?_⟩
    · intro z H9 e9 Q' qf qt
      refine ⟨_, rfl, rfl, _, rfl, ?_⟩
      by_cases cw : wy = 2
      · rw [decide_eq_true (congrArg V.int cw)]
        refine iteF ⟨_, rfl, _, rfl, _, _, rfl, rfl, _, rfl, ?_⟩
        have eq1 : (decide (wy ≠ 2) || decide (z ≤ cl)) = decide (z ≤ cl) := by rw [cw]; rfl
        rw [eq1] at qf qt
        exact bool_two (A := fun b => Q' b H9) qt qf
      · rw [decide_eq_false (fun q => cw (by injection q))]
        refine iteT (qt ?_)
        rw [decide_eq_true cw, Bool.true_or]
    · intro H9 e9 hA
      refine ⟨D, _, rfl, .inl ⟨SqL.of hA, fun l hl => ⟨len2, fun v hv => ?_⟩⟩⟩
      have k9 := (k8.grow e9).grow (Ex.new (o := .tup ((zs.filter fun z => decide (wy ≠ 2) || decide (z ≤ cl)).map V.int)) hl)
      have k10 := k9.grow (Ex.new (o := .tup [V.int cl, .ref l]) hv)
      refine ⟨lk, _, .ref v, rfl, rfl, k10.at_, Nat.lt_of_le_of_lt (by unfold refsOf; rw [List.length_map]; omega : (refsOf ps).length ≤ 100000) (by decide), ?_⟩
      have hkd : KdAt K (upd (upd H9 l (.tup ((zs.filter fun z => decide (wy ≠ 2) || decide (z ≤ cl)).map V.int))) v (.tup [V.int cl, .ref l])) (.ref v) (cl, zs.filter fun z => decide (wy ≠ 2) || decide (z ≤ cl)) :=
        ⟨v, l, rfl, SqT.of upd_same, SqT.of (by rw [upd_ne (ne_of_none upd_same hv), upd_same])⟩
      refine ⟨_, _, _, _, rfl, k10.app hkd (kind_of_bd c0 c1 (hasc.filter _) (fun k hk => hbd k (List.mem_filter.mp hk).1) (Nat.le_trans (List.length_filter_le ..) (by omega))), ?_⟩
      rw [List.length_append, List.length_singleton, hpl]
  · rintro σ Hc ⟨ps, y5, y6, y7, rfl, kc, hpl⟩
    have hpl1 : ps.length ≤ 6 := by omega
    dsimp only
    refine (show ∀ R : TS, (∀ (Hd : Hp) (lk' : Addr) (ps' : List (Addr × Kd)) (y5 y6 y7 y8 y9 y10 : Option V), KdL K H p N n Hd lk' ps' → ps'.length ≤ 17 → R ?D [some (.ref p), some (.int mo), some (.int n), some (.int wy), some (.ref lk'), y5, y6, y7, y8, y9, y10] Hd) →
      tSeq (tIfS _ _ _) R ?D [some (.ref p), some (.int mo), some (.int n), some (.int wy), some (.ref lk), y5, y6, y7, none, none, none] Hc from fun R rest => ?_) _ (fun Hd lk' ps' y5 y6 y7 y8 y9 y10 kd hps => ?_)
    · refine ⟨_, rfl, len3, fun q hq => ⟨q, _, rfl, .inr (SqT.of upd_same), rfl, rfl, _, rfl, ?_⟩⟩
      have kq := kc.grow (Ex.new (o := .tup [V.int 1, .int 3, .int 4]) hq)
      generalize upd Hc q (.tup [V.int 1, .int 3, .int 4]) = Hq at kq ⊢
      rw [in_three, if_neg Bool.false_ne_true]
      by_cases hw : wy = 1 ∨ wy = 3 ∨ wy = 4
      rotate_left
      · rw [decide_eq_false hw]
        exact iteF (iteF (rest Hq lk ps _ _ _ _ _ _ kq (by omega)))
      rw [decide_eq_true hw]
      refine iteT ⟨_, rfl, _, _, rfl, rfl, _, rfl, ?_⟩
      by_cases hn1 : 1 < n
      rotate_left
      · rw [decide_eq_false hn1]
        exact iteF (rest Hq lk ps _ _ _ _ _ _ kq (by omega))
      rw [decide_eq_true hn1]
      have hpl2 : ps.length ≤ 2 := by have := bm2 hw; omega
      refine iteT ?_
      have erg : rgV 0 n = ((List.range n.toNat).map fun i : Nat => (i : Int)).map V.int := by
        unfold rgV
        rw [Int.sub_zero, List.map_map]
        exact List.map_congr_left fun i _ => by show V.int (0 + (i : Int)) = V.int (i : Int); rw [Int.zero_add]
      refine ⟨_, rfl, _, rfl, n, rfl, ?_, fun qb hqb => ?_⟩
      · exact RgOk.of_le (by omega) (by omega) (by omega) (by omega)
      have kb := kq.grow (Ex.new (o := .lst (rgV 0 n)) hqb)
      refine ⟨p, qb, (List.range n.toNat).map fun i : Nat => (i : Int), _, rfl, kb.pool, by rw [← erg]; exact SqL.of upd_same, kq.pool.ne hqb, by rw [List.length_map, List.length_range]; omega, fun H11 b ys e11 hP11 hb hyl hym => ?_⟩
      have k11 := kb.draw e11 hP11
      rw [List.length_map, List.length_range] at hyl
      have hyb : ∀ y ∈ ys, 0 ≤ y ∧ y < n := fun y hy => by
        obtain ⟨i, hi, rfl⟩ := List.mem_map.mp (hym y hy)
        have := List.mem_range.mp hi
        omega
      refine ⟨_, rfl, _, rfl, _, _, rfl, rfl, p, n - 1, _, rfl, hP11, by omega, by omega, fun H12 r12 e12 hP12 r120 r121 => ⟨2, r12, rfl, rfl, _, rfl, ?_⟩⟩
      have hb12 := e12 _ _ (pool_ne_ints hP11 hb) hb
      have k12 := k11.draw e12 hP12
      refine ⟨b, _, rfl, SqL.of hb12, fun c hc => ?_⟩
      have ec : cutV (ys.map V.int) none (some (2 + r12)) = (ys.take (2 + r12.toNat)).map V.int := by
        rw [show (2 : Int) + r12 = ((2 + r12.toNat : Nat) : Int) by omega, cut_to, List.map_take]
      obtain ⟨zs, hzs⟩ : ∃ zs, zs = ys.take (2 + r12.toNat) := ⟨_, rfl⟩
      have hzl : zs.length = 2 + r12.toNat := by rw [hzs, List.length_take]; omega
      have hzb : ∀ z ∈ zs, 0 ≤ z ∧ z < n := fun z hz => hyb z (by rw [hzs] at hz; exact List.mem_of_mem_take hz)
      rw [ec, ← hzs]
      have k13 := k12.grow (Ex.new (o := .lst (zs.map V.int)) hc)
      have c13 : upd H12 c (.lst (zs.map V.int)) c = some (.lst (zs.map V.int)) := upd_same
      generalize upd H12 c (.lst (zs.map V.int)) = H13 at k13 c13 ⊢
      refine ⟨_, rfl, c, _, rfl, .inl (SqL.of c13), ?_⟩
      rw [List.length_map]
      have one_ok : ∀ {z z' : Int}, z ∈ zs → z' ∈ zs → isKind n (z, [z']) = true := fun {z z'} h h' => kind_of_bd (hzb z h).1 (hzb z h).2 (List.pairwise_singleton _ _) (fun k hk => by rw [List.mem_singleton.mp hk]; exact hzb z' h') (show 1 ≤ 3 by decide)
      refine ⟨1, (zs.length : Int), rfl, ⟨by decide, by decide, by omega, by omega⟩, for_it walk_range (fun i σ Hc => ∃ (lk : Addr) (ps : List (Addr × Kd)) (y9 : Option V), σ = [some (.ref p), some (.int mo), some (.int n), some (.int wy), some (.ref lk), y5, y6, y7, some (.ref c), y9, none] ∧ KdL K H p N n Hc lk ps ∧ Hc c = some (.lst (zs.map V.int)) ∧ ps.length ≤ 2 + 2 * i)
        ⟨lk, ps, none, rfl, k13, c13, by omega⟩ (fun _ _ _ _ _ => trivial) ?_ ?_⟩
      · rintro i x σ Hq0 Hc2 hi ⟨lk2, ps2, y9, rfl, kc2, hcc, hp2⟩ ⟨rfl, rfl⟩
        have hi1 : i + 1 < zs.length := by omega
        obtain ⟨z0, hz0⟩ : ∃ z, zs[i]? = some z := ⟨_, List.getElem?_eq_getElem (by omega)⟩
        obtain ⟨z1, hz1⟩ : ∃ z, zs[i + 1]? = some z := ⟨_, List.getElem?_eq_getElem (by omega)⟩
        have m0' := List.mem_of_getElem? hz0
        have m1' := List.mem_of_getElem? hz1
        have a0 : atI (zs.map V.int) (1 + (i : Int) - 1) = some (.int z0) := at_int (by omega) (by rw [show (1 + (i : Int) - 1).toNat = i by omega, List.getElem?_map, hz0]; rfl)
        have a1 : atI (zs.map V.int) (1 + (i : Int)) = some (.int z1) := at_int (by omega) (by rw [show (1 + (i : Int)).toNat = i + 1 by omega, List.getElem?_map, hz1]; rfl)
        refine ⟨_, rfl, _, rfl, _, rfl, _, _, rfl, rfl, c, _, _, .int z0, rfl, rfl, SqL.of hcc, a0, _, rfl, _, rfl, c, _, _, .int z1, rfl, rfl, SqL.of hcc, a1, len1, fun t1 ht1 => ⟨len2, fun u1 hu1 => ?_⟩⟩
        have x1 : Ex Hc2 (upd (upd Hc2 t1 (.tup [V.int z1])) u1 (.tup [V.int z0, .ref t1])) := (Ex.new ht1).trans (Ex.new hu1)
        have kd1 : KdAt K (upd (upd Hc2 t1 (.tup [V.int z1])) u1 (.tup [V.int z0, .ref t1])) (.ref u1) (z0, [z1]) := ⟨u1, t1, rfl, SqT.of upd_same, SqT.of (by rw [upd_ne (ne_of_none upd_same hu1), upd_same]; rfl)⟩
        generalize upd (upd Hc2 t1 (.tup [V.int z1])) u1 (.tup [V.int z0, .ref t1]) = Hx at x1 kd1 ⊢
        refine ⟨_, rfl, _, rfl, c, _, _, .int z1, rfl, rfl, SqL.of (x1 _ _ hcc), a1, _, rfl, _, rfl, _, _, rfl, rfl, c, _, _, .int z0, rfl, rfl, SqL.of (x1 _ _ hcc), a0, len1, fun t2 ht2 => ⟨len2, fun u2 hu2 => ?_⟩⟩
        have x2 : Ex Hx (upd (upd Hx t2 (.tup [V.int z0])) u2 (.tup [V.int z1, .ref t2])) := (Ex.new ht2).trans (Ex.new hu2)
        have kd2 : KdAt K (upd (upd Hx t2 (.tup [V.int z0])) u2 (.tup [V.int z1, .ref t2])) (.ref u2) (z1, [z0]) := ⟨u2, t2, rfl, SqT.of upd_same, SqT.of (by rw [upd_ne (ne_of_none upd_same hu2), upd_same]; rfl)⟩
        generalize upd (upd Hx t2 (.tup [V.int z0])) u2 (.tup [V.int z1, .ref t2]) = Hy at x2 kd2 ⊢
        refine ⟨len2, fun q3 hq3 => ?_⟩
        have x3 : Ex Hy (upd Hy q3 (.lst [V.ref u1, .ref u2])) := Ex.new hq3
        have r3 : upd Hy q3 (.lst [V.ref u1, .ref u2]) q3 = some (.lst [V.ref u1, .ref u2]) := upd_same
        generalize upd Hy q3 (.lst [V.ref u1, .ref u2]) = Hz at x3 r3 ⊢
        have kz := ((kc2.grow x1).grow x2).grow x3
        refine ⟨lk2, q3, _, _, rfl, rfl, kz.at_, r3, Nat.le_trans (by unfold refsOf; rw [List.length_map]; show ps2.length + 2 ≤ 1000; omega) (by decide), fun q4 hq4 => ?_⟩
        have er : refsOf ps2 ++ [V.ref u1, .ref u2] = refsOf (ps2 ++ [(u1, (z0, [z1])), (u2, (z1, [z0]))]) := by
          unfold refsOf
          rw [List.map_append]
          rfl
        rw [er]
        refine ⟨q4, _, _, rfl, kz.other hq4 fun r hr => ?_, ?_, ?_⟩
        · rcases List.mem_append.mp hr with z | z
          · exact kz.kd r z
          · rcases List.mem_cons.mp z with z | z
            · rw [z]; exact ⟨kd1.mono (x2.trans x3), one_ok m0' m1'⟩
            · rw [List.mem_singleton.mp z]; exact ⟨kd2.mono x3, one_ok m1' m0'⟩
        · exact (Ex.new hq4) _ _ (((x1.trans x2).trans x3) _ _ hcc)
        · rw [List.length_append]
          show ps2.length + 2 ≤ _
          omega
      · rintro σ Hc2 ⟨lk2, ps2, y9, rfl, kc2, hcc, hp2⟩
        have hp3 : ps2.length ≤ 16 := by omega
        refine ⟨_, rfl, rfl, _, rfl, ?_⟩
        refine ite2 (fun _ => ?_) (fun _ => rest Hc2 lk2 ps2 _ _ _ _ _ _ kc2 (by omega))
        obtain ⟨z0, hz0⟩ : ∃ z, zs[0]? = some z := ⟨_, List.getElem?_eq_getElem (by omega)⟩
        obtain ⟨z1, hz1⟩ : ∃ z, zs.getLast? = some z := by
          cases e : zs.getLast? with
          | none =>
            have := List.getLast?_eq_none_iff.mp e
            rw [this, List.length_nil] at hzl
            omega
          | some z => exact ⟨z, rfl⟩
        have a0 : atI (zs.map V.int) 0 = some (.int z0) := atI_nat (j := 0) (by rw [List.getElem?_map, hz0]; rfl)
        have a1 : atI (zs.map V.int) (-1) = some (.int z1) := at_last (by rw [List.getLast?_map, hz1]; rfl)
        refine ⟨_, rfl, .inl ⟨rfl, _, SqL.of kc2.at_⟩, _, rfl, c, _, _, .int z0, rfl, rfl, SqL.of hcc, a0, _, rfl, 1, rfl, c, _, _, .int z1, rfl, rfl, SqL.of hcc, a1, len1, fun t1 ht1 => ⟨len2, fun u1 hu1 => ?_⟩⟩
        have kx := (kc2.grow (Ex.new (o := .tup [V.int z1]) ht1)).grow (Ex.new (o := .tup [V.int z0, .ref t1]) hu1)
        have kd1 : KdAt K (upd (upd Hc2 t1 (.tup [V.int z1])) u1 (.tup [V.int z0, .ref t1])) (.ref u1) (z0, [z1]) := ⟨u1, t1, rfl, SqT.of upd_same, SqT.of (by rw [upd_ne (ne_of_none upd_same hu1), upd_same]; rfl)⟩
        refine ⟨lk2, _, .ref u1, rfl, rfl, kx.at_, Nat.lt_of_le_of_lt (by unfold refsOf; rw [List.length_map]; omega : (refsOf ps2).length ≤ 1000) (by decide), ?_⟩
        refine rest _ lk2 _ _ _ _ _ _ _ (kx.app kd1 (one_ok (List.mem_of_getElem? hz0) (List.mem_of_getLast? hz1))) ?_
        rw [List.length_append, List.length_singleton]
        omega
    · have kdd : ∀ (Hh : Hp) (rs : List (Addr × Kd)), (∀ q ∈ rs, KdAt K Hh (.ref q.1) q.2) → DpAll K Hh (refsOf rs) (dsOf rs) := by
        intro Hh rs
        induction rs with
        | nil => intro _; exact .nil
        | cons q rs ih => intro h; exact .cons (dp_kd (h q List.mem_cons_self)) (ih fun r hr => h r (List.mem_cons_of_mem _ hr))
      refine ⟨_, rfl, _, rfl, by decide, fun t0 ht0 => ⟨len2, fun u0 hu0 => ⟨len1, fun q1 hq1 => ?_⟩⟩⟩
      have x1 : Ex Hd (upd (upd Hd t0 (.tup [])) u0 (.tup [V.int 0, .ref t0])) := (Ex.new ht0).trans (Ex.new hu0)
      have kd0 : KdAt K (upd (upd Hd t0 (.tup [])) u0 (.tup [V.int 0, .ref t0])) (.ref u0) (0, []) := ⟨u0, t0, rfl, SqT.of upd_same, SqT.of (by rw [upd_ne (ne_of_none upd_same hu0), upd_same]; rfl)⟩
      generalize upd (upd Hd t0 (.tup [])) u0 (.tup [V.int 0, .ref t0]) = Hx at x1 kd0 hq1 ⊢
      have x2 : Ex Hx (upd Hx q1 (.lst [V.ref u0])) := Ex.new hq1
      have r2 : upd Hx q1 (.lst [V.ref u0]) q1 = some (.lst [V.ref u0]) := upd_same
      generalize upd Hx q1 (.lst [V.ref u0]) = Hy at x2 r2 ⊢
      have ky := (kd.grow x1).grow x2
      refine ⟨_, rfl, by decide, fun q2 hq2 => ?_⟩
      have x3 : Ex Hy (upd Hy q2 (.lst [])) := Ex.new hq2
      have r3' : SqL K (upd Hy q2 (.lst [])) q2 [] := SqL.of upd_same
      generalize upd Hy q2 (.lst []) = Hz at x3 r3' ⊢
      have kz := ky.grow x3
      have ee : PyData.eqv (.list (dsOf ps')) (.list []) = ps'.isEmpty := by cases ps' <;> rfl
      refine ⟨.list (dsOf ps'), .list [], .lst (SqL.of kz.at_) (kdd Hz ps' fun q hq => (kz.kd q hq).1), .lst r3' .nil, kds_shaped ps', rfl, .inr ⟨_, rfl, ?_⟩⟩
      rw [ee]
      refine ⟨q1, _, _, rfl, rfl, x3 _ _ r2, ?_, ?_, ?_, fun q3 hq3 => ?_⟩
      · cases ps'.isEmpty <;> decide
      · cases ps'.isEmpty <;> decide
      · cases ps'.isEmpty
        · show 1 * 0 ≤ sizeLine; decide
        · show 1 * 1 ≤ sizeLine; decide
      have er : (List.replicate (if ps'.isEmpty = true then (1 : Int) else 0).toNat [V.ref u0]).flatten = if ps'.isEmpty = true then [V.ref u0] else [] := by cases ps'.isEmpty <;> rfl
      rw [er]
      have kd4 : KdAt K Hz (.ref u0) (0, []) := kd0.mono (x2.trans x3)
      have ef : refsOf ps' ++ (if ps'.isEmpty = true then [V.ref u0] else []) = refsOf (if ps'.isEmpty = true then [(u0, ((0 : Int), ([] : List Int)))] else ps') := by
        cases ps' with
        | nil => rfl
        | cons a r => exact List.append_nil _
      have all2 : ∀ q ∈ (if ps'.isEmpty = true then [(u0, ((0 : Int), ([] : List Int)))] else ps'), KdAt K Hz (.ref q.1) q.2 ∧ isKind n q.2 = true := fun q hq => by
        cases ps' with
        | nil =>
          rw [List.mem_singleton.mp hq]
          exact ⟨kd4, kind_of_bd (by omega) (by omega) List.Pairwise.nil (fun k hk => (by cases hk)) (by decide)⟩
        | cons a r => exact kz.kd q hq
      have len2' : 1 ≤ (if ps'.isEmpty = true then [(u0, ((0 : Int), ([] : List Int)))] else ps').length ∧ (if ps'.isEmpty = true then [(u0, ((0 : Int), ([] : List Int)))] else ps').length ≤ 17 := by
        cases ps' with
        | nil => exact ⟨Nat.le_refl 1, show 1 ≤ 17 by decide⟩
        | cons a r => exact ⟨by show 1 ≤ (a :: r).length; rw [List.length_cons]; omega, hps⟩
      have x4 : Ex Hz (upd Hz q3 (.lst (if ps'.isEmpty = true then [V.ref u0] else []))) := Ex.new hq3
      have r4 : upd Hz q3 (.lst (if ps'.isEmpty = true then [V.ref u0] else [])) q3 = some (.lst (if ps'.isEmpty = true then [V.ref u0] else [])) := upd_same
      generalize upd Hz q3 (.lst (if ps'.isEmpty = true then [V.ref u0] else [])) = Hw at x4 r4 ⊢
      have kw := kz.grow x4
      have hl17 : (refsOf ps').length ≤ 17 := by unfold refsOf; rw [List.length_map]; exact hps
      have hl1 : (if ps'.isEmpty = true then [V.ref u0] else []).length ≤ 1 := by
        cases ps'.isEmpty with
        | true => exact Nat.le_refl 1
        | false => exact Nat.zero_le 1
      refine ⟨lk', q3, _, _, rfl, rfl, kw.at_, r4, Nat.le_trans (by omega) (by decide : 1000 ≤ sizeLine), fun q4 hq4 => ?_⟩
      rw [ef]
      generalize (if ps'.isEmpty = true then [(u0, ((0 : Int), ([] : List Int)))] else ps') = rs at all2 len2' ⊢
      have x5 : Ex Hw (upd Hw q4 (.lst (refsOf rs))) := Ex.new hq4
      have r5 : SqL K (upd Hw q4 (.lst (refsOf rs))) q4 (refsOf rs) := SqL.of upd_same
      generalize upd Hw q4 (.lst (refsOf rs)) = Hv at x5 r5 ⊢
      have kdv : ∀ q ∈ rs, KdAt K Hv (.ref q.1) q.2 := fun q hq => (all2 q hq).1.mono (x4.trans x5)
      refine ⟨q4, rs, rfl, r5, kdv, by omega, fun s5 L hs5 nd sub all => ?_⟩
      have x6 : Ex Hv (upd Hv s5 (SetKO P w s5 L)) := Ex.new hs5
      refine ⟨s5, L, rfl, upd_same, nd, fun q hq => (kdv q (sub q hq)).mono x6, fun s6 L' hs6 perm pw => ?_⟩
      have x7 := x6.trans (Ex.new (o := .lst (refsOf L')) hs6)
      refine ⟨s6, _, rfl, .inl ⟨SqL.of upd_same, fun l hl => ⟨len2, fun v hv => ?_⟩⟩⟩
      have x8 := (x7.trans (Ex.new (o := .tup (refsOf L')) hl)).trans (Ex.new (o := .tup [V.int n, .ref l]) hv)
      have kf := (kw.grow x5).grow x8
      have subL : ∀ q ∈ L', q ∈ rs := fun q hq => sub q (perm.mem_iff.mp hq)
      have hL1 : L'.length ≤ rs.length := nodup_len L' rs (nodup_of_map ((perm.map (·.2)).nodup_iff.mpr nd)) subL
      have hL0 : 1 ≤ L'.length := by
        cases rs with
        | nil => have := len2'.1; rw [List.length_nil] at this; omega
        | cons a r =>
          have h1 := all a List.mem_cons_self
          obtain ⟨q, hq, _⟩ := List.mem_map.mp h1
          exact List.length_pos_of_mem (perm.mem_iff.mpr hq)
      refine k _ _ n (L'.map (·.2)) kf.ex (kf.pool.sub fun a ha => .inl ha) ⟨v, l, rfl, SqT.of upd_same, refsOf L', SqT.of ?_, ?_⟩ (table_good nn1 nn8 (by rw [List.length_map]; exact hL0) (by rw [List.length_map]; omega) (fun kd' hk => ?_) pw) (by rw [List.length_map]; omega)
      · rw [upd_ne (ne_of_none upd_same hv), upd_same]
      · have : ∀ ts : List (Addr × Kd), (∀ q ∈ ts, q ∈ rs) → Paired (KdAt K (upd (upd (upd (upd Hv s5 (SetKO P w s5 L)) s6 (.lst (refsOf L'))) l (.tup (refsOf L'))) v (.tup [V.int n, .ref l]))) (refsOf ts) (ts.map (·.2)) := by
          intro ts
          induction ts with
          | nil => intro _; exact .nil
          | cons q ts ih => intro h; exact .cons ((kdv q (h q List.mem_cons_self)).mono x8) (ih fun r hr => h r (List.mem_cons_of_mem _ hr))
        exact this L' subL
      · obtain ⟨q, hq, rfl⟩ := List.mem_map.mp hk
        exact (all2 q (subL q hq)).2
end
end K28
/-! # The law's story, what is there, layings -/
namespace K28
open PySem PySem.Spec PyProof.Rows L2
open Evl (Ex ex_l ex_t)
/-- rows of ints: lists -/
def LAt (K : PySem.W.Frag) (H : Hp) (v : V) (r : List Int) : Prop := ∃ a : Addr, v = .ref a ∧ SqL K H a (r.map V.int)
/-- the law's story as a pair of lists -/
def StoryAt (K : PySem.W.Frag) (H : Hp) (y : V) (s : List (List Int) × List Int) : Prop := ∃ (a r l : Addr) (xs : List V), y = .ref a ∧ SqT K H a [.ref r, .ref l] ∧ SqL K H r xs ∧ Paired (LAt K H) xs s.1 ∧ SqL K H l (s.2.map V.int)
section
variable {K : PySem.W.Frag} {H H' : Hp}
theorem LAt.mono {v : V} {r : List Int} (e : Ex H H') (h : LAt K H v r) : LAt K H' v r := by
  obtain ⟨a, e1, h1⟩ := h
  exact ⟨a, e1, ex_l e h1⟩
theorem StoryAt.mono {y : V} {s : List (List Int) × List Int} (e : Ex H H') (h : StoryAt K H y s) : StoryAt K H' y s := by
  obtain ⟨a, r, l, xs, e1, h1, h2, h3, h4⟩ := h
  exact ⟨a, r, l, xs, e1, ex_t e h1, ex_l e h2, Paired.mapP h3 fun _ _ q => q.mono e, ex_l e h4⟩
/-- what isn't the pool stays through draws -/
theorem sql_draw {p a : Addr} {N : Addr → Prop} {xs : List V} (hP : PoolAt H p N) (e : ExB p H H') (n : ∀ g s x y, xs ≠ [.ref g, .ref s, .int x, .int y]) (h : SqL K H a xs) : SqL K H' a xs := by
  obtain ⟨g, s, x, y, gs, ss, h1, _⟩ := hP
  rcases h with (h | ⟨o, h⟩) | h
  · refine .inl (.inl (e _ _ (fun z => ?_) h))
    subst z
    rw [h1] at h
    exact n _ _ _ _ (by injection h with h; injection h with h; exact h.symm)
  · refine .inl (.inr ⟨o, e _ _ (fun z => ?_) h⟩)
    subst z
    rw [h1] at h
    cases h
  · exact .inr h
theorem ints_ne (js : List Int) (g s : Addr) (x y : Int) : js.map V.int ≠ [.ref g, .ref s, .int x, .int y] := fun h => by
  cases js with
  | nil => cases h
  | cons j r => rw [List.map_cons] at h; injection h with h; cases h
theorem rows_ne {xs : List V} {rs : List (List Int)} (hp : Paired (LAt K H) xs rs) (g s : Addr) (x y : Int) : xs ≠ [.ref g, .ref s, .int x, .int y] := fun h => by
  subst h
  cases hp with
  | cons _ t => cases t with
    | cons _ t => cases t with
      | cons h _ => obtain ⟨a, e, _⟩ := h; cases e
theorem rows_keep {p q : Addr} (k : ∀ {b : Addr} {o : HO}, b ≠ p → b ≠ q → H b = some o → H' b = some o) : ∀ {xs : List V} {rs : List (List Int)}, Paired (LAt K H) xs rs → (∀ b, V.ref b ∈ xs → b ≠ p ∧ b ≠ q) → Paired (LAt K H') xs rs
  | _, _, .nil, _ => .nil
  | _, _, .cons h t, n => by
    obtain ⟨a, rfl, h⟩ := h
    obtain ⟨n1, n2⟩ := n a List.mem_cons_self
    refine .cons ⟨a, rfl, ?_⟩ (rows_keep k t fun b hb => n b (List.mem_cons_of_mem _ hb))
    rcases h with (h | ⟨o, h⟩) | h
    · exact .inl (.inl (k n1 n2 h))
    · exact .inl (.inr ⟨o, k n1 n2 h⟩)
    · exact .inr h
theorem LAt.draw {p : Addr} {N : Addr → Prop} {v : V} {r : List Int} (hP : PoolAt H p N) (e : ExB p H H') (h : LAt K H v r) : LAt K H' v r := by
  obtain ⟨a, e1, h1⟩ := h
  exact ⟨a, e1, sql_draw hP e (ints_ne r) h1⟩
theorem StoryAt.draw {p : Addr} {N : Addr → Prop} {y : V} {s : List (List Int) × List Int} (hP : PoolAt H p N) (e : ExB p H H') (h : StoryAt K H y s) : StoryAt K H' y s := by
  obtain ⟨a, r, l, xs, e1, h1, h2, h3, h4⟩ := h
  exact ⟨a, r, l, xs, e1, exl_t (hP.exl e) h1, sql_draw hP e (rows_ne h3) h2, Paired.mapP h3 fun _ _ q => q.draw hP e, sql_draw hP e (ints_ne _) h4⟩
end
section
variable {P : Program} {w : World} {K : PySem.W.Frag} {mg : Str → Option Value} {base : Heap}
def spLStory (K : PySem.W.Frag) : Sp := fun vs H Q _ => ∃ (v : V) (j : Addr) (n : Int) (ks : List Kd) (js : List Int), vs = [v, .ref j] ∧ SpecAt K H v n ks ∧ tableOut n ks = none ∧ SqL K H j (js.map V.int) ∧ js.length ≤ 400 ∧ (∀ j ∈ js, 0 ≤ j ∧ j < (ks.length : Int)) ∧
  ∀ H' y, Ex H H' → StoryAt K H' y (story n ks js) → Q y H'
abbrev s__law_story : Stmt := top 60
abbrev N__law_story : List Str := ["_law_spec_here", "_law_journal_here", "_law_cell", "_law_last", "_law_read_here", "_law_deed", "_law_reads_here", "_law_one"]
abbrev p__law_story : List Str := ["_law_spec_here", "_law_journal_here"]
theorem sc__law_story : FnScope N__law_story p__law_story (defScope s__law_story) := ⟨rfl, rfl, rfl, by decide +kernel, rfl, by decide +kernel, by decide +kernel⟩
theorem ok__law_story (D : Dn K mg "_law_story" s__law_story p__law_story) (T : Txt K mg) : C8.Cal P w K mg base 1 "_law_story" (spLStory K) [] := by
  refine D.ok sc__law_story (fun vs H Q E h => ?_) (fun f cdv A outer s H vs Q E hr h => ?_)
  · obtain ⟨v, j, n, ks, js, rfl, _⟩ := h
    rfl
  obtain ⟨v, j, n, ks, js, rfl, ⟨sp, pk, rfl, hs, hks⟩, hok, hJ, hj1, hj2, k⟩ := h
  obtain ⟨hn, hkl, hkd⟩ := table_ok hok
  refine ⟨_, (pss_cons (ps_set (i := 3) sc__law_story.nd rfl (Or.inr rfl) (pe_lc (own := [("_law_cell", 2)]) (g := gName 2) (tt := tYes) rfl sc__law_story.nd (pi_range1 (by rfl) T.range (pa_cons (pe_ix ix_tup (pv 0) pe_int (fun _ _ => rfl)) pa_nil)) (blkOk_by (N := N__law_story) (sc := defScope s__law_story) (by decide +kernel)) (fun _ _ _ _ _ => (pg_name (i := 2) sc__law_story.nd rfl (Or.inl rfl))) (fun _ _ _ _ _ => pts_nil) (fun _ _ _ _ _ => (pe_op op_sub (pe_un un_neg pe_int) (pv 2)))))
  (pss_cons (ps_set (i := 4) sc__law_story.nd rfl (Or.inl rfl) (pe_lst pa_nil))
  (pss_cons (ps_for PassesOwn.never rfl (pi_range1 (by rfl) T.range (pa_cons (pe_callB call_len_seq (by rfl) T.len (by decide +kernel) (pa_cons (pv 1) pa_nil)) pa_nil)) (pg_name (i := 5) sc__law_story.nd rfl (Or.inl rfl))
  (pss_cons (ps_asg (pe_ix ix_tup (pe_ix ix_tup (pv 0) pe_int (fun _ _ => rfl)) (pe_ix ix_list (pv 1) (pv 5) (fun _ _ => rfl)) (fun _ _ => rfl)) (pg_tup (by rfl) (pgs_cons (pg_name (i := 2) sc__law_story.nd rfl (Or.inl rfl)) (pgs_cons (pg_name (i := 6) sc__law_story.nd rfl (Or.inl rfl)) pgs_nil))))
  (pss_cons (ps_expr (pe_bm PySem.F.plainAttrs_list PySem.F.slot_list_append PySem.F.type_list_append mt_append (pv 4) (pa_cons (pe_lc (own := [("_law_one", 7)]) (g := gName 7) (tt := tYes) rfl sc__law_story.nd (pi_tup (pv 6)) (blkOk_by (N := N__law_story) (sc := defScope s__law_story) (by decide +kernel)) (fun _ _ _ _ _ => (pg_name (i := 7) sc__law_story.nd rfl (Or.inl rfl))) (fun _ _ _ _ _ => pts_nil) (fun _ _ _ _ _ => (pe_ix (ix_listK (K := K)) (pv 3) (pv 7) (fun _ _ => rfl)))) pa_nil)))
  (pss_one (ps_asg (pv 5) (pg_sub (pv 3) (pv 2) set_list))))))
  (pss_one (ps_ret (pe_tup (pa_cons (pv 4) (pa_cons (pv 3) pa_nil)))))))), ?_⟩
  refine ⟨_, rfl, sp, _, 0, .int n, rfl, rfl, hs, atI_nat (j := 0) rfl, n, rfl, by omega, by omega, fun p3 hp3 => lc_pure hp3 walk_range yfn_ex (fun _ => rfl) (fun _ _ => trivial) (by omega) (fun i y _ => y = .int (-1 - (i : Int))) (fun _ _ _ _ _ h => h) ?_ ?_⟩
  · rintro i v H1 H2 hi e1 ⟨rfl, rfl⟩ Q' q
    refine ⟨1, rfl, _, rfl, _, _, rfl, rfl, q _ _ (Ex.refl _) ?_⟩
    show V.int (-1 - (0 + (i : Int))) = _
    rw [Int.zero_add]
  intro H1 acc e1 hA hl hR
  have ea : acc = (fresh n).map V.int := by
    unfold fresh
    rw [List.map_map]
    refine acc_map (by rw [hl, List.length_range]) fun i y h => ?_
    have hi := (List.getElem?_eq_some_iff.mp h).1
    rw [hl] at hi
    exact ⟨i, by rw [List.getElem?_range hi], hR i y h⟩
  rw [ea] at hA
  refine ⟨by decide, fun p2 hp2 => ?_⟩
  have ne23 : p2 ≠ p3 := Ne.symm (ne_of_none hA hp2)
  have e2 : Ex H1 (upd H1 p2 (.lst [])) := Ex.new hp2
  have q2 : upd H1 p2 (.lst []) p2 = some (.lst []) := upd_same
  generalize upd H1 p2 (.lst []) = H2 at e2 q2 ⊢
  have q3 := e2 _ _ hA
  have g2 : H p2 = none := fr_back e1 hp2
  have g3 : H p3 = none := hp3
  refine ⟨_, rfl, j, _, rfl, .inl (ex_l (e1.trans e2) hJ), (js.length : Int), by rw [List.length_map], by omega, by omega, for_it walk_range (fun i σ H' => Ex H H' ∧ (∃ xs : List V, H' p2 = some (.lst xs) ∧ Paired (LAt K H') xs (storyTo n ks js i).1 ∧ (∀ b, V.ref b ∈ xs → b ≠ p2 ∧ b ≠ p3) ∧ H' p3 = some (.lst ((storyTo n ks js i).2.map V.int))) ∧
    ∃ y2 y5 y6 y7 : Option V, σ = [some (.ref sp), some (.ref j), y2, some (.ref p3), some (.ref p2), y5, y6, y7])
    ⟨e1.trans e2, ⟨[], q2, .nil, fun b hb => (by cases hb), q3⟩, none, none, none, none, rfl⟩ (fun _ _ _ _ _ => trivial) ?_ ?_⟩
  · rintro i x σ Hz H5 hi ⟨e5, ⟨xs, r2, hp, hne, r3⟩, y2, y5, y6, y7, rfl⟩ ⟨rfl, rfl⟩
    have hil : i < js.length := by omega
    obtain ⟨m, hjj⟩ : ∃ m, js[i]? = some m := ⟨_, List.getElem?_eq_getElem hil⟩
    obtain ⟨m0, ml⟩ := hj2 m (List.mem_of_getElem? hjj)
    obtain ⟨hs1, hs2⟩ := story_len n ks js i (Nat.le_of_lt hil)
    obtain ⟨xk, hk, hkp⟩ := hks.mono e5
    obtain ⟨kd, hkd'⟩ : ∃ kd, ks[m.toNat]? = some kd := ⟨_, List.getElem?_eq_getElem (by omega)⟩
    obtain ⟨vk, hvk, pa, pr, rfl, ha1, ha2⟩ := pair_get2 hkp hkd'
    obtain ⟨b1, b2, b3⟩ := kind_bd (hkd kd (List.mem_of_getElem? hkd'))
    have hxl : xs.length = i := by rw [pair_len hp]; exact hs1
    -- cell, reads = spec[1][journal[deed]]
    refine ⟨_, rfl, sp, _, 1, .ref pk, rfl, rfl, ex_t e5 hs, atI_nat (j := 1) rfl, _, rfl, _, rfl, j, _, _, .int m, rfl, rfl, ex_l e5 hJ, ?_, pk, xk, m, .ref pa, rfl, rfl, hk, at_int m0 hvk, pa, _, rfl, ha1, rfl, _, _, rfl, _, _, rfl, rfl, ?_⟩
    · show atI (js.map V.int) (0 + (i : Int)) = _
      rw [Int.zero_add]
      exact atI_nat (by rw [List.getElem?_map, hjj]; rfl)
    -- read_here.append([last[one] for one in reads])
    refine ⟨_, rfl, .inl ⟨rfl, xs, SqL.of r2⟩, _, rfl, pr, rfl, ⟨_, ha2⟩, fun D hD => lc_pure hD (walk_tup (xs := kd.2.map V.int)) yat_ex (fun _ => rfl) (fun H' e => ex_t e ha2) (by rw [List.length_map]; omega)
      (fun i' y _ => ∃ c, kd.2[i']? = some c ∧ y = V.int ((storyTo n ks js i).2.getD c.toNat 0)) (fun _ _ _ _ _ h => h) ?_ ?_⟩
    · rintro i' v H8 H9 _ e8 ⟨rfl, hv⟩ Q' q
      obtain ⟨c, hc', rfl⟩ := map_get hv
      obtain ⟨c0, c1⟩ := b2 c (List.mem_of_getElem? hc')
      have hg : (storyTo n ks js i).2[c.toNat]? = some ((storyTo n ks js i).2.getD c.toNat 0) := by
        rw [List.getD_eq_getElem?_getD, List.getElem?_eq_getElem (by omega)]; rfl
      exact ⟨_, rfl, _, rfl, p3, _, c, _, rfl, rfl, SqL.of (e8 _ _ r3), at_int c0 (by rw [List.getElem?_map, hg]; rfl), q _ _ (Ex.refl _) ⟨c, hc', rfl⟩⟩
    · intro H8 acc e8 hA hl hR
      have ea : acc = (kd.2.map fun c => (storyTo n ks js i).2.getD c.toNat 0).map V.int := by
        rw [List.map_map]
        exact acc_map (by rw [hl, List.length_map]) fun i y h => hR i y h
      rw [ea] at hA
      have nD2 : D ≠ p2 := Ne.symm (ne_of_none r2 hD)
      have nD3 : D ≠ p3 := Ne.symm (ne_of_none r3 hD)
      have e58 : Ex H5 H8 := e8
      have r28 := e58 _ _ r2
      have r38 := e58 _ _ r3
      refine ⟨p2, xs, _, rfl, rfl, r28, Nat.lt_of_le_of_lt (by omega : xs.length ≤ 400) (by decide), ?_⟩
      -- last[cell] = deed
      refine ⟨_, rfl, _, rfl, _, rfl, p3, _, kd.1, kd.1.toNat, rfl, rfl, (upd_ne (Ne.symm ne23)).trans r38, ixN_int b1.1 (by rw [List.length_map, hs2]; omega), ?_⟩
      have keep : ∀ {b : Addr} {o : HO}, b ≠ p2 → b ≠ p3 → H8 b = some o → upd (upd H8 p2 (.lst (xs ++ [V.ref D]))) p3 (.lst (((storyTo n ks js i).2.map V.int).set kd.1.toNat (.int (0 + (i : Nat))))) b = some o := fun n2 n3 e => by
        rw [upd_ne n3, upd_ne n2]; exact e
      refine ⟨ex_upd (ex_upd (e5.trans e58) g2) g3, ⟨xs ++ [V.ref D], ?_, ?_, ?_, ?_⟩, _, _, _, _, rfl⟩
      · rw [upd_ne ne23, upd_same]
      · rw [story_next hjj]
        unfold stp
        rw [getD_of hkd']
        exact pair_app (rows_keep keep (Paired.mapP hp fun _ _ h => h.mono e58) hne) (.cons ⟨D, rfl, SqL.of (keep nD2 nD3 hA)⟩ .nil)
      · intro b hb
        rcases List.mem_append.mp hb with z | z
        · exact hne b z
        · have := List.mem_singleton.mp z
          cases this
          exact ⟨nD2, nD3⟩
      · rw [upd_same, story_next hjj]
        unfold stp
        rw [getD_of hkd', hs1, List.map_set]
        show some (HO.lst (List.set _ _ (V.int (0 + (i : Int))))) = _
        rw [Int.zero_add]
  · rintro σ H5 ⟨e5, ⟨xs, r2, hp, hne, r3⟩, y2, y5, y6, y7, rfl⟩
    rw [Int.toNat_natCast, story_all] at hp r3
    exact ⟨_, rfl, _, rfl, len2, fun q hq => k _ _ (e5.trans (Ex.new hq)) ⟨q, p2, p3, xs, rfl, SqT.of upd_same, SqL.of ((Ex.new hq) _ _ r2), Paired.mapP hp fun _ _ h => h.mono (Ex.new hq), SqL.of ((Ex.new hq) _ _ r3)⟩⟩
def spLThere (K : PySem.W.Frag) : Sp := fun vs H Q _ => ∃ (v : V) (p : Addr) (s : List (List Int) × List Int) (held : List Int), vs = [v, .ref p] ∧ StoryAt K H v s ∧ SqT K H p (held.map V.int) ∧ held.length ≤ 1000 ∧ s.1.length ≤ 1000 ∧ (∀ r ∈ s.1, r.length ≤ 1000) ∧ s.2.length ≤ 1000 ∧
  ∀ H', Ex H H' → Q (.bl (allThere s held)) H'
theorem merge_keys : ∀ (held : List Int) (kvs : List (Key × V)) (f : Int → Bool) (n : Nat), kvs.length ≤ n → (∀ k : Int, (valV kvs (.inl k)).isSome = f k) →
    (mergeK kvs (held.map fun m => ((Sum.inl m : Key), V.bl true))).length ≤ n + held.length ∧ ∀ k : Int, (valV (mergeK kvs (held.map fun m => ((Sum.inl m : Key), V.bl true))) (.inl k)).isSome = (f k || decide (k ∈ held))
  | [], kvs, f, n, h1, h2 => ⟨h1, fun k => by show (valV kvs (.inl k)).isSome = _; rw [h2]; simp⟩
  | m :: r, kvs, f, n, h1, h2 => by
    have hl := length_putK kvs (Sum.inl m : Key) (V.bl true)
    obtain ⟨g1, g2⟩ := merge_keys r (putK kvs (.inl m) (.bl true)) (fun k => f k || decide (k = m)) (n + 1) (by omega) fun k => by
      rw [valV_put]
      by_cases c : k = m
      · subst c; simp
      · rw [if_neg (fun z => c (by injection z)), h2]
        simp [c]
    refine ⟨?_, fun k => ?_⟩
    · show (mergeK (putK kvs (.inl m) (.bl true)) (r.map fun m => ((Sum.inl m : Key), V.bl true))).length ≤ _
      rw [List.length_cons]
      omega
    · show (valV (mergeK (putK kvs (.inl m) (.bl true)) (r.map fun m => ((Sum.inl m : Key), V.bl true))) (.inl k)).isSome = _
      rw [g2]
      by_cases c : k = m <;> by_cases c2 : k ∈ r <;> simp [c, c2]
abbrev s__law_is_there : Stmt := top 61
abbrev N__law_is_there : List Str := ["_law_story_here", "_law_held", "_law_found", "_law_deed", "_law_version", "_law_source"]
abbrev p__law_is_there : List Str := ["_law_story_here", "_law_held"]
theorem sc__law_is_there : FnScope N__law_is_there p__law_is_there (defScope s__law_is_there) := ⟨rfl, rfl, rfl, by decide +kernel, rfl, by decide +kernel, by decide +kernel⟩
theorem ok__law_is_there (D : Dn K mg "_law_is_there" s__law_is_there p__law_is_there) (T : Txt K mg) : C8.Cal P w K mg base 1 "_law_is_there" (spLThere K) [] := by
  refine D.ok sc__law_is_there (fun vs H Q E h => ?_) (fun f cdv A outer s H vs Q E hr h => ?_)
  · obtain ⟨v, p, s, held, rfl, _⟩ := h
    rfl
  obtain ⟨v, p, s, held, rfl, ⟨a, r, l, xs, rfl, ha, hr', hp, hl⟩, hP, n1, n2, n3, n4, k⟩ := h
  refine ⟨_, (pss_cons (ps_set (i := 2) sc__law_is_there.nd rfl (Or.inr rfl) (pe_callTy (call_dictP rfl) (by rfl) T.dict (by decide +kernel) (pa_cons (pe_lc (own := [("_law_version", 4)]) (g := gName 4) (tt := tYes) rfl sc__law_is_there.nd (pi_tup (pv 1)) (blkOk_by (N := N__law_is_there) (sc := defScope s__law_is_there) (by decide +kernel)) (fun _ _ _ _ _ => (pg_name (i := 4) sc__law_is_there.nd rfl (Or.inl rfl))) (fun _ _ _ _ _ => pts_nil) (fun _ _ _ _ _ => (pe_tup (pa_cons (pv 4) (pa_cons pe_bl pa_nil))))) pa_nil)))
  (pss_cons (ps_for PassesOwn.never rfl (pi_range1 (by rfl) T.range (pa_cons (pe_callB call_len_seq (by rfl) T.len (by decide +kernel) (pa_cons (pe_ix ix_tup (pv 0) pe_int (fun _ _ => rfl)) pa_nil)) pa_nil)) (pg_name (i := 3) sc__law_is_there.nd rfl (Or.inl rfl))
  (pss_one (ps_if (pt_val (pe_callB (cr_all rfl) (by rfl) T.all (by decide +kernel) (pa_cons (pe_lc (own := [("_law_source", 5)]) (g := gName 5) (tt := tYes) rfl sc__law_is_there.nd (pi_list (pe_ix ix_list (pe_ix ix_tup (pv 0) pe_int (fun _ _ => rfl)) (pv 3) (fun _ _ => rfl))) (blkOk_by (N := N__law_is_there) (sc := defScope s__law_is_there) (by decide +kernel)) (fun _ _ _ _ _ => (pg_name (i := 5) sc__law_is_there.nd rfl (Or.inl rfl))) (fun _ _ _ _ _ => pts_nil) (fun _ _ _ _ _ => (pe_cmp (pc_din (hu_of hr) (pv 5) (pv 2)) rfl))) pa_nil))) (pss_one (ps_dput (hu_of hr) (pv 2) (pv 3) pe_bl rfl)) pss_nil)))
  (pss_one (ps_ret (pe_callB (cr_all rfl) (by rfl) T.all (by decide +kernel) (pa_cons (pe_lc (own := [("_law_version", 4)]) (g := gName 4) (tt := tYes) rfl sc__law_is_there.nd (pi_list (pe_ix ix_tup (pv 0) pe_int (fun _ _ => rfl))) (blkOk_by (N := N__law_is_there) (sc := defScope s__law_is_there) (by decide +kernel)) (fun _ _ _ _ _ => (pg_name (i := 4) sc__law_is_there.nd rfl (Or.inl rfl))) (fun _ _ _ _ _ => pts_nil) (fun _ _ _ _ _ => (pe_cmp (pc_din (hu_of hr) (pv 4) (pv 2)) rfl))) pa_nil)))))), ?_⟩
  -- found = dict([(version, True) for version in held])
  refine ⟨_, rfl, p, rfl, ⟨_, hP⟩, fun L hL => lc_pure hL (walk_tup (xs := held.map V.int)) yat_ex (fun _ => rfl) (fun H' e => ex_t e hP) (by rw [List.length_map]; omega) (fun i y H' => ∃ (m : Int) (b : Addr), held[i]? = some m ∧ y = .ref b ∧ SqT K H' b [.int m, .bl true]) ?_ ?_ ?_⟩
  · rintro i y H2 H3 e ⟨m, b, hm, rfl, hb⟩
    exact ⟨m, b, hm, rfl, exl_t e hb⟩
  · rintro i v H1 H2 _ e1 ⟨rfl, hv⟩ Q' q
    obtain ⟨m, hm, rfl⟩ := map_get hv
    exact ⟨_, rfl, len2, fun b hb => q _ _ (Ex.new hb) ⟨m, b, hm, rfl, SqT.of upd_same⟩⟩
  intro H1 acc e1 hA hl1 hR
  rw [List.length_map] at hl1
  obtain ⟨bs, hbs, hbp⟩ : ∃ bs : List Addr, acc = bs.map V.ref ∧ Paired (fun (b : Addr) (kv : Key × V) => SqT K H1 b [kV kv.1, kv.2]) bs (held.map fun m => ((Sum.inl m : Key), V.bl true)) := by
    have gen : ∀ (acc : List V) (held : List Int), acc.length = held.length → (∀ (i : Nat) y, acc[i]? = some y → ∃ (m : Int) (b : Addr), held[i]? = some m ∧ y = .ref b ∧ SqT K H1 b [.int m, .bl true]) →
        ∃ bs : List Addr, acc = bs.map V.ref ∧ Paired (fun (b : Addr) (kv : Key × V) => SqT K H1 b [kV kv.1, kv.2]) bs (held.map fun m => ((Sum.inl m : Key), V.bl true)) := by
      intro acc
      induction acc with
      | nil =>
        intro held hl _
        cases held with
        | nil => exact ⟨[], rfl, .nil⟩
        | cons m r => simp at hl
      | cons y acc ih =>
        intro held hl h
        cases held with
        | nil => simp at hl
        | cons m0 r =>
          obtain ⟨m, b, hm, rfl, hb⟩ := h 0 y rfl
          have : m0 = m := Option.some.inj hm
          subst this
          obtain ⟨bs, e, hp⟩ := ih r (by simpa using hl) fun i y hy => h (i + 1) y hy
          exact ⟨b :: bs, by rw [e]; rfl, .cons hb hp⟩
    exact gen acc held hl1 hR
  subst hbs
  refine ⟨L, bs, _, rfl, SqL.of hA, hbp, fun D hD => ?_⟩
  have e2 : Ex H1 (upd H1 D (.dK (mergeK [] (held.map fun m => ((Sum.inl m : Key), V.bl true))))) := Ex.new hD
  have hK : Keys (upd H1 D (.dK (mergeK [] (held.map fun m => ((Sum.inl m : Key), V.bl true))))) D (closedTo s.1 held 0) held.length := by
    obtain ⟨g1, g2⟩ := merge_keys held [] (fun _ => false) 0 (Nat.le_refl 0) (fun _ => rfl)
    exact ⟨_, upd_same, by omega, fun k => by rw [g2]; rfl⟩
  have gD : H D = none := fr_back e1 hD
  generalize upd H1 D (.dK (mergeK [] (held.map fun m => ((Sum.inl m : Key), V.bl true)))) = H2 at e2 hK ⊢
  have e02 := e1.trans e2
  refine ⟨_, rfl, a, _, 0, .ref r, rfl, rfl, ex_t e02 ha, atI_nat (j := 0) rfl, r, _, rfl, .inl (ex_l e02 hr'), (xs.length : Int), rfl, by have := pair_len hp; omega, by have := pair_len hp; omega, for_it walk_range (fun i σ H' => Ex H H' ∧ Keys H' D (closedTo s.1 held i) (held.length + i) ∧
      ∃ y1 y2 y3 : Option V, σ = [some (.ref a), some (.ref p), some (.ref D), y1, y2, y3]) ⟨e02, hK, none, none, none, rfl⟩ (fun _ _ _ _ _ => trivial) ?_ ?_⟩
  · rintro i x σ Hz H3 hi ⟨e3, hK3, y1, y2, y3, rfl⟩ ⟨rfl, rfl⟩
    have hil : i < s.1.length := by rw [← pair_len hp]; omega
    obtain ⟨row, hrow⟩ : ∃ row, s.1[i]? = some row := ⟨_, List.getElem?_eq_getElem hil⟩
    obtain ⟨u, hu, b, rfl, hb⟩ := pair_get2 hp hrow
    have hb3 := ex_l e3 hb
    obtain ⟨kvs, q1, q2, q3⟩ := hK3
    have hrl := n3 row (List.mem_of_getElem? hrow)
    refine ⟨_, rfl, a, _, 0, .ref r, rfl, rfl, ex_t e3 ha, atI_nat (j := 0) rfl, _, rfl, r, xs, _, .ref b, rfl, rfl, ex_l e3 hr', ?_, b, rfl, ⟨_, hb3⟩, fun L hL => lc_pure hL (walk_list (xs := row.map V.int)) yat_ex (fun _ => rfl) (fun H' e => ex_l e hb3) (by rw [List.length_map]; omega)
      (fun i' y _ => ∃ c, row[i']? = some c ∧ y = V.bl (closedTo s.1 held i c)) (fun _ _ _ _ _ h => h) ?_ ?_⟩
    · show atI xs (0 + (i : Int)) = _
      rw [Int.zero_add]
      exact atI_nat hu
    · rintro i' v H4 H5 _ e4 ⟨rfl, hv⟩ Q' q
      obtain ⟨c, hc, rfl⟩ := map_get hv
      refine ⟨_, rfl, _, rfl, D, _, rfl, DGet.k (k := .inl c) (e4 _ _ q1), q _ _ (Ex.refl _) ⟨c, hc, ?_⟩⟩
      rw [q3]
    · intro H4 acc e4 hA hl hR
      have ea : acc = (row.map (closedTo s.1 held i)).map V.bl := by
        rw [List.map_map]
        exact acc_map (by rw [hl, List.length_map]) fun i y h => hR i y h
      rw [ea] at hA
      refine ⟨L, _, rfl, SqL.of hA, _, rfl, ?_⟩
      rw [List.all_map]
      have eD : s.1.getD i [] = row := getD_of hrow
      have ei : V.int (0 + (i : Int)) = kV (.inl (i : Int)) := by rw [Int.zero_add]; rfl
      refine ite2 (fun c => ?_) (fun c => ?_)
      · refine ⟨_, rfl, _, rfl, D, upd H4 D (.dK (putK kvs (.inl (i : Int)) (.bl true))), rfl, ?_, ex_upd (e3.trans e4) gD, ?_, _, _, _, rfl⟩
        · show DPut H4 D (V.int (0 + (i : Int))) (.bl true) _
          rw [ei]
          exact DPut.k (k := .inl (i : Int)) (e4 _ _ q1) (Nat.lt_of_le_of_lt (by omega : kvs.length ≤ 2000) (by decide))
        rw [closedTo, if_pos (by rw [eD]; exact c)]
        exact Keys.put q2 q3
      · refine ⟨e3.trans e4, ?_, _, _, _, rfl⟩
        rw [closedTo, if_neg (by rw [eD]; exact c)]
        obtain ⟨kvs', r1, r2, r3⟩ := Keys.mono e4 ⟨kvs, q1, q2, q3⟩
        exact ⟨kvs', r1, by omega, r3⟩
  · rintro σ H3 ⟨e3, hK3, y1, y2, y3, rfl⟩
    rw [Int.toNat_natCast, pair_len hp] at hK3
    obtain ⟨kvs, q1, q2, q3⟩ := hK3
    refine ⟨_, rfl, a, _, 1, .ref l, rfl, rfl, ex_t e3 ha, atI_nat (j := 1) rfl, l, rfl, ⟨_, ex_l e3 hl⟩, fun L hL => lc_pure hL (walk_list (xs := s.2.map V.int)) yat_ex (fun _ => rfl) (fun H' e => ex_l (e3.trans e) hl) (by rw [List.length_map]; omega)
      (fun i' y _ => ∃ c, s.2[i']? = some c ∧ y = V.bl (closedTo s.1 held s.1.length c)) (fun _ _ _ _ _ h => h) ?_ ?_⟩
    · rintro i' v H4 H5 _ e4 ⟨rfl, hv⟩ Q' q
      obtain ⟨c, hc, rfl⟩ := map_get hv
      refine ⟨_, rfl, _, rfl, D, _, rfl, DGet.k (k := .inl c) (e4 _ _ q1), q _ _ (Ex.refl _) ⟨c, hc, ?_⟩⟩
      rw [q3]
    · intro H4 acc e4 hA hl hR
      have ea : acc = (s.2.map (closedTo s.1 held s.1.length)).map V.bl := by
        rw [List.map_map]
        exact acc_map (by rw [hl, List.length_map]) fun i y h => hR i y h
      rw [ea] at hA
      refine ⟨L, _, rfl, SqL.of hA, ?_⟩
      rw [List.all_map]
      exact k _ (e3.trans e4)
end
end K28
/-! # The law's layings and runs -/
namespace K28
open PySem PySem.Spec PyProof.Rows L2
open Evl (Ex ex_l ex_t)
theorem in_one (a b : Int) : inV (.int a) [.int b] = decide (a = b) := by
  unfold inV
  simp only [List.any_cons, List.any_nil, Bool.or_false]
  show (b == a) = _
  rw [Bool.eq_iff_iff, beq_iff_eq, decide_eq_true_iff]
  exact eq_comm
section
variable {P : Program} {w : World} {K : PySem.W.Frag} {mg : Str → Option Value} {base : Heap}
def spLLaid (K : PySem.W.Frag) : Sp := fun vs H Q _ => ∃ (v : V) (p lt : Addr) (s : List (List Int) × List Int) (plates : List Int) (c : Int), vs = [v, .ref p, .ref lt] ∧ StoryAt K H v s ∧ SqT K H p (plates.map V.int) ∧ SqL K H lt [.int c] ∧ plates.length ≤ 1000 ∧ s.2.length = plates.length ∧ 0 ≤ c ∧ c.toNat < plates.length ∧
  ∀ H' a, Ex H H' → SqT K H' a ((laidAt s.2 plates c).map V.int) → Q (.ref a) H'
abbrev s__law_laid : Stmt := top 62
abbrev N__law_laid : List Str := ["_law_story_here", "_law_plates", "_law_lot", "_law_cell"]
abbrev p__law_laid : List Str := ["_law_story_here", "_law_plates", "_law_lot"]
theorem sc__law_laid : FnScope N__law_laid p__law_laid (defScope s__law_laid) := ⟨rfl, rfl, rfl, by decide +kernel, rfl, by decide +kernel, by decide +kernel⟩
theorem ok__law_laid (D : Dn K mg "_law_laid" s__law_laid p__law_laid) (T : Txt K mg) : C8.Cal P w K mg base 1 "_law_laid" (spLLaid K) [] := by
  refine D.ok sc__law_laid (fun vs H Q E h => ?_) (fun f cdv A outer s H vs Q E hr h => ?_)
  · obtain ⟨v, p, lt, s, plates, c, rfl, _⟩ := h
    rfl
  obtain ⟨v, p, lt, s, plates, c, rfl, ⟨a, r, l, xs, rfl, ha, hr', hp, hl⟩, hP, hlt, n1, n2, c0, c1, k⟩ := h
  refine ⟨_, (pss_one (ps_ret (pe_callTy call_tuple_of (by rfl) T.tuple (by decide +kernel) (pa_cons (pe_lc (own := [("_law_cell", 3)]) (g := gName 3) (tt := tYes) rfl sc__law_laid.nd (pi_range1 (by rfl) T.range (pa_cons (pe_callB call_len_seq (by rfl) T.len (by decide +kernel) (pa_cons (pv 1) pa_nil)) pa_nil)) (blkOk_by (N := N__law_laid) (sc := defScope s__law_laid) (by decide +kernel)) (fun _ _ _ _ _ => (pg_name (i := 3) sc__law_laid.nd rfl (Or.inl rfl))) (fun _ _ _ _ _ => pts_nil) (fun _ _ _ _ _ => (pe_ifExp (pt_cmpR (op_in_seqK (K := K)) (pv 3) (pv 2) (by rfl)) (pe_ix (ix_listK (K := K)) (pe_ix (ix_tupK (K := K)) (pv 0) pe_int (fun _ _ => rfl)) (pv 3) (fun _ _ => rfl)) (pe_ix (ix_tupK (K := K)) (pv 1) (pv 3) (fun _ _ => rfl))))) pa_nil)))), ?_⟩
  refine ⟨_, rfl, p, _, rfl, .inr hP, (plates.length : Int), by rw [List.length_map], by omega, by omega, fun D hD => lc_pure hD walk_range yfn_ex (fun _ => rfl) (fun _ _ => trivial) (by omega) (fun i y _ => ∃ z, (laidAt s.2 plates c)[i]? = some z ∧ y = V.int z) (fun _ _ _ _ _ h => h) ?_ ?_⟩
  · rintro i v H1 H2 hi e1 ⟨rfl, rfl⟩ Q' q
    have hi' : i < plates.length := by omega
    obtain ⟨z1, hz1⟩ : ∃ z, s.2[i]? = some z := ⟨_, List.getElem?_eq_getElem (by omega)⟩
    obtain ⟨z2, hz2⟩ : ∃ z, plates[i]? = some z := ⟨_, List.getElem?_eq_getElem (by omega)⟩
    have a1 : atI (s.2.map V.int) (0 + (i : Int)) = some (.int z1) := by rw [Int.zero_add]; exact atI_nat (by rw [List.getElem?_map, hz1]; rfl)
    have a2 : atI (plates.map V.int) (0 + (i : Int)) = some (.int z2) := by rw [Int.zero_add]; exact atI_nat (by rw [List.getElem?_map, hz2]; rfl)
    refine ⟨_, rfl, _, rfl, lt, _, rfl, .inl (ex_l e1 hlt), rfl, rfl, _, rfl, ?_⟩
    rw [in_one, if_neg Bool.false_ne_true]
    by_cases hc : (0 + (i : Int)) = c
    · rw [decide_eq_true hc]
      refine iteT ⟨_, rfl, a, _, 1, .ref l, rfl, rfl, ex_t e1 ha, atI_nat (j := 1) rfl, _, rfl, l, _, _, .int z1, rfl, rfl, ex_l e1 hl, a1, q _ _ (Ex.refl _) ⟨z1, ?_, rfl⟩⟩
      have ec : c.toNat = i := by omega
      unfold laidAt
      rw [ec, getD_of hz1, List.getElem?_set_self hi']
    · rw [decide_eq_false hc]
      refine iteF ⟨_, rfl, _, rfl, p, _, _, .int z2, rfl, rfl, ex_t e1 hP, a2, q _ _ (Ex.refl _) ⟨z2, ?_, rfl⟩⟩
      unfold laidAt
      rw [List.getElem?_set_ne (by omega)]
      exact hz2
  · intro H1 acc e1 hA hl' hR
    have ea : acc = (laidAt s.2 plates c).map V.int := acc_map (by rw [hl', laid_len]; omega) hR
    rw [ea] at hA
    exact ⟨D, _, rfl, .inl ⟨SqL.of hA, fun q hq => k _ q (e1.trans (Ex.new hq)) (SqT.of upd_same)⟩⟩
/-- the law's way of checking a run -/
def lled (n : Int) (ks : List Kd) : List Int × List Int → List Stp → Option (List Int × List Int)
  | t, [] => some t
  | t, s :: r => if isStep n ks.length s = true then (match ledStep n ks t s with
    | some t' => lled n ks t' r
    | none => none) else none
theorem lled_eq (n : Int) (ks : List Kd) : ∀ (ss : List Stp) (t : List Int × List Int), (lled n ks t ss).isSome = (ss.all (isStep n ks.length) && (led n ks t ss).isSome)
  | [], t => rfl
  | s :: r, t => by
    rw [lled, led, List.all_cons]
    cases h1 : isStep n ks.length s with
    | false => rw [if_neg Bool.false_ne_true]; rfl
    | true =>
      rw [if_pos rfl, Bool.true_and]
      cases h2 : ledStep n ks t s with
      | none => simp
      | some t' => exact lled_eq n ks r t'
theorem isRun_eq {n : Int} {ks : List Kd} {ss : List Stp} (h : ss.length ≤ 400) : isRun n ks ss = (lled n ks ([], fresh n) ss).isSome := by
  unfold isRun
  rw [decide_eq_true h, Bool.true_and, lled_eq]
def spLRunDue (K : PySem.W.Frag) : Sp := fun vs H Q _ => ∃ (v : V) (a : Addr) (n : Int) (ks : List Kd) (xs : List V) (ss : List Stp), vs = [v, .ref a] ∧ SpecAt K H v n ks ∧ tableOut n ks = none ∧ SqT K H a xs ∧ Paired (StepAt K H) xs ss ∧
  (isRun n ks ss = false → ∀ H', Ex H H' → Q .non H') ∧ (isRun n ks ss = true → ∀ H' b, Ex H H' → Q (.ref b) H')
abbrev s__law_run_due : Stmt := top 65
abbrev N__law_run_due : List Str := ["_law_spec_here", "_law_thing", "_law_journal_here", "_law_plates", "_law_step", "_law_story_here"]
abbrev p__law_run_due : List Str := ["_law_spec_here", "_law_thing"]
theorem sc__law_run_due : FnScope N__law_run_due p__law_run_due (defScope s__law_run_due) := ⟨rfl, rfl, rfl, by decide +kernel, rfl, by decide +kernel, by decide +kernel⟩
theorem ok__law_run_due (D : Dn K mg "_law_run_due" s__law_run_due p__law_run_due) (T : Txt K mg) (c__law_fresh : C8.Cal P w K mg base 1 "_law_fresh" (spFresh K) []) (c__law_is_number : C8.Cal P w K mg base 1 "_law_is_number" spIsNum []) (c__law_story : C8.Cal P w K mg base 1 "_law_story" (spLStory K) [])
    (c__law_laid : C8.Cal P w K mg base 1 "_law_laid" (spLLaid K) []) (c__law_is_there : C8.Cal P w K mg base 1 "_law_is_there" (spLThere K) []) : C8.Cal P w K mg base 2 "_law_run_due" (spLRunDue K) [] := by
  refine D.ok sc__law_run_due (fun vs H Q E h => ?_) (fun f cdv A outer s H vs Q E hr h => ?_)
  · obtain ⟨v, a, n, ks, xs, ss, rfl, _⟩ := h
    rfl
  obtain ⟨v, a, n, ks, xs, ss, rfl, hSp, hok, hT, hp, k1, k2⟩ := h
  obtain ⟨hn, hkl, hkd⟩ := table_ok hok
  obtain ⟨sp, pk, rfl, hs, xk, hk, hkp⟩ := hSp
  have hSp : SpecAt K H (.ref sp) n ks := ⟨sp, pk, rfl, hs, xk, hk, hkp⟩
  have hlen := pair_len hp
  refine ⟨_, (pss_cons (ps_if (PW.pt (pw_or (pt_not (pt_val (pe_callB call_isi (by rfl) T.isinstance (by decide +kernel) (pa_cons (pv 1) (pa_cons (pe_bltn (v := .ty "tuple") (by rfl) T.tuple (by decide +kernel) rfl) pa_nil))))) (pw_or1 (pt_cmpR op_gt (pe_callB call_len_seq (by rfl) T.len (by decide +kernel) (pa_cons (pv 1) pa_nil)) pe_int (nomark _))))) (pss_one (ps_ret pe_non)) pss_nil)
  (pss_cons (ps_par (i := 2) (j := 3) (by rfl) sc__law_run_due.nd rfl rfl (by decide) rfl rfl (pa_cons (pe_lst pa_nil) (pa_cons (C8.pe_c c__law_fresh hr (by decide) (by rfl) (pa_cons (pv 0) pa_nil)) pa_nil)) (by rfl))
  (pss_cons (ps_for PassesOwn.never rfl (pi_tup (pv 1)) (pg_name (i := 4) sc__law_run_due.nd rfl (Or.inl rfl))
  (pss_cons (ps_if (PW.pt (pw_or (pt_not (pt_val (pe_callB call_isi (by rfl) T.isinstance (by decide +kernel) (pa_cons (pv 4) (pa_cons (pe_bltn (v := .ty "tuple") (by rfl) T.tuple (by decide +kernel) rfl) pa_nil))))) (pw_or (pt_cmpR op_ne (pe_callB call_len_seq (by rfl) T.len (by decide +kernel) (pa_cons (pv 4) pa_nil)) pe_int (nomark _)) (pw_or1 (pt_not (pt_val (pe_callB call_isi (by rfl) T.isinstance (by decide +kernel) (pa_cons (pe_ix ix_tup (pv 4) pe_int (fun _ _ => rfl)) (pa_cons (pe_bltn (v := .ty "str") (by rfl) T.str (by decide +kernel) rfl) pa_nil))))))))) (pss_one (ps_ret pe_non)) pss_nil)
  (pss_one (ps_if (PW.pt (pw_and (pt_cmpR op_eq (pe_ix ix_tup (pv 4) pe_int (fun _ _ => rfl)) pe_str (nomark _)) (pw_and1 (pt_val (C8.pe_c c__law_is_number hr (by decide) (by rfl) (pa_cons (pe_ix ix_tup (pv 4) pe_int (fun _ _ => rfl)) (pa_cons pe_int (pa_cons (pe_op op_sub (pe_callB call_len_seq (by rfl) T.len (by decide +kernel) (pa_cons (pe_ix ix_tup (pv 0) pe_int (fun _ _ => rfl)) pa_nil)) pe_int) pa_nil)))))))) (pss_one (ps_expr (pe_bm PySem.F.plainAttrs_list PySem.F.slot_list_append PySem.F.type_list_append mt_append (pv 2) (pa_cons (pe_ix ix_tup (pv 4) pe_int (fun _ _ => rfl)) pa_nil)))) (pss_one (ps_if (PW.pt (pw_and (pt_cmpR op_eq (pe_ix ix_tup (pv 4) pe_int (fun _ _ => rfl)) pe_str (nomark _)) (pw_and1 (pt_val (C8.pe_c c__law_is_number hr (by decide) (by rfl) (pa_cons (pe_ix ix_tup (pv 4) pe_int (fun _ _ => rfl)) (pa_cons pe_int (pa_cons (pe_op op_sub (pe_ix ix_tup (pv 0) pe_int (fun _ _ => rfl)) pe_int) pa_nil)))))))) (pss_cons (ps_set (i := 5) sc__law_run_due.nd rfl (Or.inl rfl) (C8.pe_c c__law_story hr (by decide) (by rfl) (pa_cons (pv 0) (pa_cons (pv 2) pa_nil))))
  (pss_cons (ps_set (i := 3) sc__law_run_due.nd rfl (Or.inl rfl) (C8.pe_c c__law_laid hr (by decide) (by rfl) (pa_cons (pv 5) (pa_cons (pv 3) (pa_cons (pe_lst (pa_cons (pe_ix ix_tup (pv 4) pe_int (fun _ _ => rfl)) pa_nil)) pa_nil)))))
  (pss_one (ps_if (pt_not (pt_val (C8.pe_c c__law_is_there hr (by decide) (by rfl) (pa_cons (pv 5) (pa_cons (pv 3) pa_nil))))) (pss_one (ps_ret pe_non)) pss_nil)))) (pss_one (ps_ret pe_non))))))))
  (pss_one (ps_ret (pe_tup (pa_cons (pe_callTy call_tuple_of (by rfl) T.tuple (by decide +kernel) (pa_cons (pv 2) pa_nil)) (pa_cons (pv 3) pa_nil)))))))), ?_⟩
  refine ⟨_, rfl, _, _, _, _, _, rfl, .ty _, tyT hT, kit_ty (r := true) (by decide +kernel), _, rfl, iteF ?_⟩
  refine ⟨_, rfl, a, _, rfl, .inr hT, _, _, rfl, rfl, _, rfl, ?_⟩
  rw [hlen]
  by_cases h1 : ss.length ≤ 400
  rotate_left
  · unfold isRun at k1
    rw [decide_eq_false h1, Bool.false_and] at k1
    rw [decide_eq_true (show (400 : Int) < (ss.length : Int) by omega)]
    exact iteT (k1 rfl H (Ex.refl H))
  rw [decide_eq_false (show ¬ (400 : Int) < (ss.length : Int) by omega)]
  refine iteF ?_
  rw [isRun_eq h1] at k1 k2
  refine ⟨by decide, fun lj hlj => ⟨_, rfl, .ref sp, n, ks, rfl, hSp.mono (Ex.new hlj), by omega, by omega, fun H1 q1 e1 hq1 => ?_⟩⟩
  have j1 := e1 _ _ (upd_same : upd H lj (.lst []) lj = some (.lst []))
  have e1' : Ex H H1 := (Ex.new hlj).trans e1
  have gj : H lj = none := hlj
  refine ⟨_, _, rfl, ?_⟩
  refine ⟨_, rfl, a, rfl, ⟨_, ex_t e1' hT⟩, for_tup (K := K) (a := a) (xs := xs) (fun i σ Hc => Ex H Hc ∧ ∃ (js plates : List Int) (pp : Addr) (y4 y5 : Option V), σ = [some (.ref sp), some (.ref a), some (.ref lj), some (.ref pp), y4, y5] ∧ Hc lj = some (.lst (js.map V.int)) ∧ SqT K Hc pp (plates.map V.int) ∧
    lled n ks ([], fresh n) ss = lled n ks (js, plates) (ss.drop i) ∧ js.length ≤ i ∧ (∀ j ∈ js, 0 ≤ j ∧ j < (ks.length : Int)) ∧ plates.length = n.toNat)
    ⟨e1', [], fresh n, q1, none, none, rfl, j1, SqT.of hq1, by rw [List.drop_zero], Nat.le_refl _, fun j hj => (by cases hj), fresh_len n⟩ (fun i σ H' _ h => ex_t h.1 hT) ?_ ?_⟩
  · rintro i v σ Hc hv ⟨e2, js, plates, pp, y4, y5, rfl, hj, rp, el, nj, bj, np⟩
    obtain ⟨st, hst, b, rfl, hb⟩ := pair_get hp hv
    have hi := (List.getElem?_eq_some_iff.mp hst).1
    have hb2 := ex_t e2 hb
    have hs2 := ex_t e2 hs
    have hk2 := ex_t e2 hk
    rw [drop_get hst, lled] at el
    refine ⟨_, rfl, _, _, _, _, _, rfl, .ty _, tyT hb2, kit_ty (r := true) (by decide +kernel), _, rfl, iteF ?_⟩
    refine ⟨_, rfl, b, _, rfl, .inr hb2, rfl, _, rfl, ?_⟩
    rw [decide_eq_true (show V.int (([V.str st.1, V.int st.2].length : Nat) : Int) = V.int 2 from rfl)]
    refine iteF ⟨_, rfl, b, _, 0, .str st.1, rfl, rfl, hb2, rfl, _, _, _, _, _, rfl, .ty _, .base (.str _), kit_ty (r := true) (by decide +kernel), _, rfl, iteF ?_⟩
    refine ⟨_, rfl, b, _, 0, .str st.1, rfl, rfl, hb2, rfl, rfl, _, rfl, ?_⟩
    rw [str_eq]
    by_cases hd : st.1 = "do"
    · have hst2 : isStep n ks.length st = (decide (0 ≤ st.2) && decide (st.2 ≤ (ks.length : Int) - 1)) := by unfold isStep mostOf; rw [if_pos hd]
      rw [decide_eq_true hd]
      refine iteT ⟨_, rfl, b, _, 1, .int st.2, rfl, rfl, hb2, rfl, _, rfl, sp, _, 1, .ref pk, rfl, rfl, hs2, rfl, pk, _, rfl, .inr hk2, _, _, rfl, rfl, st.2, 0, _, rfl, _, rfl, ?_⟩
      rw [pair_len hkp, ← hst2]
      cases hok2 : isStep n ks.length st with
      | true =>
        rw [hok2, if_pos rfl, ledStep, if_pos hd] at el
        obtain ⟨s0, s1⟩ := step_do hok2 hd
        refine iteT ⟨_, rfl, .inl ⟨rfl, _, SqL.of hj⟩, _, rfl, b, _, 1, .int st.2, rfl, rfl, hb2, rfl, lj, _, _, rfl, rfl, hj, Nat.lt_of_le_of_lt (by rw [List.length_map]; omega : (js.map V.int).length ≤ 1000) (by decide), ?_⟩
        refine ⟨ex_upd e2 gj, js ++ [st.2], plates, pp, _, _, rfl, ?_, exl_t (exl_upd hj) rp, el, ?_, fun j hj' => ?_, np⟩
        · rw [upd_same, List.map_append]; rfl
        · rw [List.length_append, List.length_singleton]; omega
        · rcases List.mem_append.mp hj' with z | z
          · exact bj j z
          · rw [List.mem_singleton.mp z]; exact ⟨s0, s1⟩
      | false =>
        rw [hok2, if_neg Bool.false_ne_true] at el
        refine iteF ⟨_, rfl, b, _, 0, .str st.1, rfl, rfl, hb2, rfl, rfl, _, rfl, ?_⟩
        rw [str_eq, decide_eq_false (by rw [hd]; exact fun q => str_ne q.symm)]
        exact iteF (iteF (k1 (by rw [el]; rfl) Hc e2))
    · rw [decide_eq_false hd]
      refine iteF (iteF ⟨_, rfl, b, _, 0, .str st.1, rfl, rfl, hb2, rfl, rfl, _, rfl, ?_⟩)
      rw [str_eq]
      by_cases hl : st.1 = "lay"
      rotate_left
      · rw [decide_eq_false hl]
        have : isStep n ks.length st = false := by
          unfold isStep mostOf
          rw [if_neg hd, if_neg hl]
          by_cases z : 0 ≤ st.2
          · rw [decide_eq_false (show ¬ st.2 ≤ 0 - 1 by omega), Bool.and_false]
          · rw [decide_eq_false z, Bool.false_and]
        rw [this, if_neg Bool.false_ne_true] at el
        exact iteF (iteF (k1 (by rw [el]; rfl) Hc e2))
      have hst2 : isStep n ks.length st = (decide (0 ≤ st.2) && decide (st.2 ≤ n - 1)) := by unfold isStep mostOf; rw [if_neg hd, if_pos hl]
      rw [decide_eq_true hl]
      refine iteT ⟨_, rfl, b, _, 1, .int st.2, rfl, rfl, hb2, rfl, _, rfl, sp, _, 0, .int n, rfl, rfl, hs2, rfl, _, _, rfl, rfl, st.2, 0, _, rfl, _, rfl, ?_⟩
      rw [← hst2]
      cases hok2 : isStep n ks.length st with
      | false =>
        rw [hok2, if_neg Bool.false_ne_true] at el
        exact iteF (k1 (by rw [el]; rfl) Hc e2)
      | true =>
        rw [hok2, if_pos rfl, ledStep, if_neg hd] at el
        obtain ⟨s0, s1⟩ := step_lay hok2 hd
        obtain ⟨l1, l2⟩ := story_len n ks js js.length (Nat.le_refl _)
        rw [story_all] at l1 l2
        refine iteT ⟨_, rfl, _, rfl, .ref sp, lj, n, ks, js, rfl, hSp.mono e2, hok, SqL.of hj, by omega, bj, fun H3 y e3 hy => ?_⟩
        refine ⟨_, rfl, _, rfl, _, rfl, b, _, 1, .int st.2, rfl, rfl, ex_t e3 hb2, rfl, len1, fun lt hlt => ?_⟩
        have e4 : Ex H3 (upd H3 lt (.lst [V.int st.2])) := Ex.new hlt
        have r4 : SqL K (upd H3 lt (.lst [V.int st.2])) lt [V.int st.2] := SqL.of upd_same
        generalize upd H3 lt (.lst [V.int st.2]) = H4 at e4 r4 ⊢
        refine ⟨y, pp, lt, _, plates, st.2, rfl, hy.mono e4, ex_t (e3.trans e4) rp, r4, by omega, by omega, s0, by omega, fun H5 q5 e5 r5 => ?_⟩
        refine ⟨_, rfl, _, rfl, y, q5, _, _, rfl, hy.mono (e4.trans e5), r5, by rw [laid_len]; omega, by omega, fun r hr => Nat.le_trans (rows_few n ks hkd js ([], fresh n) (fun r hr => (by cases hr)) r hr) (by omega), by omega, fun H6 e6 => ⟨_, rfl, ?_⟩⟩
        have E6 : Ex Hc H6 := ((e3.trans e4).trans e5).trans e6
        cases hat : allThere (story n ks js) (laidAt (story n ks js).2 plates st.2) with
        | true =>
          rw [if_pos hat] at el
          refine iteF ?_
          exact ⟨e2.trans E6, js, _, q5, _, _, rfl, E6 _ _ hj, ex_t e6 r5, el, by omega, bj, by rw [laid_len]; exact np⟩
        | false =>
          rw [if_neg (by rw [hat]; exact Bool.false_ne_true)] at el
          exact iteT (k1 (by rw [el]; rfl) H6 (e2.trans E6))
  · rintro σ Hc ⟨e2, js, plates, pp, y4, y5, rfl, hj, rp, el, nj, bj, np⟩
    rw [List.drop_of_length_le (by rw [hlen]; exact Nat.le_refl _), lled] at el
    refine ⟨_, rfl, lj, _, rfl, .inl ⟨SqL.of hj, fun q hq => ⟨_, rfl, len2, fun u hu => k2 (by rw [el]; rfl) _ u ((e2.trans (Ex.new hq)).trans (Ex.new hu))⟩⟩⟩
end
end K28
/-! # Runs drawn -/
namespace K28
open PySem PySem.Spec PyProof.Rows L2
open Evl (Ex ex_l ex_t)
structure RunI (K : PySem.W.Frag) (H : Hp) (p : Addr) (N : Addr → Prop) (Hc : Hp) (lr lj pp : Addr) (ss : List Stp) (js plates : List Int) : Prop where
  ex : ExB p H Hc
  pool : PoolAt Hc p (fun a => (N a ∨ a = lr) ∨ a = lj)
  nr : H lr = none
  nj : H lj = none
  ne : lr ≠ lj
  run : ∃ rs, Hc lr = some (.lst rs) ∧ Paired (StepAt K Hc) rs ss
  jr : Hc lj = some (.lst (js.map V.int))
  pl : SqT K Hc pp (plates.map V.int)
theorem StepAt.monoL {K : PySem.W.Frag} {H H' : Hp} {v : V} {s : Stp} (e : ExL H H') (h : StepAt K H v s) : StepAt K H' v s := by
  obtain ⟨a, e1, h1⟩ := h
  exact ⟨a, e1, exl_t e h1⟩
section
variable {K : PySem.W.Frag} {H Hc Hd : Hp} {p lr lj pp : Addr} {N : Addr → Prop} {ss : List Stp} {js plates : List Int}
theorem RunI.r_p (k : RunI K H p N Hc lr lj pp ss js plates) : lr ≠ p := by
  obtain ⟨g, s, x, y, gs, ss, h1, h2, h3, n1, n2, hN⟩ := k.pool
  exact (hN lr (.inl (.inr rfl))).2.2.1
theorem RunI.j_p (k : RunI K H p N Hc lr lj pp ss js plates) : lj ≠ p := by
  obtain ⟨g, s, x, y, gs, ss, h1, h2, h3, n1, n2, hN⟩ := k.pool
  exact (hN lj (.inr rfl)).2.2.1
theorem RunI.grow (k : RunI K H p N Hc lr lj pp ss js plates) (e : Ex Hc Hd) : RunI K H p N Hd lr lj pp ss js plates := by
  obtain ⟨rs, h1, h2⟩ := k.run
  exact ⟨k.ex.trans (.of e), k.pool.keep e, k.nr, k.nj, k.ne, ⟨rs, e _ _ h1, Paired.mapP h2 fun _ _ q => q.mono e⟩, e _ _ k.jr, ex_t e k.pl⟩
theorem RunI.draw (k : RunI K H p N Hc lr lj pp ss js plates) (e : ExB p Hc Hd) (hP : PoolAt Hd p (fun a => (N a ∨ a = lr) ∨ a = lj)) : RunI K H p N Hd lr lj pp ss js plates := by
  obtain ⟨rs, h1, h2⟩ := k.run
  have lx := k.pool.exl e
  exact ⟨k.ex.trans e, hP, k.nr, k.nj, k.ne, ⟨rs, e _ _ k.r_p h1, Paired.mapP h2 fun _ _ q => q.monoL lx⟩, e _ _ k.j_p k.jr, exl_t lx k.pl⟩
theorem RunI.lay (k : RunI K H p N Hc lr lj pp ss js plates) {q : Addr} {ps : List Int} (h : SqT K Hc q (ps.map V.int)) : RunI K H p N Hc lr lj q ss js ps := ⟨k.ex, k.pool, k.nr, k.nj, k.ne, k.run, k.jr, h⟩
theorem RunI.step (k : RunI K H p N Hc lr lj pp ss js plates) {rs : List V} (h1 : Hc lr = some (.lst rs)) (h2 : Paired (StepAt K Hc) rs ss) {u : Addr} {st : Stp} (h : StepAt K Hc (.ref u) st) : RunI K H p N (upd Hc lr (.lst (rs ++ [.ref u]))) lr lj pp (ss ++ [st]) js plates := by
  have lx : ExL Hc (upd Hc lr (.lst (rs ++ [.ref u]))) := exl_upd h1
  exact ⟨k.ex.updn k.nr, k.pool.put (.inl (.inr rfl)), k.nr, k.nj, k.ne, ⟨_, upd_same, pair_app (Paired.mapP h2 fun _ _ q => q.monoL lx) (.cons (h.monoL lx) .nil)⟩, by rw [upd_ne (Ne.symm k.ne)]; exact k.jr, exl_t lx k.pl⟩
theorem RunI.deed (k : RunI K H p N Hc lr lj pp ss js plates) (m : Int) : RunI K H p N (upd Hc lj (.lst (js.map V.int ++ [V.int m]))) lr lj pp ss (js ++ [m]) plates := by
  obtain ⟨rs, h1, h2⟩ := k.run
  have lx : ExL Hc (upd Hc lj (.lst (js.map V.int ++ [V.int m]))) := exl_upd k.jr
  exact ⟨k.ex.updn k.nj, k.pool.put (.inr rfl), k.nr, k.nj, k.ne, ⟨rs, by rw [upd_ne k.ne]; exact h1, Paired.mapP h2 fun _ _ q => q.monoL lx⟩, by rw [upd_same, List.map_append]; rfl, exl_t lx k.pl⟩
end
section
variable {P : Program} {w : World} {K : PySem.W.Frag} {mg : Str → Option Value} {base : Heap}
/-- the deed of a turn -/
theorem run_deed {H Hx : Hp} {p sp pk lr lj pp : Addr} {N : Addr → Prop} {ss : List Stp} {js plates : List Int} {n m : Int} {xk : List V} {y6 y7 y8 : V} {D : Ends} (kx : RunI K H p N Hx lr lj pp ss js plates) (hs : ∀ {Hy : Hp}, ExB p H Hy → SqT K Hy sp [.int n, .ref pk]) (hk : ∀ {Hy : Hp}, ExB p H Hy → SqT K Hy pk xk)
    (l1 : 1 ≤ xk.length) (l2 : xk.length ≤ 1000) (l3 : js.length ≤ 1000) (l4 : ss.length ≤ 1000) (q : ∀ (Hy : Hp) (j : Int), RunI K H p N Hy lr lj pp (ss ++ [(("do", j) : Stp)]) (js ++ [j]) plates → 0 ≤ j → j < (xk.length : Int) → D.nx [some (.ref p), some (.ref sp), some (.int m), some (.ref lr), some (.ref lj), some (.ref pp), some y6, some y7, some y8] Hy) :
    tSeq (tDrop (tBM K "list" rAppend (tVar 4) (tCons (tCall spDraw [] C8.E0 (tCons (tVar 0) (tCons (tCB (fun xs H_1 Q => ∃ p ys, xs = [V.ref p] ∧ (SqL K H_1 p ys ∨ SqT K H_1 p ys) ∧ Q (V.int ys.length) H_1) (tCons (tOp (rIxT K) (tVar 1) (tC (V.int 1))) tNil)) tNil))) tNil)))
      (tDrop (tBM K "list" rAppend (tVar 3) (tCons (tTup (tCons (tC (V.str "do")) (tCons (tOp (rIxL K) (tVar 4) (tUn (rU fun i => V.int (-i)) (tC (V.int 1)))) tNil))) tNil))) D [some (.ref p), some (.ref sp), some (.int m), some (.ref lr), some (.ref lj), some (.ref pp), some y6, some y7, some y8] Hx := by
  refine ⟨_, rfl, .inl ⟨rfl, _, SqL.of kx.jr⟩, _, rfl, _, rfl, sp, _, 1, .ref pk, rfl, rfl, hs kx.ex, rfl, pk, xk, rfl, .inr (hk kx.ex), p, _, _, rfl, kx.pool, by omega, by omega, fun H2 j e2 hP2 j0 j1 => ?_⟩
  have k2 := kx.draw e2 hP2
  refine ⟨lj, _, _, rfl, rfl, k2.jr, Nat.lt_of_le_of_lt (by rw [List.length_map]; omega : (js.map V.int).length ≤ 1000) (by decide), ?_⟩
  have k3 := k2.deed j
  generalize upd H2 lj (.lst (js.map V.int ++ [V.int j])) = H3 at k3 ⊢
  obtain ⟨rs, h1, h2⟩ := k3.run
  refine ⟨_, rfl, .inl ⟨rfl, _, SqL.of h1⟩, _, rfl, 1, rfl, lj, _, _, .int j, rfl, rfl, SqL.of k3.jr, at_last (by rw [List.map_append]; exact last_app _ _), len2, fun u hu => ?_⟩
  have k4 := k3.grow (Ex.new (o := .tup [V.str "do", .int j]) hu)
  obtain h1' := (Ex.new (o := .tup [V.str "do", .int j]) hu) _ _ h1
  refine ⟨lr, rs, _, rfl, rfl, h1', Nat.lt_of_le_of_lt (by rw [pair_len h2]; omega : rs.length ≤ 1000) (by decide), ?_⟩
  exact q _ j (k4.step h1' (Paired.mapP h2 fun _ _ q => q.mono (Ex.new hu)) (st := ("do", j)) ⟨u, rfl, SqT.of upd_same⟩) j0 j1
def RunA (K : PySem.W.Frag) (H : Hp) (y : V) (ss : List Stp) : Prop := ∃ (t a j q : Addr) (xs : List V), y = .ref t ∧ SqT K H t [.ref a, .ref j, .ref q] ∧ SqT K H a xs ∧ Paired (StepAt K H) xs ss
def spDrawnRun (K : PySem.W.Frag) : Sp := fun vs H Q _ => ∃ (p : Addr) (v : V) (m n : Int) (ks : List Kd) (N : Addr → Prop), vs = [.ref p, v, .int m] ∧ PoolAt H p N ∧ SpecAt K H v n ks ∧ tableOut n ks = none ∧ 0 ≤ m ∧ m ≤ 100 ∧
  ∀ H' y ss, ExB p H H' → PoolAt H' p N → RunA K H' y ss → (ss.length : Int) ≤ m → (∀ s ∈ ss, (s.1 = "do" ∨ s.1 = "lay") ∧ 0 ≤ s.2 ∧ s.2 < 100) → Q y H'
abbrev s__law_drawn_run : Stmt := top 64
abbrev N__law_drawn_run : List Str := ["_law_pool_here", "_law_spec_here", "_law_many", "_law_run", "_law_journal_here", "_law_plates", "_law_turn", "_law_story_here", "_law_cell"]
abbrev p__law_drawn_run : List Str := ["_law_pool_here", "_law_spec_here", "_law_many"]
theorem sc__law_drawn_run : FnScope N__law_drawn_run p__law_drawn_run (defScope s__law_drawn_run) := ⟨rfl, rfl, rfl, by decide +kernel, rfl, by decide +kernel, by decide +kernel⟩
theorem ok__law_drawn_run (D : Dn K mg "_law_drawn_run" s__law_drawn_run p__law_drawn_run) (T : Txt K mg) (c__law_draw : C8.Cal P w K mg base 1 "_law_draw" spDraw []) (c__law_fresh : C8.Cal P w K mg base 1 "_law_fresh" (spFresh K) []) (c__law_story : C8.Cal P w K mg base 1 "_law_story" (spLStory K) [])
    (c__law_laid : C8.Cal P w K mg base 1 "_law_laid" (spLLaid K) []) (c__law_is_there : C8.Cal P w K mg base 1 "_law_is_there" (spLThere K) []) : C8.Cal P w K mg base 2 "_law_drawn_run" (spDrawnRun K) [] := by
  refine D.ok sc__law_drawn_run (fun vs H Q E h => ?_) (fun f cdv A outer s H vs Q E hr h => ?_)
  · obtain ⟨p, v, m, n, ks, N, rfl, _⟩ := h
    rfl
  obtain ⟨p, v, m, n, ks, N, rfl, hP, hSp, hok, m0, m1, k⟩ := h
  obtain ⟨hn, hkl, hkd⟩ := table_ok hok
  obtain ⟨sp, pk, rfl, hs, xk, hk, hkp⟩ := hSp
  have hSp : SpecAt K H (.ref sp) n ks := ⟨sp, pk, rfl, hs, xk, hk, hkp⟩
  refine ⟨_, (pss_cons (ps_par3 (i := 3) (j := 4) (l := 5) (by rfl) sc__law_drawn_run.nd rfl rfl rfl (by decide) (by decide) (by decide) rfl rfl rfl (pa_cons (pe_lst pa_nil) (pa_cons (pe_lst pa_nil) (pa_cons (C8.pe_c c__law_fresh hr (by decide) (by rfl) (pa_cons (pv 1) pa_nil)) pa_nil))) (by rfl))
  (pss_cons (ps_for PassesOwn.never rfl (pi_range1 (by rfl) T.range (pa_cons (pv 2) pa_nil)) (pg_name (i := 6) sc__law_drawn_run.nd rfl (Or.inl rfl))
  (pss_cons (ps_set (i := 7) sc__law_drawn_run.nd rfl (Or.inl rfl) (C8.pe_c c__law_story hr (by decide) (by rfl) (pa_cons (pv 1) (pa_cons (pv 4) pa_nil))))
  (pss_cons (ps_set (i := 8) sc__law_drawn_run.nd rfl (Or.inl rfl) (C8.pe_c c__law_draw hr (by decide) (by rfl) (pa_cons (pv 0) (pa_cons (pe_ix ix_tup (pv 1) pe_int (fun _ _ => rfl)) pa_nil))))
  (pss_one (ps_if (PW.pt (pw_and (pt_cmpR op_lt (C8.pe_c c__law_draw hr (by decide) (by rfl) (pa_cons (pv 0) (pa_cons pe_int pa_nil))) pe_int (nomark _)) (pw_and1 (pt_val (C8.pe_c c__law_is_there hr (by decide) (by rfl) (pa_cons (pv 7) (pa_cons (C8.pe_c c__law_laid hr (by decide) (by rfl) (pa_cons (pv 7) (pa_cons (pv 5) (pa_cons (pe_lst (pa_cons (pv 8) pa_nil)) pa_nil)))) pa_nil))))))) (pss_cons (ps_set (i := 5) sc__law_drawn_run.nd rfl (Or.inl rfl) (C8.pe_c c__law_laid hr (by decide) (by rfl) (pa_cons (pv 7) (pa_cons (pv 5) (pa_cons (pe_lst (pa_cons (pv 8) pa_nil)) pa_nil)))))
  (pss_one (ps_expr (pe_bm PySem.F.plainAttrs_list PySem.F.slot_list_append PySem.F.type_list_append mt_append (pv 3) (pa_cons (pe_tup (pa_cons pe_str (pa_cons (pv 8) pa_nil))) pa_nil))))) (pss_cons (ps_expr (pe_bm PySem.F.plainAttrs_list PySem.F.slot_list_append PySem.F.type_list_append mt_append (pv 4) (pa_cons (C8.pe_c c__law_draw hr (by decide) (by rfl) (pa_cons (pv 0) (pa_cons (pe_callB call_len_seq (by rfl) T.len (by decide +kernel) (pa_cons (pe_ix ix_tup (pv 1) pe_int (fun _ _ => rfl)) pa_nil)) pa_nil))) pa_nil)))
  (pss_one (ps_expr (pe_bm PySem.F.plainAttrs_list PySem.F.slot_list_append PySem.F.type_list_append mt_append (pv 3) (pa_cons (pe_tup (pa_cons pe_str (pa_cons (pe_ix ix_list (pv 4) (pe_un un_neg pe_int) (fun _ _ => rfl)) pa_nil))) pa_nil))))))))))
  (pss_one (ps_ret (pe_tup (pa_cons (pe_callTy call_tuple_of (by rfl) T.tuple (by decide +kernel) (pa_cons (pv 3) pa_nil)) (pa_cons (pe_callTy call_tuple_of (by rfl) T.tuple (by decide +kernel) (pa_cons (pv 4) pa_nil)) (pa_cons (pv 5) pa_nil)))))))), ?_⟩
  refine ⟨by decide, fun lr hlr => ⟨by decide, fun lj hlj => ?_⟩⟩
  have e1 : Ex H (upd H lr (.lst [])) := Ex.new hlr
  have r1 : upd H lr (.lst []) lr = some (.lst []) := upd_same
  have hP1 := hP.new (o := .lst []) hlr
  generalize upd H lr (.lst []) = H1 at e1 r1 hP1 hlj ⊢
  have e2 : Ex H1 (upd H1 lj (.lst [])) := Ex.new hlj
  have j2 : upd H1 lj (.lst []) lj = some (.lst []) := upd_same
  have hP2 := hP1.new (o := .lst []) hlj
  have gj : H lj = none := fr_back e1 hlj
  have nrj : lr ≠ lj := ne_of_none r1 hlj
  generalize upd H1 lj (.lst []) = H2 at e2 j2 hP2 ⊢
  refine ⟨_, rfl, .ref sp, n, ks, rfl, hSp.mono (e1.trans e2), by omega, by omega, fun H3 q1 e3 hq1 => ⟨_, _, _, rfl, ?_⟩⟩
  have k3 : RunI K H p N H3 lr lj q1 [] [] (fresh n) := ⟨.of ((e1.trans e2).trans e3), hP2.keep e3, hlr, gj, nrj, ⟨[], (e2.trans e3) _ _ r1, .nil⟩, e3 _ _ j2, SqT.of hq1⟩
  refine ⟨_, rfl, m, rfl, by omega, by omega, for_it walk_range (fun i σ Hc => ∃ (ss : List Stp) (js plates : List Int) (pp : Addr) (y6 y7 y8 : Option V), σ = [some (.ref p), some (.ref sp), some (.int m), some (.ref lr), some (.ref lj), some (.ref pp), y6, y7, y8] ∧ RunI K H p N Hc lr lj pp ss js plates ∧
    ss.length = i ∧ (∀ s ∈ ss, (s.1 = "do" ∨ s.1 = "lay") ∧ 0 ≤ s.2 ∧ s.2 < 100) ∧ js.length ≤ i ∧ (∀ j ∈ js, 0 ≤ j ∧ j < (ks.length : Int)) ∧ plates.length = n.toNat)
    ⟨[], [], fresh n, q1, none, none, none, rfl, k3, rfl, fun s hs => (by cases hs), Nat.le_refl _, fun j hj => (by cases hj), fresh_len n⟩ (fun _ _ _ _ _ => trivial) ?_ ?_⟩
  · rintro i x σ Hq Hc hi ⟨ss, js, plates, pp, y6, y7, y8, rfl, kc, sl, sb, jl, jb, np⟩ ⟨rfl, rfl⟩
    obtain ⟨l1, l2⟩ := story_len n ks js js.length (Nat.le_refl _)
    rw [story_all] at l1 l2
    have spc : ∀ {Hx : Hp}, ExB p H Hx → SpecAt K Hx (.ref sp) n ks := fun e => hSp.monoL (hP.exl e)
    have spt : ∀ {Hx : Hp}, ExB p H Hx → SqT K Hx sp [.int n, .ref pk] := fun e => exl_t (hP.exl e) hs
    -- story = _law_story(spec, journal)
    refine ⟨_, rfl, _, rfl, .ref sp, lj, n, ks, js, rfl, spc kc.ex, hok, SqL.of kc.jr, by omega, jb, fun H4 y e4 hy => ?_⟩
    have k4 := kc.grow e4
    -- cell = draw(pool, spec[0])
    refine ⟨_, rfl, _, rfl, sp, _, 0, .int n, rfl, rfl, spt k4.ex, rfl, p, n, _, rfl, k4.pool, by omega, by omega, fun H5 c e5 hP5 c0 c1 => ?_⟩
    have k5 := k4.draw e5 hP5
    have hy5 := hy.draw k4.pool e5
    -- draw(pool, 5) < 2
    refine ⟨_, rfl, p, 5, _, rfl, k5.pool, by decide, by decide, fun H6 z e6 hP6 z0 z1 => ⟨_, _, rfl, rfl, _, rfl, ?_⟩⟩
    have k6 := k5.draw e6 hP6
    have hy6 := hy5.draw k5.pool e6
    have hlx : xk.length = ks.length := pair_len hkp
    have fin : ∀ (Hy : Hp) (j : Int), RunI K H p N Hy lr lj pp (ss ++ [(("do", j) : Stp)]) (js ++ [j]) plates → 0 ≤ j → j < (xk.length : Int) → ∃ (ss : List Stp) (js plates : List Int) (pp' : Addr) (y6' y7' y8' : Option V), [some (V.ref p), some (.ref sp), some (.int m), some (.ref lr), some (.ref lj), some (.ref pp), some (V.int (0 + (i : Int))), some y, some (.int c)] = [some (V.ref p), some (.ref sp), some (.int m), some (.ref lr), some (.ref lj), some (.ref pp'), y6', y7', y8'] ∧ RunI K H p N Hy lr lj pp' ss js plates ∧
        ss.length = i + 1 ∧ (∀ s ∈ ss, (s.1 = "do" ∨ s.1 = "lay") ∧ 0 ≤ s.2 ∧ s.2 < 100) ∧ js.length ≤ i + 1 ∧ (∀ j ∈ js, 0 ≤ j ∧ j < (ks.length : Int)) ∧ plates.length = n.toNat := fun Hy j ky j0 j1 =>
      ⟨_, _, _, _, _, _, _, rfl, ky, by rw [List.length_append, List.length_singleton, sl], fun s hs => (by
        rcases List.mem_append.mp hs with z | z
        · exact sb s z
        · rw [List.mem_singleton.mp z]
          exact ⟨.inl rfl, j0, by omega⟩), by rw [List.length_append, List.length_singleton]; omega, fun a ha => (by
        rcases List.mem_append.mp ha with z | z
        · exact jb a z
        · rw [List.mem_singleton.mp z]; omega), np⟩
    by_cases hz2 : z < 2
    rotate_left
    · rw [decide_eq_false hz2]
      refine iteF (iteF ?_)
      exact run_deed k6 spt (fun e => exl_t (hP.exl e) hk) (by omega) (by omega) (by omega) (by omega) fin
    rw [decide_eq_true hz2]
    refine iteT ⟨_, rfl, _, rfl, _, rfl, _, rfl, len1, fun lt hlt => ?_⟩
    have e7 : Ex H6 (upd H6 lt (.lst [V.int c])) := Ex.new hlt
    have r7 : SqL K (upd H6 lt (.lst [V.int c])) lt [V.int c] := SqL.of upd_same
    generalize upd H6 lt (.lst [V.int c]) = H7 at e7 r7 ⊢
    have k7 := k6.grow e7
    have hy7 := hy6.mono e7
    refine ⟨y, pp, lt, _, plates, c, rfl, hy7, k7.pl, r7, by omega, by omega, c0, by omega, fun H8 q8 e8 r8 => ?_⟩
    have k8 := k7.grow e8
    refine ⟨y, q8, _, _, rfl, hy7.mono e8, r8, by rw [laid_len]; omega, by omega, fun r hr => Nat.le_trans (rows_few n ks hkd js ([], fresh n) (fun r hr => (by cases hr)) r hr) (by omega), by omega, fun H9 e9 => ⟨_, rfl, ?_⟩⟩
    have k9 := k8.grow e9
    have hy9 := (hy7.mono e8).mono e9
    cases hat : allThere (story n ks js) (laidAt (story n ks js).2 plates c) with
    | false =>
      refine iteF ?_
      exact run_deed k9 spt (fun e => exl_t (hP.exl e) hk) (by omega) (by omega) (by omega) (by omega) fin
    | true =>
      refine iteT ⟨_, rfl, _, rfl, _, rfl, len1, fun lt2 hlt2 => ?_⟩
      have e10 : Ex H9 (upd H9 lt2 (.lst [V.int c])) := Ex.new hlt2
      have r10 : SqL K (upd H9 lt2 (.lst [V.int c])) lt2 [V.int c] := SqL.of upd_same
      generalize upd H9 lt2 (.lst [V.int c]) = H10 at e10 r10 ⊢
      have k10 := k9.grow e10
      refine ⟨y, pp, lt2, _, plates, c, rfl, hy9.mono e10, k10.pl, r10, by omega, by omega, c0, by omega, fun H11 q11 e11 r11 => ?_⟩
      have k11 := (k10.grow e11).lay r11
      obtain ⟨rs, h1, h2⟩ := k11.run
      refine ⟨_, rfl, .inl ⟨rfl, _, SqL.of h1⟩, _, rfl, len2, fun u hu => ?_⟩
      have k12 := k11.grow (Ex.new (o := .tup [V.str "lay", .int c]) hu)
      have h1' := (Ex.new (o := .tup [V.str "lay", .int c]) hu) _ _ h1
      refine ⟨lr, rs, _, rfl, rfl, h1', Nat.lt_of_le_of_lt (by rw [pair_len h2]; omega : rs.length ≤ 1000) (by decide), ?_⟩
      refine ⟨_, _, _, _, _, _, _, rfl, k12.step h1' (Paired.mapP h2 fun _ _ q => q.mono (Ex.new hu)) (st := ("lay", c)) ⟨u, rfl, SqT.of upd_same⟩, by rw [List.length_append, List.length_singleton, sl], fun s hs => ?_, by omega, jb, by rw [laid_len]; exact np⟩
      rcases List.mem_append.mp hs with z | z
      · exact sb s z
      · rw [List.mem_singleton.mp z]
        exact ⟨.inr rfl, c0, by show c < 100; omega⟩
  · rintro σ Hc ⟨ss, js, plates, pp, y6, y7, y8, rfl, kc, sl, sb, jl, jb, np⟩
    obtain ⟨rs, h1, h2⟩ := kc.run
    refine ⟨_, rfl, lr, _, rfl, .inl ⟨SqL.of h1, fun a ha => ⟨_, rfl, lj, _, rfl, .inl ⟨SqL.of ((Ex.new ha) _ _ kc.jr), fun b hb => ⟨_, rfl, len3, fun t ht => ?_⟩⟩⟩⟩⟩
    have x1 := ((Ex.new (o := .tup rs) ha).trans (Ex.new (o := .tup (js.map V.int)) hb)).trans (Ex.new (o := .tup [V.ref a, .ref b, .ref pp]) ht)
    have kz := kc.grow x1
    refine k _ _ ss kz.ex (kz.pool.sub fun a h => .inl (.inl h)) ⟨t, a, b, pp, rs, rfl, SqT.of upd_same, ?_, Paired.mapP h2 fun _ _ q => q.mono x1⟩ (by omega) sb
    exact ex_t ((Ex.new hb).trans (Ex.new ht)) (SqT.of upd_same)
end
end K28
/-! # The law's texts: how long they are -/
namespace K28
open PySem PySem.Spec PyProof.Rows L2
open Evl (Ex ex_l ex_t)
section
variable {X : Cx}
/-- over a list or a tuple -/
theorem pi_both {tg l : Expr} {tl : TE} (hl : PE X l tl) : PI X tg l (fun σ H R => iList X.K tl σ H R ∨ iTup X.K tl σ H R) := by
  refine ⟨fun pins s σ H R I h => ?_⟩
  rcases h with h | h
  · exact (pi_list hl).run pins s σ H R I h
  · exact (pi_tup hl).run pins s σ H R I h
/-- str of a text or of an int -/
theorem call_strW : CallR X (.type "str") (fun xs H Q => (∃ a, xs = [.str a] ∧ Q (.str a) H) ∨ ∃ i, xs = [.int i] ∧ i.natAbs.log2 < 1920 ∧ Q (.str (toString i)) H) := CallR.or SkE.call_str_str call_str_int
end
/-! comprehensions over pairs -/
section
variable {K : PySem.W.Frag} {J : It} {n a b : Nat} {Gd : Hp → Prop} {Y : Nat → Hp → V → Hp → Prop} {te : TE} {vs : List Nat} {σ : L2.St} {H1 : Hp} {D : Addr} {Qd : Hp → Prop}
theorem lc_pair (hD : H1 D = none) (w : Walk J n Gd Y) (hY : ∀ i H x H', Y i H x H' → Ex H H') (hw : ∀ x y, wipe (((wipe σ vs).set a (some x)).set b (some y)) vs = wipe σ vs) (src : ∀ H, Ex H1 H → Gd H) (hn : n ≤ 100000) (R : Nat → V → Hp → Prop)
    (mono : ∀ i y H H', ExL H H' → R i y H → R i y H') (turn : ∀ i x H H', i < n → Ex H1 H → Y i H x H' → ∃ (t : Addr) (u1 u2 : V), x = .ref t ∧ SqT K H' t [u1, u2] ∧ Gives te (((wipe σ vs).set a (some u1)).set b (some u2)) H' (R i))
    (done : ∀ H acc, Ex H1 H → H D = some (.lst acc) → acc.length = n → (∀ (i : Nat) y, acc[i]? = some y → R i y H) → Qd H) :
    ∃ W : Nat → Nat → Hp → Prop, (∃ m, W 0 m (upd H1 D (.lst []))) ∧ ∀ i m H, W i m H →
      (J.stop i H ∧ Qd H) ∨ (J.go i H ∧ ∃ Nx : Hp → Prop, (∀ H', Nx H' → ∃ m', m' < m ∧ W (i + 1) m' H') ∧ ∀ x H', J.yld i H x H' → gTup K 2 (gCons (gName a) (gCons (gName b) gNil)) x (wipe σ vs) H' fun σ2 H2 => wipe σ2 vs = wipe σ vs ∧ tYes σ2 H2 fun b H3 =>
        if b = true then te σ2 H3 fun y H4 => ∃ acc, H4 D = some (.lst acc) ∧ acc.length < sizeLine ∧ Nx (upd H4 D (.lst (acc ++ [y]))) else Nx H3) := by
  refine lc_it w (fun i H => Ex H1 H ∧ ∃ acc : List V, H D = some (.lst acc) ∧ acc.length = i ∧ ∀ k y, acc[k]? = some y → R k y H) ⟨ex_upd (Ex.refl H1) hD, [], upd_same, rfl, fun k y h => by simp at h⟩ (fun i H _ p => src H p.1) ?_ ?_
  · rintro i x H H' hi ⟨e, acc, hA, hl, hR⟩ y
    obtain ⟨t, u1, u2, rfl, hT, g⟩ := turn i x H H' hi e y
    refine ⟨t, _, rfl, hT, rfl, _, _, rfl, _, _, rfl, rfl, hw u1 u2, yes_of ?_⟩
    refine g _ fun v H4 e4 r => ?_
    have e2 : Ex H H4 := (hY i H _ H' y).trans e4
    refine ⟨acc, e2 _ _ hA, Nat.lt_of_le_of_lt (by omega : acc.length ≤ 100000) (by decide), ex_upd (e.trans e2) hD, _, upd_same, by rw [List.length_append, List.length_singleton, hl], fun k u hk => ?_⟩
    have grow : ∀ {k u}, R k u H4 → R k u (upd H4 D (.lst (acc ++ [v]))) := fun {k u} q => mono k u _ _ (exl_upd (e2 _ _ hA)) q
    by_cases hk2 : k < acc.length
    · rw [List.getElem?_append_left hk2] at hk
      exact grow (mono k u _ _ (.of e2) (hR k u hk))
    · have : k = acc.length := by
        have := (List.getElem?_eq_some_iff.mp hk).1
        rw [List.length_append, List.length_singleton] at this
        omega
      subst this
      rw [List.getElem?_append_right (Nat.le_refl _), Nat.sub_self] at hk
      have : v = u := Option.some.inj hk
      subst this
      rw [hl]
      exact grow r
  · rintro H ⟨e, acc, hA, hl, hR⟩
    exact done H acc e hA hl hR
end
/-! ### how long -/
/-- what texts weigh, glued with one sign each -/
def wt (ys : List Str) : Nat := (ys.map (·.length)).sum + ys.length
theorem wt_app (a b : List Str) : wt (a ++ b) = wt a + wt b := by
  unfold wt
  rw [List.map_append, List.sum_append, List.length_append]
  omega
theorem wt_cut (a : List Str) (n : Nat) : wt (a.take n) + wt (a.drop n) = wt a := by rw [← wt_app, List.take_append_drop]
theorem wt_one (y : Str) : wt [y] = y.length + 1 := by
  unfold wt
  simp
theorem wt_le {ys : List Str} {B : Nat} (h : ∀ y ∈ ys, y.length ≤ B) : wt ys ≤ ys.length * (B + 1) := by
  induction ys with
  | nil => exact Nat.zero_le _
  | cons y r ih =>
    have h1 := h y List.mem_cons_self
    have h2 := ih fun z hz => h z (List.mem_cons_of_mem _ hz)
    have e : wt (y :: r) = (y.length + 1) + wt r := by
      have := wt_app [y] r
      rw [wt_one] at this
      exact this
    rw [e, List.length_cons, Nat.add_mul, Nat.one_mul]
    omega
theorem join_wt {y : Str} (h : y.length ≤ 1) (ys : List Str) : (Txt.join y ys).length ≤ wt ys := by
  have h1 := join_len y ys
  have h2 : ys.length * y.length ≤ ys.length * 1 := Nat.mul_le_mul_left _ h
  unfold wt
  omega
theorem split_wt (x : Str) {y : Str} (h : IsMark y) : wt (Txt.split x y) = x.length + 1 := split_sum x h
theorem two_digits : ∀ n : Nat, n < 100 → (Str.ofString (toString (n : Int))).length ≤ 2 := by
  have h : (List.range 100).all (fun n => decide ((Str.ofString (toString (n : Int))).length ≤ 2)) = true := by decide +kernel
  intro n hn
  exact of_decide_eq_true (List.all_eq_true.mp h n (List.mem_range.mpr hn))
theorem log_small {i : Int} (h0 : 0 ≤ i) (h1 : i < 100) : i.natAbs.log2 < 1920 := Nat.lt_of_le_of_lt (Nat.log2_le_self _) (by omega)
/-- a word of a line -/
def WordV (v : V) : Prop := (∃ s : Str, v = .str s ∧ s.length ≤ 5) ∨ ∃ i : Int, v = .int i ∧ 0 ≤ i ∧ i < 100
theorem strs_of_acc {n B : Nat} {acc : List V} (hl : acc.length = n) (h : ∀ (i : Nat) y, acc[i]? = some y → ∃ z : Str, y = .str z ∧ z.length ≤ B) : ∃ zs : List Str, acc = zs.map V.str ∧ zs.length = n ∧ ∀ z ∈ zs, z.length ≤ B := by
  induction acc generalizing n with
  | nil => exact ⟨[], rfl, hl, fun z hz => (by cases hz)⟩
  | cons y acc ih =>
    obtain ⟨z, rfl, hz⟩ := h 0 y rfl
    obtain ⟨zs, rfl, h2, h3⟩ := ih rfl fun i y hy => h (i + 1) y hy
    refine ⟨z :: zs, rfl, by rw [← hl]; simp, fun u hu => ?_⟩
    rcases List.mem_cons.mp hu with q | q
    · rw [q]; exact hz
    · exact h3 u q
section
variable {P : Program} {w : World} {K : PySem.W.Frag} {mg : Str → Option Value} {base : Heap}
def spLine (K : PySem.W.Frag) : Sp := fun vs H Q _ => ∃ (a : Addr) (xs : List V), vs = [.ref a] ∧ (SqL K H a xs ∨ SqT K H a xs) ∧ xs.length ≤ 6 ∧ (∀ x ∈ xs, WordV x) ∧ ∀ H' (z : Str), Ex H H' → z.length ≤ 36 → Q (.str z) H'
abbrev s__law_line : Stmt := top 68
abbrev N__law_line : List Str := ["_law_words", "_law_word"]
abbrev p__law_line : List Str := ["_law_words"]
theorem sc__law_line : FnScope N__law_line p__law_line (defScope s__law_line) := ⟨rfl, rfl, rfl, by decide +kernel, rfl, by decide +kernel, by decide +kernel⟩
theorem ok__law_line (D : Dn K mg "_law_line" s__law_line p__law_line) (T : Txt K mg) : C8.Cal P w K mg base 1 "_law_line" (spLine K) [] := by
  refine D.ok sc__law_line (fun vs H Q E h => ?_) (fun f cdv A outer s H vs Q E hr h => ?_)
  · obtain ⟨a, xs, rfl, _⟩ := h
    rfl
  obtain ⟨a, xs, rfl, hq, hl, hx, k⟩ := h
  refine ⟨_, (pss_one (ps_ret (pe_join pe_str (pe_lc (own := [("_law_word", 1)]) (g := gName 1) (tt := tYes) rfl sc__law_line.nd (pi_both (pv 0)) (blkOk_by (N := N__law_line) (sc := defScope s__law_line) (by decide +kernel)) (fun _ _ _ _ _ => (pg_name (i := 1) sc__law_line.nd rfl (Or.inl rfl))) (fun _ _ _ _ _ => pts_nil) (fun _ _ _ _ _ => (pe_callTy call_strW (by rfl) T.str (by decide +kernel) (pa_cons (pv 1) pa_nil))))))), ?_⟩
  have turn : ∀ {x : V} {H' : Hp} {σ : L2.St} {Q' : VK}, x ∈ xs → (∀ y H2, Ex H' H2 → (∃ z : Str, y = .str z ∧ z.length ≤ 5) → Q' y H2) →
      tCB (fun xs H Q => (∃ a, xs = [V.str a] ∧ Q (V.str a) H) ∨ ∃ i, xs = [V.int i] ∧ i.natAbs.log2 < 1920 ∧ Q (V.str (Str.ofString (toString i))) H) (tCons (fun _ H Q => Q x H) tNil) σ H' Q' := fun {x H' σ Q'} hxm q => by
    rcases hx x hxm with ⟨z, rfl, hz⟩ | ⟨i, rfl, h0, h1⟩
    · exact .inl ⟨z, rfl, q _ _ (Ex.refl _) ⟨z, rfl, hz⟩⟩
    · refine .inr ⟨i, rfl, log_small h0 h1, q _ _ (Ex.refl _) ⟨_, rfl, ?_⟩⟩
      have := two_digits i.toNat (by omega)
      rw [nat_of h0] at this
      omega
  have done : ∀ (D : Addr) (H1 : Hp) (acc : List V), Ex H H1 → H1 D = some (.lst acc) → acc.length = xs.length → (∀ (i : Nat) y, acc[i]? = some y → ∃ z : Str, y = .str z ∧ z.length ≤ 5) →
      ∃ (a : Str) (p : Addr) (ys : List Str), V.str " " = V.str a ∧ [V.ref D] = [V.ref p] ∧ (SqL K H1 p (ys.map V.str) ∨ SqT K H1 p (ys.map V.str)) ∧ (ys.map (·.length)).sum + ys.length * a.length ≤ 16777216 ∧ Q (V.str (Txt.join a ys)) H1 := fun D H1 acc e1 hA hla hR => by
    obtain ⟨zs, rfl, hzl, hzb⟩ := strs_of_acc hla hR
    have hw := wt_le hzb
    have hm : zs.length * (5 + 1) ≤ 6 * 6 := Nat.mul_le_mul_right _ (by omega : zs.length ≤ 6)
    refine ⟨" ", D, zs, rfl, rfl, .inl (SqL.of hA), ?_, k _ _ e1 (Nat.le_trans (join_wt (by decide) zs) (by omega))⟩
    have : zs.length * (" " : Str).length ≤ zs.length * 1 := Nat.mul_le_mul_left _ (by decide)
    unfold wt at hw
    omega
  rcases hq with hq | hq
  · refine ⟨⟨_, rfl⟩, .inl ⟨_, rfl, a, rfl, ⟨_, hq⟩, fun D hD => lc_pure hD (walk_list (xs := xs)) yat_ex (fun _ => rfl) (fun H' e => ex_l e hq) (by omega) (fun i y _ => ∃ z : Str, y = .str z ∧ z.length ≤ 5) (fun _ _ _ _ _ h => h) ?_ ?_⟩⟩
    · rintro i v H1 H2 _ _ ⟨rfl, hv⟩ Q' q
      exact ⟨_, rfl, turn (σ := []) (List.mem_of_getElem? hv) q⟩
    · intro H1 acc e1 hA hla hR
      exact done D H1 acc e1 hA hla hR
  · refine ⟨⟨_, rfl⟩, .inr ⟨_, rfl, a, rfl, ⟨_, hq⟩, fun D hD => lc_pure hD (walk_tup (xs := xs)) yat_ex (fun _ => rfl) (fun H' e => ex_t e hq) (by omega) (fun i y _ => ∃ z : Str, y = .str z ∧ z.length ≤ 5) (fun _ _ _ _ _ h => h) ?_ ?_⟩⟩
    · rintro i v H1 H2 _ _ ⟨rfl, hv⟩ Q' q
      exact ⟨_, rfl, turn (σ := []) (List.mem_of_getElem? hv) q⟩
    · intro H1 acc e1 hA hla hR
      exact done D H1 acc e1 hA hla hR
/-! ### words glued by commas -/
def spJoined (K : PySem.W.Frag) : Sp := fun vs H Q _ => ∃ (a : Addr) (ws : List Str), vs = [.ref a] ∧ SqL K H a (ws.map V.str) ∧ ws.length ≤ 15 ∧ (∀ z ∈ ws, z.length ≤ 36) ∧ ∀ H' (z : Str), Ex H H' → z.length ≤ 600 → Q (.str z) H'
abbrev s__law_joined : Stmt := top 70
abbrev N__law_joined : List Str := ["_law_words"]
abbrev p__law_joined : List Str := ["_law_words"]
theorem sc__law_joined : FnScope N__law_joined p__law_joined (defScope s__law_joined) := ⟨rfl, rfl, rfl, by decide +kernel, rfl, by decide +kernel, by decide +kernel⟩
theorem ok__law_joined (D : Dn K mg "_law_joined" s__law_joined p__law_joined) (T : Txt K mg) : C8.Cal P w K mg base 1 "_law_joined" (spJoined K) [] := by
  refine D.ok sc__law_joined (fun vs H Q E h => ?_) (fun f cdv A outer s H vs Q E hr h => ?_)
  · obtain ⟨a, ws, rfl, _⟩ := h
    rfl
  obtain ⟨a, ws, rfl, hL, hl, hb, k⟩ := h
  refine ⟨_, (pss_one (ps_ret (pe_ifExp (pt_cmpR op_gt (pe_callB call_len_seq (by rfl) T.len (by decide +kernel) (pa_cons (pv 0) pa_nil)) pe_int (nomark _)) (pe_join pe_str (pv 0)) pe_str))), ?_⟩
  have hw := wt_le hb
  have hm : ws.length * (36 + 1) ≤ 15 * 37 := Nat.mul_le_mul_right _ hl
  refine ⟨_, rfl, a, _, rfl, .inl hL, _, _, rfl, rfl, _, rfl, ?_⟩
  refine ite2 (fun _ => ?_) (fun _ => ?_)
  · refine ⟨⟨_, rfl⟩, _, rfl, ",", a, ws, rfl, rfl, .inl hL, ?_, k _ _ (Ex.refl _) (Nat.le_trans (join_wt (by decide) ws) (by omega))⟩
    have : ws.length * ("," : Str).length ≤ ws.length * 1 := Nat.mul_le_mul_left _ (by decide)
    unfold wt at hw
    omega
  · exact k _ _ (Ex.refl _) (by decide)
def spRunText (K : PySem.W.Frag) : Sp := fun vs H Q _ => ∃ (a : Addr) (xs : List V) (ss : List Stp), vs = [.ref a] ∧ SqT K H a xs ∧ Paired (StepAt K H) xs ss ∧ ss.length ≤ 15 ∧ (∀ s ∈ ss, (s.1 = "do" ∨ s.1 = "lay") ∧ 0 ≤ s.2 ∧ s.2 < 100) ∧ ∀ H' (z : Str), Ex H H' → z.length ≤ 600 → Q (.str z) H'
abbrev s__law_run_text : Stmt := top 71
abbrev N__law_run_text : List Str := ["_law_run", "_law_step"]
abbrev p__law_run_text : List Str := ["_law_run"]
theorem sc__law_run_text : FnScope N__law_run_text p__law_run_text (defScope s__law_run_text) := ⟨rfl, rfl, rfl, by decide +kernel, rfl, by decide +kernel, by decide +kernel⟩
theorem ok__law_run_text (D : Dn K mg "_law_run_text" s__law_run_text p__law_run_text) (T : Txt K mg) (c__law_line : C8.Cal P w K mg base 1 "_law_line" (spLine K) []) (c__law_joined : C8.Cal P w K mg base 1 "_law_joined" (spJoined K) []) : C8.Cal P w K mg base 2 "_law_run_text" (spRunText K) [] := by
  refine D.ok sc__law_run_text (fun vs H Q E h => ?_) (fun f cdv A outer s H vs Q E hr h => ?_)
  · obtain ⟨a, xs, ss, rfl, _⟩ := h
    rfl
  obtain ⟨a, xs, ss, rfl, hT, hp, hl, hb, k⟩ := h
  have hlen := pair_len hp
  refine ⟨_, (pss_one (ps_ret (C8.pe_c c__law_joined hr (by decide) (by rfl) (pa_cons (pe_lc (own := [("_law_step", 1)]) (g := gName 1) (tt := tYes) rfl sc__law_run_text.nd (pi_tup (pv 0)) (blkOk_by (N := N__law_run_text) (sc := defScope s__law_run_text) (by decide +kernel)) (fun _ _ _ _ _ => (pg_name (i := 1) sc__law_run_text.nd rfl (Or.inl rfl))) (fun _ _ _ _ _ => pts_nil) (fun _ _ _ _ _ => (C8.pe_c c__law_line hr (by decide) (by rfl) (pa_cons (pv 1) pa_nil)))) pa_nil)))), ?_⟩
  refine ⟨_, rfl, a, rfl, ⟨_, hT⟩, fun D hD => lc_pure hD (walk_tup (xs := xs)) yat_ex (fun _ => rfl) (fun H' e => ex_t e hT) (by omega) (fun i y _ => ∃ z : Str, y = .str z ∧ z.length ≤ 36) (fun _ _ _ _ _ h => h) ?_ ?_⟩
  · rintro i v H1 H2 _ e1 ⟨rfl, hv⟩ Q' q
    obtain ⟨st, hst, b, rfl, hb2⟩ := pair_get hp hv
    obtain ⟨hw, h0, h1⟩ := hb st (List.mem_of_getElem? hst)
    refine ⟨_, rfl, b, _, rfl, .inr (ex_t e1 hb2), show 2 ≤ 6 by decide, fun x hx => ?_, fun H' z e' hz => q _ _ e' ⟨z, rfl, hz⟩⟩
    rcases List.mem_cons.mp hx with rfl | hx
    · refine .inl ⟨st.1, rfl, ?_⟩
      rcases hw with e | e <;> rw [e] <;> decide
    · rw [List.mem_singleton.mp hx]
      exact .inr ⟨st.2, rfl, h0, h1⟩
  · intro H1 acc e1 hA hla hR
    obtain ⟨zs, rfl, hzl, hzb⟩ := strs_of_acc hla hR
    exact ⟨D, zs, rfl, SqL.of hA, by omega, hzb, fun H' z e' hz => k H' z (e1.trans e') hz⟩
def spTabText (K : PySem.W.Frag) : Sp := fun vs H Q _ => ∃ (v : V) (n : Int) (ks : List Kd), vs = [v] ∧ SpecAt K H v n ks ∧ tableOut n ks = none ∧ ks.length ≤ 17 ∧ ∀ H' (z : Str), Ex H H' → z.length ≤ 700 → Q (.str z) H'
abbrev s__law_table_text : Stmt := top 69
abbrev N__law_table_text : List Str := ["_law_spec_here", "_law_lines", "_law_cell", "_law_reads_here", "_law_line_here"]
abbrev p__law_table_text : List Str := ["_law_spec_here"]
theorem sc__law_table_text : FnScope N__law_table_text p__law_table_text (defScope s__law_table_text) := ⟨rfl, rfl, rfl, by decide +kernel, rfl, by decide +kernel, by decide +kernel⟩
theorem ok__law_table_text (D : Dn K mg "_law_table_text" s__law_table_text p__law_table_text) (T : Txt K mg) (c__law_line : C8.Cal P w K mg base 1 "_law_line" (spLine K) []) : C8.Cal P w K mg base 2 "_law_table_text" (spTabText K) [] := by
  refine D.ok sc__law_table_text (fun vs H Q E h => ?_) (fun f cdv A outer s H vs Q E hr h => ?_)
  · obtain ⟨v, n, ks, rfl, _⟩ := h
    rfl
  obtain ⟨v, n, ks, rfl, ⟨sp, pk, rfl, hs, xk, hk, hkp⟩, hok, h17, k⟩ := h
  obtain ⟨hn, hkl, hkd⟩ := table_ok hok
  have hlen := pair_len hkp
  refine ⟨_, (pss_cons (ps_set (i := 1) sc__law_table_text.nd rfl (Or.inl rfl) (pe_op op_cat (pe_lst (pa_cons (C8.pe_c c__law_line hr (by decide) (by rfl) (pa_cons (pe_lst (pa_cons pe_str (pa_cons (pe_ix ix_tup (pv 0) pe_int (fun _ _ => rfl)) pa_nil))) pa_nil)) pa_nil)) (pe_lc (own := [("_law_cell", 2), ("_law_reads_here", 3)]) (g := gTup K 2 (gCons (gName 2) (gCons (gName 3) gNil))) (tt := tYes) rfl sc__law_table_text.nd (pi_tup (pe_ix ix_tup (pv 0) pe_int (fun _ _ => rfl))) (blkOk_by (N := N__law_table_text) (sc := defScope s__law_table_text) (by decide +kernel)) (fun _ _ _ _ _ => (pg_tup rfl (pgs_cons (pg_name (i := 2) sc__law_table_text.nd rfl (Or.inl rfl)) (pgs_cons (pg_name (i := 3) sc__law_table_text.nd rfl (Or.inl rfl)) pgs_nil)))) (fun _ _ _ _ _ => pts_nil) (fun _ _ _ _ _ => (C8.pe_c c__law_line hr (by decide) (by rfl) (pa_cons (pe_op (op_catAK (K := K)) (pe_tup (pa_cons pe_str (pa_cons (pv 2) pa_nil))) (pv 3)) pa_nil))))))
  (pss_one (ps_ret (pe_join pe_str (pe_lc (own := [("_law_line_here", 4)]) (g := gName 4) (tt := tYes) rfl sc__law_table_text.nd (pi_list (pv 1)) (blkOk_by (N := N__law_table_text) (sc := defScope s__law_table_text) (by decide +kernel)) (fun _ _ _ _ _ => (pg_name (i := 4) sc__law_table_text.nd rfl (Or.inl rfl))) (fun _ _ _ _ _ => pts_nil) (fun _ _ _ _ _ => (pe_op op_add_str (pv 4) pe_str))))))), ?_⟩
  -- [_law_line(['cells', spec[0]])]
  refine ⟨_, rfl, sp, _, 0, .int n, rfl, rfl, hs, rfl, len2, fun q1 hq1 => ?_⟩
  have e1 : Ex H (upd H q1 (.lst [V.str "cells", .int n])) := Ex.new hq1
  have r1 : SqL K (upd H q1 (.lst [V.str "cells", .int n])) q1 [V.str "cells", .int n] := SqL.of upd_same
  generalize upd H q1 (.lst [V.str "cells", .int n]) = H1 at e1 r1 ⊢
  refine ⟨q1, _, rfl, .inl r1, show 2 ≤ 6 by decide, fun x hx => ?_, fun H2 z0 e2 hz0 => ⟨len1, fun q2 hq2 => ?_⟩⟩
  · rcases List.mem_cons.mp hx with rfl | hx
    · exact .inl ⟨"cells", rfl, by decide⟩
    · rw [List.mem_singleton.mp hx]
      exact .inr ⟨n, rfl, by omega, by omega⟩
  have e3 : Ex H2 (upd H2 q2 (.lst [V.str z0])) := Ex.new hq2
  have r3 : upd H2 q2 (.lst [V.str z0]) q2 = some (.lst [V.str z0]) := upd_same
  generalize upd H2 q2 (.lst [V.str z0]) = H3 at e3 r3 ⊢
  have E3 := (e1.trans e2).trans e3
  -- [_law_line(('kind', cell) + reads) for cell, reads in spec[1]]
  refine ⟨_, rfl, sp, _, 1, .ref pk, rfl, rfl, ex_t E3 hs, rfl, pk, rfl, ⟨_, ex_t E3 hk⟩, fun D hD => lc_pair hD (walk_tup (xs := xk)) yat_ex (fun _ _ => rfl) (fun H' e => ex_t (E3.trans e) hk) (by omega) (fun i y _ => ∃ z : Str, y = .str z ∧ z.length ≤ 36) (fun _ _ _ _ _ h => h) ?_ ?_⟩
  · rintro i v H4 H5 _ e4 ⟨rfl, hv⟩
    obtain ⟨kd, hkd', a, r, rfl, ha, hr'⟩ := pair_get hkp hv
    obtain ⟨b1, b2, b3⟩ := kind_bd (hkd kd (List.mem_of_getElem? hkd'))
    refine ⟨a, _, _, rfl, ex_t (E3.trans e4) ha, fun Q' q => ?_⟩
    refine ⟨_, rfl, len2, fun q5 hq5 => ⟨_, rfl, ?_⟩⟩
    have hr5 := ex_t ((E3.trans e4).trans (Ex.new (o := .tup [V.str "kind", .int kd.1]) hq5)) hr'
    refine use_cat (xs := [V.str "kind", .int kd.1]) (SqT.of upd_same) hr5 (by rw [List.length_map]; show 2 + _ ≤ _; omega) fun q6 H6 e6 r6 => ?_
    refine ⟨q6, _, rfl, .inr r6, by rw [List.length_append, List.length_map]; show 2 + _ ≤ 6; omega, fun x hx => ?_, fun H' z e' hz => q _ _ (((Ex.new hq5).trans e6).trans e') ⟨z, rfl, hz⟩⟩
    rcases List.mem_append.mp hx with hx | hx
    · rcases List.mem_cons.mp hx with rfl | hx
      · exact .inl ⟨"kind", rfl, by decide⟩
      · rw [List.mem_singleton.mp hx]
        exact .inr ⟨kd.1, rfl, by omega, by omega⟩
    · obtain ⟨c, hc, rfl⟩ := List.mem_map.mp hx
      have := b2 c hc
      exact .inr ⟨c, rfl, by omega, by omega⟩
  intro H4 acc e4 hA hla hR
  obtain ⟨zs, rfl, hzl, hzb⟩ := strs_of_acc hla hR
  refine ⟨q2, D, _, _, rfl, rfl, e4 _ _ r3, hA, Nat.le_trans (by rw [List.length_map]; show 1 + _ ≤ 1000; omega) (by decide), fun q7 hq7 => ?_⟩
  have e7 : Ex H4 (upd H4 q7 (.lst ([V.str z0] ++ zs.map V.str))) := Ex.new hq7
  have r7 : SqL K (upd H4 q7 (.lst ([V.str z0] ++ zs.map V.str))) q7 ((z0 :: zs).map V.str) := SqL.of upd_same
  generalize upd H4 q7 (.lst ([V.str z0] ++ zs.map V.str)) = H7 at e7 r7 ⊢
  have hb0 : ∀ z ∈ z0 :: zs, z.length ≤ 36 := fun z hz => by
    rcases List.mem_cons.mp hz with q | q
    · rw [q]; exact hz0
    · exact hzb z q
  refine ⟨⟨_, rfl⟩, _, rfl, q7, rfl, ⟨_, r7⟩, fun D2 hD2 => lc_pure hD2 (walk_list (xs := (z0 :: zs).map V.str)) yat_ex (fun _ => rfl) (fun H' e => ex_l e r7) (by rw [List.length_map, List.length_cons]; omega) (fun i y _ => ∃ z : Str, y = .str z ∧ z.length ≤ 37) (fun _ _ _ _ _ h => h) ?_ ?_⟩
  · rintro i v H8 H9 _ e8 ⟨rfl, hv⟩ Q' q
    obtain ⟨z, hz, rfl⟩ := map_get hv
    have hzb' := hb0 z (List.mem_of_getElem? hz)
    refine ⟨_, rfl, z, "\n", rfl, rfl, Nat.le_trans (by show _ + 1 ≤ 100; omega) (by decide), q _ _ (Ex.refl _) ⟨_, rfl, ?_⟩⟩
    rw [app_len]
    show z.length + 1 ≤ 37
    omega
  · intro H8 acc8 e8 hA8 hla8 hR8
    obtain ⟨us, rfl, hul, hub⟩ := strs_of_acc hla8 hR8
    rw [List.length_map, List.length_cons] at hul
    have hw := wt_le hub
    have hm : us.length * (37 + 1) ≤ 18 * 38 := Nat.mul_le_mul_right _ (by omega : us.length ≤ 18)
    refine ⟨"", D2, us, rfl, rfl, .inl (SqL.of hA8), ?_, k _ _ ((((E3.trans e4).trans e7).trans e8)) (Nat.le_trans (join_wt (by decide) us) (by omega))⟩
    have : us.length * ("" : Str).length ≤ us.length * 1 := Nat.mul_le_mul_left _ (by decide)
    unfold wt at hw
    omega
end
end K28
/-! # Texts bent -/
namespace K28
open PySem PySem.Spec PyProof.Rows L2
open Evl (Ex ex_l ex_t)
theorem strs_ne (ws : List Str) (g s : Addr) (x y : Int) : ws.map V.str ≠ [.ref g, .ref s, .int x, .int y] := fun h => by
  cases ws with
  | nil => cases h
  | cons j r => rw [List.map_cons] at h; injection h with h; cases h
theorem pool_ne_strs {H : Hp} {p b : Addr} {N : Addr → Prop} {ys : List Str} (hP : PoolAt H p N) (hb : H b = some (.lst (ys.map V.str))) : b ≠ p := by
  rintro rfl
  obtain ⟨g, s, x, y, gs, ss, h1, _⟩ := hP
  rw [h1] at hb
  exact strs_ne ys _ _ _ _ (by injection hb with hb; injection hb with hb; exact hb.symm)
theorem cutV_strs (ys : List Str) (lo hi : Option Int) : cutV (ys.map V.str) lo hi = ((ys.drop (HT.sIx ys.length 0 lo)).take (HT.sIx ys.length ys.length hi - HT.sIx ys.length 0 lo)).map V.str := by
  unfold cutV
  rw [List.length_map, ← List.map_drop, ← List.map_take]
theorem wt_take_le (ys : List Str) (n : Nat) : wt (ys.take n) ≤ wt ys := by have := wt_cut ys n; omega
theorem wt_drop_le (ys : List Str) (n : Nat) : wt (ys.drop n) ≤ wt ys := by have := wt_cut ys n; omega
theorem wt_len (ys : List Str) : ys.length ≤ wt ys := by unfold wt; omega
section
variable {K : PySem.W.Frag}
theorem use_join {H : Hp} {b : Addr} {m : Str} {ys : List Str} {Q : VK} (hL : SqL K H b (ys.map V.str)) (hm : m.length ≤ 1) (hw : wt ys ≤ 1000000) (k : ∀ z : Str, z.length ≤ wt ys → Q (.str z) H) :
    ∃ (a : Str) (p : Addr) (zs : List Str), V.str m = V.str a ∧ [V.ref b] = [V.ref p] ∧ (SqL K H p (zs.map V.str) ∨ SqT K H p (zs.map V.str)) ∧ (zs.map (·.length)).sum + zs.length * a.length ≤ 16777216 ∧ Q (V.str (Txt.join a zs)) H := by
  refine ⟨m, b, ys, rfl, rfl, .inl hL, ?_, k _ (join_wt hm ys)⟩
  have : ys.length * m.length ≤ ys.length * 1 := Nat.mul_le_mul_left _ hm
  unfold wt at hw
  omega
end
section
variable {P : Program} {w : World} {K : PySem.W.Frag} {mg : Str → Option Value} {base : Heap}
def spBent (K : PySem.W.Frag) : Sp := fun vs H Q _ => ∃ (p wl : Addr) (x : Str) (ws : List Str) (N : Addr → Prop), vs = [.ref p, .str x, .ref wl] ∧ PoolAt H p N ∧ SqL K H wl (ws.map V.str) ∧ wl ≠ p ∧ 1 ≤ ws.length ∧ ws.length ≤ 1000 ∧ (∀ z ∈ ws, z.length ≤ 10) ∧ x.length ≤ 20000 ∧
  ∀ H' (z : Str), ExB p H H' → PoolAt H' p N → z.length ≤ 2 * x.length + 20 → Q (.str z) H'
abbrev s__law_bent_text : Stmt := top 78
abbrev N__law_bent_text : List Str := ["_law_pool_here", "_law_text", "_law_words", "_law_at", "_law_kind", "_law_mark", "_law_pieces", "_law_place"]
abbrev p__law_bent_text : List Str := ["_law_pool_here", "_law_text", "_law_words"]
theorem sc__law_bent_text : FnScope N__law_bent_text p__law_bent_text (defScope s__law_bent_text) := ⟨rfl, rfl, rfl, by decide +kernel, rfl, by decide +kernel, by decide +kernel⟩
theorem ok__law_bent_text (D : Dn K mg "_law_bent_text" s__law_bent_text p__law_bent_text) (T : Txt K mg) (c__law_draw : C8.Cal P w K mg base 1 "_law_draw" spDraw []) (c__law_pick : C8.Cal P w K mg base 2 "_law_pick" (spPick K) []) : C8.Cal P w K mg base 3 "_law_bent_text" (spBent K) [] := by
  refine D.ok sc__law_bent_text (fun vs H Q E h => ?_) (fun f cdv A outer s H vs Q E hr h => ?_)
  · obtain ⟨p, wl, x, ws, N, rfl, _⟩ := h
    rfl
  obtain ⟨p, wl, x, ws, N, rfl, hP, hws, nwl, wl1, wl2, hwb, hx, k⟩ := h
  have hz : x.length ≤ sizeLine := Nat.le_trans (by omega : x.length ≤ 100000) (by decide)
  have big : ∀ {n : Nat}, n ≤ 100000 → n ≤ sizeLine := fun h => Nat.le_trans h (by decide)
  refine ⟨_, (pss_cons (ps_set (i := 3) sc__law_bent_text.nd rfl (Or.inl rfl) (C8.pe_c c__law_draw hr (by decide) (by rfl) (pa_cons (pv 0) (pa_cons (pe_op op_add (pe_callB call_len_str (by rfl) T.len (by decide +kernel) (pa_cons (pv 1) pa_nil)) pe_int) pa_nil))))
  (pss_cons (ps_set (i := 4) sc__law_bent_text.nd rfl (Or.inl rfl) (C8.pe_c c__law_draw hr (by decide) (by rfl) (pa_cons (pv 0) (pa_cons pe_int pa_nil))))
  (pss_cons (ps_if (pt_cmpR op_eq (pv 4) pe_int (nomark _)) (pss_one (ps_ret (pe_op op_add_str (pe_op op_add_str (pe_slice sl_str (pv 1) po_none (po_some (pv 3))) (C8.pe_c c__law_pick hr (by decide) (by rfl) (pa_cons (pv 0) (pa_cons (pe_lst (pa_cons pe_str (pa_cons pe_str (pa_cons pe_str (pa_cons pe_str (pa_cons pe_str (pa_cons pe_str (pa_cons pe_str (pa_cons pe_str pa_nil))))))))) pa_nil)))) (pe_slice sl_str (pv 1) (po_some (pv 3)) po_none)))) pss_nil)
  (pss_cons (ps_if (pt_cmpR op_eq (pv 4) pe_int (nomark _)) (pss_one (ps_ret (pe_op op_add_str (pe_slice sl_str (pv 1) po_none (po_some (pv 3))) (pe_slice sl_str (pv 1) (po_some (pe_op op_add (pv 3) pe_int)) po_none)))) pss_nil)
  (pss_cons (ps_set (i := 5) sc__law_bent_text.nd rfl (Or.inl rfl) (C8.pe_c c__law_pick hr (by decide) (by rfl) (pa_cons (pv 0) (pa_cons (pe_lst (pa_cons pe_str (pa_cons pe_str (pa_cons pe_str pa_nil)))) pa_nil))))
  (pss_cons (ps_set (i := 6) sc__law_bent_text.nd rfl (Or.inl rfl) (pe_split (pv 1) (pv 5)))
  (pss_cons (ps_set (i := 7) sc__law_bent_text.nd rfl (Or.inl rfl) (C8.pe_c c__law_draw hr (by decide) (by rfl) (pa_cons (pv 0) (pa_cons (pe_callB call_len_seq (by rfl) T.len (by decide +kernel) (pa_cons (pv 6) pa_nil)) pa_nil))))
  (pss_cons (ps_if (pt_cmpR op_eq (pv 4) pe_int (nomark _)) (pss_one (ps_ret (pe_join (pv 5) (pe_op op_cat (pe_op op_cat (pe_slice sl_list (pv 6) po_none (po_some (pv 7))) (pe_lst (pa_cons (C8.pe_c c__law_pick hr (by decide) (by rfl) (pa_cons (pv 0) (pa_cons (pv 2) pa_nil))) pa_nil))) (pe_slice sl_list (pv 6) (po_some (pe_op op_add (pv 7) (C8.pe_c c__law_draw hr (by decide) (by rfl) (pa_cons (pv 0) (pa_cons pe_int pa_nil))))) po_none))))) pss_nil)
  (pss_cons (ps_if (pt_cmpR op_eq (pv 4) pe_int (nomark _)) (pss_one (ps_ret (pe_join (pv 5) (pe_op op_cat (pe_op op_cat (pe_slice sl_list (pv 6) po_none (po_some (pv 7))) (pe_slice sl_list (pv 6) (po_some (pv 7)) (po_some (pe_op op_add (pv 7) pe_int)))) (pe_slice sl_list (pv 6) (po_some (pv 7)) po_none))))) pss_nil)
  (pss_one (ps_ret (pe_ifExp (pt_cmpR op_eq (C8.pe_c c__law_draw hr (by decide) (by rfl) (pa_cons (pv 0) (pa_cons pe_int pa_nil))) pe_int (nomark _)) (pe_join (pv 5) (pe_op op_cat (pe_slice sl_list (pv 6) (po_some (pv 7)) po_none) (pe_slice sl_list (pv 6) po_none (po_some (pv 7))))) (pe_join (pv 5) (pe_slice sl_list (pv 6) po_none (po_some (pv 7)))))))))))))))), ?_⟩
  refine ⟨_, rfl, _, rfl, x, rfl, hz, _, _, rfl, rfl, p, _, N, rfl, hP, by omega, by omega, fun H1 at_ e1 hP1 a0 a1 => ?_⟩
  refine ⟨_, rfl, p, 5, N, rfl, hP1, by decide, by decide, fun H2 kd e2 hP2 d0 d1 => ?_⟩
  have E2 := e1.trans e2
  refine ⟨_, rfl, rfl, _, rfl, ?_⟩
  refine ite2 (fun _ => ?_) (fun _ => ?_)
  · -- a piece put in
    refine ⟨_, rfl, _, rfl, _, rfl, x, rfl, hz, ?_⟩
    have c1 := cutS_length x none (some at_)
    have c2 := cutS_length x (some at_) none
    refine ⟨_, rfl, show 8 ≤ sizeLine by decide, fun q hq => ⟨p, q, _, N, rfl, hP2.keep (Ex.new hq), SqL.of upd_same, hP2.ne hq, show 1 ≤ 8 by decide, show 8 ≤ 1000000 by decide, fun H3 v e3 hP3 hv => ?_⟩⟩
    obtain ⟨z, rfl, hzl⟩ : ∃ z : Str, v = .str z ∧ z.length ≤ 8 := by
      have all : ∀ u ∈ [V.str " ", .str ",", .str "\n", .str "0", .str "1", .str "-", .str "9", .str "12345678"], ∃ z : Str, u = .str z ∧ z.length ≤ 8 := by
        intro u hu
        simp only [List.mem_cons, List.not_mem_nil, or_false] at hu
        rcases hu with rfl | rfl | rfl | rfl | rfl | rfl | rfl | rfl <;> exact ⟨_, rfl, by decide⟩
      exact all v hv
    have l1 : (cutS x none (some at_) ++ z).length ≤ x.length + 8 := by rw [app_len]; omega
    refine ⟨_, _, rfl, rfl, big (by omega), _, rfl, _, rfl, _, rfl, x, rfl, hz, _, _, rfl, rfl, big (by omega), k _ _ ((E2.trans (.of (Ex.new hq))).trans e3) hP3 (by rw [app_len]; omega)⟩
  refine ⟨_, rfl, rfl, _, rfl, ?_⟩
  refine ite2 (fun _ => ?_) (fun _ => ?_)
  · have c1 := cutS_length x none (some at_)
    have c2 := cutS_length x (some (at_ + 1)) none
    exact ⟨_, rfl, _, rfl, _, rfl, x, rfl, hz, _, rfl, _, rfl, _, _, rfl, rfl, _, rfl, x, rfl, hz, _, _, rfl, rfl, big (by omega), k _ _ E2 hP2 (by rw [app_len]; omega)⟩
  -- mark = pick
  refine ⟨_, rfl, len3, fun q hq => ⟨p, q, _, N, rfl, hP2.keep (Ex.new hq), SqL.of upd_same, hP2.ne hq, show 1 ≤ 3 by decide, show 3 ≤ 1000000 by decide, fun H3 v e3 hP3 hv => ?_⟩⟩
  obtain ⟨mk, rfl, hmk⟩ : ∃ z : Str, v = .str z ∧ IsMark z := by
    have all : ∀ u ∈ [V.str " ", .str ",", .str "\n"], ∃ z : Str, u = .str z ∧ IsMark z := by
      intro u hu
      simp only [List.mem_cons, List.not_mem_nil, or_false] at hu
      rcases hu with rfl | rfl | rfl
      · exact ⟨_, rfl, mark_blank⟩
      · exact ⟨_, rfl, mark_comma⟩
      · exact ⟨_, rfl, mark_line⟩
    exact all v hv
  have hm1 : mk.length ≤ 1 := Nat.le_of_eq hmk.len
  have E3 := (E2.trans (.of (Ex.new (o := .lst [V.str " ", .str ",", .str "\n"]) hq))).trans e3
  have hws3 : SqL K H3 wl (ws.map V.str) := sql_draw hP E3 (strs_ne ws) hws
  have hwt := split_wt x hmk
  have hsp := split_pos x hmk
  have hsl := split_len x hmk
  refine ⟨_, rfl, ⟨x, rfl⟩, _, rfl, x, mk, rfl, rfl, hmk.ne0, Nat.le_trans (by omega : x.length + 2 ≤ 100000) (by decide), fun lp hlp => ?_⟩
  have e4 : Ex H3 (upd H3 lp (.lst ((Txt.split x mk).map V.str))) := Ex.new hlp
  have r4 : upd H3 lp (.lst ((Txt.split x mk).map V.str)) lp = some (.lst ((Txt.split x mk).map V.str)) := upd_same
  have hP4 := hP3.keep e4
  generalize upd H3 lp (.lst ((Txt.split x mk).map V.str)) = H4 at e4 r4 hP4 ⊢
  generalize Txt.split x mk = ys at r4 hwt hsp hsl
  have E4 := E3.trans (.of e4)
  refine ⟨_, rfl, _, rfl, lp, _, rfl, .inl (SqL.of r4), p, _, N, rfl, hP4, by rw [List.length_map]; omega, by rw [List.length_map]; omega, fun H5 pl e5 hP5 p0 p1 => ?_⟩
  have r5 := e5 _ _ (pool_ne_strs hP4 r4) r4
  have E5 := E4.trans e5
  have hws5 : SqL K H5 wl (ws.map V.str) := sql_draw hP3 ((ExB.of e4).trans e5) (strs_ne ws) hws3
  obtain ⟨m, rfl⟩ : ∃ m : Nat, pl = (m : Int) := ⟨pl.toNat, (nat_of p0).symm⟩
  have ctake : cutV (ys.map V.str) none (some (m : Int)) = (ys.take m).map V.str := by rw [cut_to, List.map_take]
  have cdrop : cutV (ys.map V.str) (some (m : Int)) none = (ys.drop m).map V.str := by rw [cut_from, List.map_drop]
  have hcut := wt_cut ys m
  refine ⟨_, rfl, rfl, _, rfl, ?_⟩
  refine ite2 (fun _ => ?_) (fun _ => ?_)
  · -- a piece put in another's place, or before it
    refine ⟨_, rfl, ⟨mk, rfl⟩, _, rfl, _, rfl, _, rfl, lp, _, rfl, SqL.of r5, fun l1 hl1 => ?_⟩
    rw [ctake]
    have e6 : Ex H5 (upd H5 l1 (.lst ((ys.take m).map V.str))) := Ex.new hl1
    have r6 : upd H5 l1 (.lst ((ys.take m).map V.str)) l1 = some (.lst ((ys.take m).map V.str)) := upd_same
    have hP6 := hP5.keep e6
    generalize upd H5 l1 (.lst ((ys.take m).map V.str)) = H6 at e6 r6 hP6 ⊢
    refine ⟨_, rfl, _, rfl, p, wl, _, N, rfl, hP6, ex_l e6 hws5, nwl, by rw [List.length_map]; omega, by rw [List.length_map]; omega, fun H7 v e7 hP7 hv => ⟨len1, fun l2 hl2 => ?_⟩⟩
    obtain ⟨wd, hwd, rfl⟩ := List.mem_map.mp hv
    have hwl := hwb wd hwd
    have r7 := e7 _ _ (pool_ne_strs hP6 r6) r6
    have q7 := e7 _ _ (pool_ne_strs hP6 (e6 _ _ r5)) (e6 _ _ r5)
    have e8 : Ex H7 (upd H7 l2 (.lst [V.str wd])) := Ex.new hl2
    have r8 : upd H7 l2 (.lst [V.str wd]) l2 = some (.lst [V.str wd]) := upd_same
    generalize upd H7 l2 (.lst [V.str wd]) = H8 at e8 r8 ⊢
    have hlt : (ys.take m).length ≤ 20001 := by rw [List.length_take]; omega
    refine ⟨l1, l2, _, _, rfl, rfl, e8 _ _ r7, r8, big (by rw [List.length_map]; show _ + 1 ≤ _; omega), fun l3 hl3 => ?_⟩
    have ec3 : (ys.take m).map V.str ++ [V.str wd] = (ys.take m ++ [wd]).map V.str := by rw [List.map_append]; rfl
    rw [ec3]
    have e9 : Ex H8 (upd H8 l3 (.lst ((ys.take m ++ [wd]).map V.str))) := Ex.new hl3
    have r9 : upd H8 l3 (.lst ((ys.take m ++ [wd]).map V.str)) l3 = some (.lst ((ys.take m ++ [wd]).map V.str)) := upd_same
    generalize upd H8 l3 (.lst ((ys.take m ++ [wd]).map V.str)) = H9 at e9 r9 ⊢
    have hP9 := (hP7.keep e8).keep e9
    refine ⟨_, rfl, _, rfl, _, rfl, p, 2, N, rfl, hP9, by decide, by decide, fun H10 dd e10 hP10 dd0 dd1 => ⟨_, dd, rfl, rfl, _, rfl, lp, _, rfl, SqL.of (e10 _ _ (pool_ne_strs hP9 ((e8.trans e9) _ _ q7)) ((e8.trans e9) _ _ q7)), fun l4 hl4 => ?_⟩⟩
    have r10 := e10 _ _ (pool_ne_strs hP9 r9) r9
    rw [show (m : Int) + dd = ((m + dd.toNat : Nat) : Int) by omega, cut_from, ← List.map_drop]
    have e11 : Ex H10 (upd H10 l4 (.lst ((ys.drop (m + dd.toNat)).map V.str))) := Ex.new hl4
    have r11 : upd H10 l4 (.lst ((ys.drop (m + dd.toNat)).map V.str)) l4 = some (.lst ((ys.drop (m + dd.toNat)).map V.str)) := upd_same
    generalize upd H10 l4 (.lst ((ys.drop (m + dd.toNat)).map V.str)) = H11 at e11 r11 ⊢
    refine ⟨l3, l4, _, _, rfl, rfl, e11 _ _ r10, r11, big (by rw [List.length_map, List.length_map, List.length_append, List.length_drop]; show _ + 1 + _ ≤ _; omega), fun l5 hl5 => ?_⟩
    rw [← List.map_append]
    have hw2 : wt (ys.drop (m + dd.toNat)) ≤ wt (ys.drop m) := by rw [← List.drop_drop]; exact wt_drop_le _ _
    have hwx : wt (ys.take m ++ [wd] ++ ys.drop (m + dd.toNat)) ≤ x.length + 12 := by rw [wt_app, wt_app, wt_one]; omega
    have E11 := ((((((E5.trans (.of e6)).trans e7).trans (.of e8)).trans (.of e9)).trans e10).trans (.of e11)).trans (.of (Ex.new (o := .lst ((ys.take m ++ [wd] ++ ys.drop (m + dd.toNat)).map V.str)) hl5))
    exact use_join (SqL.of upd_same) hm1 (by omega) fun z hz => k _ z E11 ((hP10.keep e11).keep (Ex.new hl5)) (by omega)
  refine ⟨_, rfl, rfl, _, rfl, ?_⟩
  refine ite2 (fun _ => ?_) (fun _ => ?_)
  · -- a piece twice
    refine ⟨_, rfl, ⟨mk, rfl⟩, _, rfl, _, rfl, _, rfl, lp, _, rfl, SqL.of r5, fun l1 hl1 => ?_⟩
    rw [ctake]
    have e6 : Ex H5 (upd H5 l1 (.lst ((ys.take m).map V.str))) := Ex.new hl1
    have r6 : upd H5 l1 (.lst ((ys.take m).map V.str)) l1 = some (.lst ((ys.take m).map V.str)) := upd_same
    generalize upd H5 l1 (.lst ((ys.take m).map V.str)) = H6 at e6 r6 ⊢
    refine ⟨_, rfl, _, rfl, _, rfl, _, rfl, _, _, rfl, rfl, _, rfl, lp, _, rfl, SqL.of (e6 _ _ r5), fun l2 hl2 => ?_⟩
    rw [show (m : Int) + 1 = ((m + 1 : Nat) : Int) by omega, cut_both, ← List.map_drop, ← List.map_take]
    have e7 : Ex H6 (upd H6 l2 (.lst (((ys.drop m).take (m + 1 - m)).map V.str))) := Ex.new hl2
    have r7 : upd H6 l2 (.lst (((ys.drop m).take (m + 1 - m)).map V.str)) l2 = some (.lst (((ys.drop m).take (m + 1 - m)).map V.str)) := upd_same
    generalize upd H6 l2 (.lst (((ys.drop m).take (m + 1 - m)).map V.str)) = H7 at e7 r7 ⊢
    have b1 : (ys.take m).length ≤ 20001 := by rw [List.length_take]; omega
    have b2 : ((ys.drop m).take (m + 1 - m)).length ≤ 20001 := by rw [List.length_take, List.length_drop]; omega
    refine ⟨l1, l2, _, _, rfl, rfl, e7 _ _ r6, r7, big (by rw [List.length_map, List.length_map]; omega), fun l3 hl3 => ?_⟩
    rw [← List.map_append]
    have e8 : Ex H7 (upd H7 l3 (.lst ((ys.take m ++ (ys.drop m).take (m + 1 - m)).map V.str))) := Ex.new hl3
    have r8 : upd H7 l3 (.lst ((ys.take m ++ (ys.drop m).take (m + 1 - m)).map V.str)) l3 = some (.lst ((ys.take m ++ (ys.drop m).take (m + 1 - m)).map V.str)) := upd_same
    generalize upd H7 l3 (.lst ((ys.take m ++ (ys.drop m).take (m + 1 - m)).map V.str)) = H8 at e8 r8 ⊢
    refine ⟨_, rfl, _, rfl, _, rfl, lp, _, rfl, SqL.of ((e6.trans (e7.trans e8)) _ _ r5), fun l4 hl4 => ?_⟩
    rw [cdrop]
    have e9 : Ex H8 (upd H8 l4 (.lst ((ys.drop m).map V.str))) := Ex.new hl4
    have r9 : upd H8 l4 (.lst ((ys.drop m).map V.str)) l4 = some (.lst ((ys.drop m).map V.str)) := upd_same
    generalize upd H8 l4 (.lst ((ys.drop m).map V.str)) = H9 at e9 r9 ⊢
    refine ⟨l3, l4, _, _, rfl, rfl, e9 _ _ r8, r9, big (by rw [List.length_map, List.length_map, List.length_append, List.length_drop]; omega), fun l5 hl5 => ?_⟩
    rw [← List.map_append]
    have hw2 := wt_take_le (ys.drop m) (m + 1 - m)
    have hwx : wt (ys.take m ++ (ys.drop m).take (m + 1 - m) ++ ys.drop m) ≤ 2 * x.length + 2 := by rw [wt_app, wt_app]; omega
    have x9 := ((e6.trans (e7.trans e8)).trans e9).trans (Ex.new (o := .lst ((ys.take m ++ (ys.drop m).take (m + 1 - m) ++ ys.drop m).map V.str)) hl5)
    exact use_join (SqL.of upd_same) hm1 (by omega) fun z hz => k _ z (E5.trans (.of x9)) (hP5.keep x9) (by omega)
  -- turned, or cut off
  refine ⟨_, rfl, p, 2, N, rfl, hP5, by decide, by decide, fun H6 tt e6 hP6 _ _ => ⟨rfl, _, rfl, ?_⟩⟩
  have r6 := e6 _ _ (pool_ne_strs hP5 r5) r5
  have E6 := E5.trans e6
  refine ite2 (fun _ => ?_) (fun _ => ?_)
  · refine ⟨_, rfl, ⟨mk, rfl⟩, _, rfl, _, rfl, _, rfl, lp, _, rfl, SqL.of r6, fun l1 hl1 => ?_⟩
    rw [cdrop]
    have e7 : Ex H6 (upd H6 l1 (.lst ((ys.drop m).map V.str))) := Ex.new hl1
    have r7 : upd H6 l1 (.lst ((ys.drop m).map V.str)) l1 = some (.lst ((ys.drop m).map V.str)) := upd_same
    generalize upd H6 l1 (.lst ((ys.drop m).map V.str)) = H7 at e7 r7 ⊢
    refine ⟨_, rfl, _, rfl, _, rfl, lp, _, rfl, SqL.of (e7 _ _ r6), fun l2 hl2 => ?_⟩
    rw [ctake]
    have e8 : Ex H7 (upd H7 l2 (.lst ((ys.take m).map V.str))) := Ex.new hl2
    have r8 : upd H7 l2 (.lst ((ys.take m).map V.str)) l2 = some (.lst ((ys.take m).map V.str)) := upd_same
    generalize upd H7 l2 (.lst ((ys.take m).map V.str)) = H8 at e8 r8 ⊢
    refine ⟨l1, l2, _, _, rfl, rfl, e8 _ _ r7, r8, big (by rw [List.length_map, List.length_map, List.length_drop, List.length_take]; omega), fun l3 hl3 => ?_⟩
    rw [← List.map_append]
    have hwx : wt (ys.drop m ++ ys.take m) ≤ x.length + 1 := by rw [wt_app]; omega
    have x8 := (e7.trans e8).trans (Ex.new (o := .lst ((ys.drop m ++ ys.take m).map V.str)) hl3)
    exact use_join (SqL.of upd_same) hm1 (by omega) fun z hz => k _ z (E6.trans (.of x8)) (hP6.keep x8) (by omega)
  · refine ⟨_, rfl, ⟨mk, rfl⟩, _, rfl, _, rfl, _, rfl, lp, _, rfl, SqL.of r6, fun l1 hl1 => ?_⟩
    rw [ctake]
    have hwx := wt_take_le ys m
    have x7 := Ex.new (o := .lst ((ys.take m).map V.str)) hl1
    exact use_join (SqL.of upd_same) hm1 (by omega) fun z hz => k _ z (E6.trans (.of x7)) (hP6.keep x7) (by omega)
end
end K28
/-! # What is told and what is due -/
namespace K28
open PySem PySem.Spec PyProof.Rows L2
open Evl (Ex ex_l ex_t)
/-- the same data: ints, texts, tuples of such, n levels deep -/
def Same (K : PySem.W.Frag) (H : Hp) : Nat → V → V → Prop
  | 0, _, _ => False
  | n + 1, u, v => (∃ i : Int, u = .int i ∧ v = .int i) ∨ (∃ x : Str, u = .str x ∧ v = .str x) ∨ ∃ (a b : Addr) (xs ys : List V), u = .ref a ∧ v = .ref b ∧ SqT K H a xs ∧ SqT K H b ys ∧ Paired (Same K H n) xs ys ∧ xs.length ≤ 50000
theorem Same.mono {K : PySem.W.Frag} {H H' : Hp} (e : Ex H H') : ∀ {n : Nat} {u v : V}, Same K H n u v → Same K H' n u v
  | 0, _, _, h => h.elim
  | n + 1, u, v, h => by
    rcases h with h | h | ⟨a, b, xs, ys, e1, e2, h1, h2, h3, h4⟩
    · exact .inl h
    · exact .inr (.inl h)
    · exact .inr (.inr ⟨a, b, xs, ys, e1, e2, ex_t e h1, ex_t e h2, Paired.mapP h3 fun _ _ q => Same.mono e q, h4⟩)
theorem same_int {K : PySem.W.Frag} {H : Hp} {n : Nat} (i : Int) : Same K H (n + 1) (.int i) (.int i) := .inl ⟨i, rfl, rfl⟩
theorem same_str {K : PySem.W.Frag} {H : Hp} {n : Nat} (x : Str) : Same K H (n + 1) (.str x) (.str x) := .inr (.inl ⟨x, rfl, rfl⟩)
theorem same_tup {K : PySem.W.Frag} {H : Hp} {n : Nat} {a b : Addr} {xs ys : List V} (h1 : SqT K H a xs) (h2 : SqT K H b ys) (h3 : Paired (Same K H n) xs ys) (h4 : xs.length ≤ 50000) : Same K H (n + 1) (.ref a) (.ref b) := .inr (.inr ⟨a, b, xs, ys, rfl, rfl, h1, h2, h3, h4⟩)
section
variable {P : Program} {w : World} {K : PySem.W.Frag} {mg : Str → Option Value} {base : Heap}
def spIs (K : PySem.W.Frag) (n : Nat) : Sp := fun vs H Q _ => ∃ u v : V, vs = [u, v] ∧ Same K H n u v ∧ ∀ H', Ex H H' → Q (.bl true) H'
abbrev s__law_is : Stmt := top 53
abbrev N__law_is : List Str := ["_law_told", "_law_due", "_law_at", "_law_key"]
abbrev p__law_is : List Str := ["_law_told", "_law_due"]
theorem sc__law_is : FnScope N__law_is p__law_is (defScope s__law_is) := ⟨rfl, rfl, rfl, by decide +kernel, rfl, by decide +kernel, by decide +kernel⟩
theorem ok__law_is0 (D : Dn K mg "_law_is" s__law_is p__law_is) : C8.Cal P w K mg base 1 "_law_is" (spIs K 0) [] := by
  refine D.ok sc__law_is (fun vs H Q E h => ?_) (fun f cdv A outer s H vs Q E hr h => ?_)
  · obtain ⟨u, v, rfl, _⟩ := h
    rfl
  · obtain ⟨u, v, rfl, q, _⟩ := h
    exact q.elim
theorem ok__law_isS {n : Nat} (D : Dn K mg "_law_is" s__law_is p__law_is) (T : Txt K mg) (c__law_is : C8.Cal P w K mg base (n + 1) "_law_is" (spIs K n) []) : C8.Cal P w K mg base (n + 2) "_law_is" (spIs K (n + 1)) [] := by
  refine D.ok sc__law_is (fun vs H Q E h => ?_) (fun f cdv A outer s H vs Q E hr h => ?_)
  · obtain ⟨u, v, rfl, _⟩ := h
    rfl
  obtain ⟨u, v, rfl, hs, k⟩ := h
  refine ⟨_, (pss_cons (ps_if (pt_val (pe_callB call_isiT (by rfl) T.isinstance (by decide +kernel) (pa_cons (pv 1) (pa_cons (pe_tup (pa_cons (pe_bltn (v := .ty "tuple") (by rfl) T.tuple (by decide +kernel) rfl) (pa_cons (pe_bltn (v := .ty "list") (by rfl) T.list (by decide +kernel) rfl) pa_nil))) pa_nil)))) (pss_cons (ps_if (PW.pt (pw_or (pt_cmpR op_ne (pe_callB call_isi (by rfl) T.isinstance (by decide +kernel) (pa_cons (pv 0) (pa_cons (pe_bltn (v := .ty "tuple") (by rfl) T.tuple (by decide +kernel) rfl) pa_nil))) (pe_callB call_isi (by rfl) T.isinstance (by decide +kernel) (pa_cons (pv 1) (pa_cons (pe_bltn (v := .ty "tuple") (by rfl) T.tuple (by decide +kernel) rfl) pa_nil))) (nomark _)) (pw_or1 (pt_cmpR op_ne (pe_callB call_isi (by rfl) T.isinstance (by decide +kernel) (pa_cons (pv 0) (pa_cons (pe_bltn (v := .ty "list") (by rfl) T.list (by decide +kernel) rfl) pa_nil))) (pe_callB call_isi (by rfl) T.isinstance (by decide +kernel) (pa_cons (pv 1) (pa_cons (pe_bltn (v := .ty "list") (by rfl) T.list (by decide +kernel) rfl) pa_nil))) (nomark _))))) (pss_one (ps_ret pe_bl)) pss_nil)
  (pss_one (ps_ret (pe_and (pe_cmpR op_eq (pe_callB call_len_seq (by rfl) T.len (by decide +kernel) (pa_cons (pv 0) pa_nil)) (pe_callB call_len_seq (by rfl) T.len (by decide +kernel) (pa_cons (pv 1) pa_nil)) (nomark _)) (pe_one (pe_callB (cr_all rfl) (by rfl) T.all (by decide +kernel) (pa_cons (pe_lc (own := [("_law_at", 2)]) (g := gName 2) (tt := tYes) rfl sc__law_is.nd (pi_range1 (by rfl) T.range (pa_cons (pe_callB call_len_seq (by rfl) T.len (by decide +kernel) (pa_cons (pv 1) pa_nil)) pa_nil)) (blkOk_by (N := N__law_is) (sc := defScope s__law_is) (by decide +kernel)) (fun _ _ _ _ _ => (pg_name (i := 2) sc__law_is.nd rfl (Or.inl rfl))) (fun _ _ _ _ _ => pts_nil) (fun _ _ _ _ _ => (C8.pe_c c__law_is hr (Nat.le_refl _) (by rfl) (pa_cons (pe_ix (ix_tupK (K := K)) (pv 0) (pv 2) (fun _ _ => rfl)) (pa_cons (pe_ix (ix_tupK (K := K)) (pv 1) (pv 2) (fun _ _ => rfl)) pa_nil))))) pa_nil))))))) pss_nil)
  (pss_cons (ps_if (pt_val (pe_callB call_isi (by rfl) T.isinstance (by decide +kernel) (pa_cons (pv 1) (pa_cons (pe_bltn (v := .ty "dict") (by rfl) T.dict (by decide +kernel) rfl) pa_nil)))) (pss_cons (ps_if (PW.pt (pw_or (pt_not (pt_val (pe_callB call_isi (by rfl) T.isinstance (by decide +kernel) (pa_cons (pv 0) (pa_cons (pe_bltn (v := .ty "dict") (by rfl) T.dict (by decide +kernel) rfl) pa_nil))))) (pw_or (pt_cmpR op_ne (pe_callB call_len_seq (by rfl) T.len (by decide +kernel) (pa_cons (pv 0) pa_nil)) (pe_callB call_len_seq (by rfl) T.len (by decide +kernel) (pa_cons (pv 1) pa_nil)) (nomark _)) (pw_or1 (pt_not (pt_val (pe_callB (cr_all rfl) (by rfl) T.all (by decide +kernel) (pa_cons (pe_lc (own := [("_law_key", 3)]) (g := gName 3) (tt := tYes) rfl sc__law_is.nd (pi_tup (pv 1)) (blkOk_by (N := N__law_is) (sc := defScope s__law_is) (by decide +kernel)) (fun _ _ _ _ _ => (pg_name (i := 3) sc__law_is.nd rfl (Or.inl rfl))) (fun _ _ _ _ _ => pts_nil) (fun _ _ _ _ _ => (pe_cmpR (op_in_seqK (K := K)) (pv 3) (pv 0) (by rfl)))) pa_nil)))))))) (pss_one (ps_ret pe_bl)) pss_nil)
  (pss_one (ps_ret (pe_callB (cr_all rfl) (by rfl) T.all (by decide +kernel) (pa_cons (pe_lc (own := [("_law_key", 3)]) (g := gName 3) (tt := tYes) rfl sc__law_is.nd (pi_tup (pv 1)) (blkOk_by (N := N__law_is) (sc := defScope s__law_is) (by decide +kernel)) (fun _ _ _ _ _ => (pg_name (i := 3) sc__law_is.nd rfl (Or.inl rfl))) (fun _ _ _ _ _ => pts_nil) (fun _ _ _ _ _ => (C8.pe_c c__law_is hr (Nat.le_refl _) (by rfl) (pa_cons (pe_ix (ix_tupK (K := K)) (pv 0) (pv 3) (fun _ _ => rfl)) (pa_cons (pe_ix (ix_tupK (K := K)) (pv 1) (pv 3) (fun _ _ => rfl)) pa_nil))))) pa_nil))))) pss_nil)
  (pss_cons (ps_if (pt_cmpR op_isN (pv 1) pe_non (nomark _)) (pss_one (ps_ret (pe_cmpR op_isN (pv 0) pe_non (nomark _)))) pss_nil)
  (pss_one (ps_ret (pe_and (pe_cmpR op_eq (pe_callB call_isi (by rfl) T.isinstance (by decide +kernel) (pa_cons (pv 0) (pa_cons (pe_bltn (v := .ty "bool") (by rfl) T.bool (by decide +kernel) rfl) pa_nil))) (pe_callB call_isi (by rfl) T.isinstance (by decide +kernel) (pa_cons (pv 1) (pa_cons (pe_bltn (v := .ty "bool") (by rfl) T.bool (by decide +kernel) rfl) pa_nil))) (nomark _)) (pe_and (pe_cmpR op_notN (pv 0) pe_non (nomark _)) (pe_one (pe_cmpR op_eq (pv 0) (pv 1) (nomark _)))))))))), ?_⟩
  have no2 : PySem.W.kitAny K (.type "int") [.type "tuple", .type "list"] = some false := kitAny_cons (kit_ty (r := false) (by decide +kernel)) (fun _ => kitAny_cons (kit_ty (r := false) (by decide +kernel)) (fun _ => kitAny_nil) (fun h => nomatch h)) (fun h => nomatch h)
  have no3 : PySem.W.kitAny K (.type "str") [.type "tuple", .type "list"] = some false := kitAny_cons (kit_ty (r := false) (by decide +kernel)) (fun _ => kitAny_cons (kit_ty (r := false) (by decide +kernel)) (fun _ => kitAny_nil) (fun h => nomatch h)) (fun h => nomatch h)
  have yes2 : PySem.W.kitAny K (.type "tuple") [.type "tuple", .type "list"] = some true := kitAny_cons (kit_ty (r := true) (by decide +kernel)) (fun h => nomatch h) (fun _ => rfl)
  rcases hs with ⟨i, rfl, rfl⟩ | ⟨x, rfl, rfl⟩ | ⟨a, b, xs, ys, rfl, rfl, h1, h2, h3, h4⟩
  · refine ⟨_, rfl, len2, fun p hp => ⟨_, p, _, _, _, false, rfl, upd_same, .cons (.ty _) (.cons (.ty _) .nil), .base (.int i), no2, _, rfl, iteF ?_⟩⟩
    refine ⟨_, rfl, _, _, _, _, _, rfl, .ty _, .base (.int i), kit_ty (r := false) (by decide +kernel), _, rfl, iteF ?_⟩
    refine ⟨_, rfl, rfl, _, rfl, iteF ?_⟩
    refine ⟨_, rfl, _, _, _, _, _, rfl, .ty _, .base (.int i), kit_ty (r := false) (by decide +kernel), ?_⟩
    refine ⟨_, rfl, _, _, _, _, _, rfl, .ty _, .base (.int i), kit_ty (r := false) (by decide +kernel), ?_⟩
    refine ⟨rfl, _, rfl, iteT ?_⟩
    refine ⟨_, rfl, rfl, _, rfl, iteT ?_⟩
    refine ⟨_, rfl, _, rfl, by rfl, ?_⟩
    rw [decide_eq_true rfl]
    exact k _ (Ex.new hp)
  · refine ⟨_, rfl, len2, fun p hp => ⟨_, p, _, _, _, false, rfl, upd_same, .cons (.ty _) (.cons (.ty _) .nil), .base (.str x), no3, _, rfl, iteF ?_⟩⟩
    refine ⟨_, rfl, _, _, _, _, _, rfl, .ty _, .base (.str x), kit_ty (r := false) (by decide +kernel), _, rfl, iteF ?_⟩
    refine ⟨_, rfl, rfl, _, rfl, iteF ?_⟩
    refine ⟨_, rfl, _, _, _, _, _, rfl, .ty _, .base (.str x), kit_ty (r := false) (by decide +kernel), ?_⟩
    refine ⟨_, rfl, _, _, _, _, _, rfl, .ty _, .base (.str x), kit_ty (r := false) (by decide +kernel), ?_⟩
    refine ⟨rfl, _, rfl, iteT ?_⟩
    refine ⟨_, rfl, rfl, _, rfl, iteT ?_⟩
    refine ⟨_, rfl, _, rfl, by rfl, ?_⟩
    rw [decide_eq_true rfl]
    exact k _ (Ex.new hp)
  · refine ⟨_, rfl, len2, fun p hp => ⟨_, p, _, _, _, true, rfl, upd_same, .cons (.ty _) (.cons (.ty _) .nil), tyT (ex_t (Ex.new hp) h2), yes2, _, rfl, iteT ?_⟩⟩
    have e1 : Ex H (upd H p (.tup [V.ty "tuple", .ty "list"])) := Ex.new hp
    refine ⟨_, rfl, _, _, _, _, _, rfl, .ty _, tyT (ex_t e1 h1), kit_ty (r := true) (by decide +kernel), ?_⟩
    refine ⟨_, rfl, _, _, _, _, _, rfl, .ty _, tyT (ex_t e1 h2), kit_ty (r := true) (by decide +kernel), ?_⟩
    refine ⟨rfl, _, rfl, iteF ?_⟩
    refine ⟨_, rfl, _, _, _, _, _, rfl, .ty _, tyT (ex_t e1 h1), kit_ty (r := false) (by decide +kernel), ?_⟩
    refine ⟨_, rfl, _, _, _, _, _, rfl, .ty _, tyT (ex_t e1 h2), kit_ty (r := false) (by decide +kernel), ?_⟩
    refine ⟨rfl, _, rfl, iteF ?_⟩
    have hl : xs.length = ys.length := Paired.length h3
    refine ⟨_, rfl, a, _, rfl, .inr (ex_t e1 h1), _, rfl, b, _, rfl, .inr (ex_t e1 h2), rfl, ?_⟩
    rw [len_eq]
    rw [decide_eq_true hl]
    refine ⟨_, rfl, iteT ?_⟩
    refine ⟨_, rfl, b, _, rfl, .inr (ex_t e1 h2), (ys.length : Int), rfl, by omega, by omega, fun D hD => lc_pure hD walk_range yfn_ex (fun _ => rfl) (fun _ _ => trivial) (by omega) (fun i y _ => y = V.bl true) (fun _ _ _ _ _ h => h) ?_ ?_⟩
    · rintro i v H1 H2 hi e2 ⟨rfl, rfl⟩ Q' q
      have hi' : i < ys.length := by omega
      have E2 := e1.trans e2
      obtain ⟨u, hu⟩ : ∃ u, xs[i]? = some u := ⟨_, List.getElem?_eq_getElem (by omega)⟩
      obtain ⟨u', hu', hs⟩ := paired_get h3 hu
      have a1 : atI xs (0 + (i : Int)) = some u := by rw [Int.zero_add]; exact atI_nat hu
      have a2 : atI ys (0 + (i : Int)) = some u' := by rw [Int.zero_add]; exact atI_nat hu'
      exact ⟨_, rfl, _, rfl, a, _, _, u, rfl, rfl, ex_t E2 h1, a1, _, rfl, _, rfl, b, _, _, u', rfl, rfl, ex_t E2 h2, a2, u, u', rfl, hs.mono E2, fun H' e' => q _ _ e' rfl⟩
    · intro H1 acc e2 hA hl' hR
      have ea : acc = (List.replicate acc.length true).map V.bl := by
        apply List.ext_getElem?
        intro i
        rw [List.getElem?_map, List.getElem?_replicate]
        cases hq : acc[i]? with
        | none => rw [if_neg (by have := List.getElem?_eq_none_iff.mp hq; omega)]; rfl
        | some y => rw [if_pos (List.getElem?_eq_some_iff.mp hq).1, hR i y hq]; rfl
      rw [ea] at hA
      refine ⟨D, _, rfl, SqL.of hA, ?_⟩
      rw [show (List.replicate acc.length true).all id = true from List.all_eq_true.mpr fun z hz => (List.mem_replicate.mp hz).2]
      exact k _ (e1.trans e2)
end
end K28
/-! # Deep things -/
namespace K28
open PySem PySem.Spec PyProof.Rows L2
open Evl (Ex ex_l ex_t)
theorem nots_list {K : PySem.W.Frag} {H : Hp} {a : Addr} {xs : List V} (h : SqL K H a xs) : NotS K H (.ref a) := ⟨_, tyL h, kit_ty (r := false) (by decide +kernel)⟩
theorem nots_tup {K : PySem.W.Frag} {H : Hp} {a : Addr} {xs : List V} (h : SqT K H a xs) : NotS K H (.ref a) := ⟨_, tyT h, kit_ty (r := false) (by decide +kernel)⟩
section
variable {X : Cx}
theorem pe_c0 {k j : Nat} {x : Str} {sp : Sp} {p pos : Pos} (c : C8.Cal X.prog X.w X.K X.mg X.base k x sp []) (hr : Room j X.A) (hk : k ≤ j) (hg : Gl X x) (hdb : (x == ("__debug__" : Str)) = false := by decide) :
    PE X (.Call (.Name x p) [] [] pos) (tCall sp [] C8.E0 tNil) := by
  obtain ⟨f, fd, ps, ds, F, hm, kp, b, d⟩ := c.ex
  exact pe_call0 F (hr.mono hk) hg hm kp b d C8.pass0 hdb
end
section
variable {P : Program} {w : World} {K : PySem.W.Frag} {mg : Str → Option Value} {base : Heap}
def spDeep (K : PySem.W.Frag) : Sp := fun vs H Q _ => vs = [] ∧ ∀ H' v, Ex H H' → NotS K H' v → Q v H'
abbrev s__law_deep : Stmt := top 54
abbrev N__law_deep : List Str := ["_law_thing", "_law_turn"]
abbrev p__law_deep : List Str := []
theorem sc__law_deep : FnScope N__law_deep p__law_deep (defScope s__law_deep) := ⟨rfl, rfl, rfl, by decide +kernel, rfl, by decide +kernel, by decide +kernel⟩
theorem ok__law_deep (D : Dn K mg "_law_deep" s__law_deep p__law_deep) (T : Txt K mg) : C8.Cal P w K mg base 1 "_law_deep" (spDeep K) [] := by
  refine D.ok sc__law_deep (fun vs H Q E h => ?_) (fun f cdv A outer s H vs Q E hr h => ?_)
  · obtain ⟨rfl, _⟩ := h
    rfl
  obtain ⟨rfl, k⟩ := h
  refine ⟨_, (pss_cons (ps_set (i := 0) sc__law_deep.nd rfl (Or.inl rfl) (pe_lst (pa_cons pe_non pa_nil)))
  (pss_cons (ps_for PassesOwn.never rfl (pi_range1 (by rfl) T.range (pa_cons pe_int pa_nil)) (pg_name (i := 1) sc__law_deep.nd rfl (Or.inl rfl))
  (pss_one (ps_set (i := 0) sc__law_deep.nd rfl (Or.inl rfl) (pe_ifExp (pt_cmpR op_eq (pe_op op_modN (pe_callTy call_int1 (by rfl) T.int (by decide +kernel) (pa_cons (pv 1) pa_nil)) pe_int) pe_int (nomark _)) (pe_tup (pa_cons (pv 0) pa_nil)) (pe_lst (pa_cons (pv 0) pa_nil))))))
  (pss_one (ps_ret (pv 0))))), ?_⟩
  refine ⟨len1, fun p hp => ?_⟩
  refine ⟨32, rfl, by omega, by omega, for_it walk_range (fun i σ H' => Ex H H' ∧ ∃ (v : V) (y : Option V), σ = [some v, y] ∧ NotS K H' v) ⟨Ex.new hp, _, _, rfl, nots_list (SqL.of upd_same)⟩ (fun _ _ _ _ _ => trivial) ?_ ?_⟩
  · rintro i x σ Hz H5 hi ⟨e5, v, y, rfl, hv⟩ ⟨rfl, rfl⟩
    refine ⟨_, rfl, .inl ⟨_, rfl, ?_⟩⟩
    refine ⟨_, _, rfl, rfl, (show (2 : Int) ≠ 0 by decide), rfl, _, rfl, ?_⟩
    refine ite2 (fun _ => ?_) (fun _ => ?_)
    · exact ⟨_, rfl, len1, fun q hq => ⟨e5.trans (Ex.new hq), _, _, rfl, nots_tup (SqT.of upd_same)⟩⟩
    · exact ⟨_, rfl, len1, fun q hq => ⟨e5.trans (Ex.new hq), _, _, rfl, nots_list (SqL.of upd_same)⟩⟩
  · rintro σ H5 ⟨e5, v, y, rfl, hv⟩
    exact ⟨_, rfl, k _ _ e5 hv⟩
end
end K28
/-! # What is due at a text -/
namespace K28
open PySem PySem.Spec PyProof.Rows L2
open Evl (Ex ex_l ex_t)
/-- an outcome as the law tells it -/
def outV : Out → List V
  | .line n => [.str "line", .int n]
  | .table p a => [.str "table", .str p, .int a]
  | .journal => [.str "journal"]
  | .run => [.str "run"]
def OutAt (K : PySem.W.Frag) (H : Hp) (y : V) (o : Out) : Prop := ∃ a : Addr, y = .ref a ∧ SqT K H a (outV o)
/-- an answer as the law tells it -/
def AnsAt {α : Type} (K : PySem.W.Frag) (At : Hp → V → α → Prop) (H : Hp) (y : V) : Except Out α → Prop
  | .error o => OutAt K H y o
  | .ok r => ∃ (a : Addr) (u : V), y = .ref a ∧ SqT K H a [.str "told", u] ∧ At H u r
def spDue {α : Type} (K : PySem.W.Frag) (res : Str → Except Out α) (At : Hp → V → α → Prop) (Q : VK) (H : Hp) (v : V) : Prop :=
  (∃ x : Str, v = .str x ∧ x.length ≤ 7000 ∧ ∀ H' y, Ex H H' → AnsAt K At H' y (res x) → Q y H') ∨ (NotS K H v ∧ ∀ H' y, Ex H H' → OutAt K H' y (.line 0) → Q y H')
theorem outAt_of {K : PySem.W.Frag} {H : Hp} {a : Addr} {o : Out} (h : SqT K H a (outV o)) : OutAt K H (.ref a) o := ⟨a, rfl, h⟩
section
variable {P : Program} {w : World} {K : PySem.W.Frag} {mg : Str → Option Value} {base : Heap}
def spJDue (K : PySem.W.Frag) : Sp := fun vs H Q _ => ∃ (s v : V) (n : Int) (ks : List Kd), vs = [s, v] ∧ SpecAt K H s n ks ∧ spDue K (readJ ks.length) (IntsA K) Q H v
abbrev s__law_journal_due : Stmt := top 76
abbrev N__law_journal_due : List Str := ["_law_spec_here", "_law_text", "_law_found"]
abbrev p__law_journal_due : List Str := ["_law_spec_here", "_law_text"]
theorem sc__law_journal_due : FnScope N__law_journal_due p__law_journal_due (defScope s__law_journal_due) := ⟨rfl, rfl, rfl, by decide +kernel, rfl, by decide +kernel, by decide +kernel⟩
theorem ok__law_journal_due (D : Dn K mg "_law_journal_due" s__law_journal_due p__law_journal_due) (T : Txt K mg) (c__law_numbers_of : C8.Cal P w K mg base 2 "_law_numbers_of" (spNums K) []) (c__law_is_journal : C8.Cal P w K mg base 2 "_law_is_journal" (spLIsJ K) []) : C8.Cal P w K mg base 3 "_law_journal_due" (spJDue K) [] := by
  refine D.ok sc__law_journal_due (fun vs H Q E h => ?_) (fun f cdv A outer s H vs Q E hr h => ?_)
  · obtain ⟨s, v, n, ks, rfl, _⟩ := h
    rfl
  obtain ⟨sv, v, n, ks, rfl, hSp, h⟩ := h
  refine ⟨_, (pss_cons (ps_if (pt_not (pt_val (pe_callB call_isi (by rfl) T.isinstance (by decide +kernel) (pa_cons (pv 1) (pa_cons (pe_bltn (v := .ty "str") (by rfl) T.str (by decide +kernel) rfl) pa_nil))))) (pss_one (ps_ret (pe_tup (pa_cons pe_str (pa_cons pe_int pa_nil))))) pss_nil)
  (pss_cons (ps_set (i := 2) sc__law_journal_due.nd rfl (Or.inl rfl) (pe_ifExp (pt_cmpR op_eq (pv 1) pe_str (nomark _)) (pe_tup pa_nil) (C8.pe_c c__law_numbers_of hr (by decide) (by rfl) (pa_cons (pe_split (pv 1) pe_str) pa_nil))))
  (pss_cons (ps_if (pt_cmpR op_isN (pv 2) pe_non (nomark _)) (pss_one (ps_ret (pe_tup (pa_cons pe_str (pa_cons pe_int pa_nil))))) pss_nil)
  (pss_one (ps_ret (pe_ifExp (pt_val (C8.pe_c c__law_is_journal hr (by decide) (by rfl) (pa_cons (pv 0) (pa_cons (pv 2) pa_nil)))) (pe_tup (pa_cons pe_str (pa_cons (pv 2) pa_nil))) (pe_tup (pa_cons pe_str pa_nil)))))))), ?_⟩
  rcases h with ⟨x, rfl, hl, k⟩ | ⟨⟨t, h1, h2⟩, k⟩
  rotate_left
  · exact ⟨_, rfl, _, _, _, _, _, rfl, .ty _, h1, h2, _, rfl, iteT ⟨len2, fun q hq => k _ _ (Ex.new hq) (outAt_of (SqT.of upd_same))⟩⟩
  have hz : x.length + 2 ≤ sizeLine := Nat.le_trans (by omega : x.length + 2 ≤ 100000) (by decide)
  refine ⟨_, rfl, _, _, _, _, _, rfl, .ty _, .base (.str x), kit_ty (r := true) (by decide +kernel), _, rfl, iteF ?_⟩
  refine ⟨_, rfl, rfl, _, rfl, ?_⟩
  rw [str_eq]
  -- behind found
  have back : ∀ (js : List Int) (H1 : Hp) (u : Addr), Ex H H1 → numsOf (wordsOf x) = some js → js.length ≤ 100000 → SqT K H1 u (js.map V.int) → spLIsJ K [sv, .ref u] H1 (fun y H2 => ∃ c, y = V.bl c ∧ if c = true then tTup (tCons (tC (.str "told")) (tCons (tVar 2) tNil)) [some sv, some (.str x), some (.ref u)] H2 Q else tTup (tCons (tC (.str "journal")) tNil) [some sv, some (.str x), some (.ref u)] H2 Q) (fun _ _ _ => False) := by
    intro js H1 u e1 hn hlen hu
    refine ⟨sv, u, n, ks, js, rfl, hSp.mono e1, hu, hlen, fun H2 e2 => ⟨_, rfl, ?_⟩⟩
    have E2 := e1.trans e2
    have ek : readJ ks.length x = if isJournal ks.length js = true then .ok js else .error .journal := by
      unfold readJ; rw [hn]
    rw [ek] at k
    cases hj : isJournal ks.length js with
    | true =>
      rw [hj, if_pos rfl] at k
      exact iteT ⟨_, rfl, len2, fun q hq => k _ _ (E2.trans (Ex.new hq)) ⟨q, _, rfl, SqT.of upd_same, u, rfl, ex_t (e2.trans (Ex.new hq)) hu⟩⟩
    | false =>
      rw [hj, if_neg Bool.false_ne_true] at k
      exact iteF ⟨len1, fun q hq => k _ _ (E2.trans (Ex.new hq)) (outAt_of (SqT.of upd_same))⟩
  by_cases hx : x = "-"
  · rw [decide_eq_true hx]
    have hw : numsOf (wordsOf x) = some [] := by unfold wordsOf; rw [if_pos hx]; rfl
    refine iteT ⟨Nat.zero_le _, fun u hu => ?_⟩
    refine ⟨_, rfl, rfl, _, rfl, iteF ?_⟩
    have := back [] (upd H u (.tup [])) u (Ex.new hu) hw (Nat.zero_le _) (SqT.of upd_same)
    exact ⟨_, rfl, _, rfl, this⟩
  · rw [decide_eq_false hx]
    have hw : wordsOf x = Txt.split x "," := by unfold wordsOf; rw [if_neg hx]
    rw [hw] at back
    refine iteF ⟨_, rfl, ⟨x, rfl⟩, x, _, rfl, rfl, mark_comma.ne0, hz, fun p hp => ?_⟩
    have hsl := split_len x mark_comma
    have hpc : ∀ y ∈ Txt.split x ",", y.length ≤ 50000 := fun y hy => Nat.le_trans (split_piece mark_comma hy) (by omega)
    have e1 : Ex H (upd H p (.lst ((Txt.split x ",").map V.str))) := Ex.new hp
    refine ⟨p, _, rfl, SqL.of upd_same, by omega, fun y hy => by have := hpc y hy; omega, fun hn H2 e2 => ?_, fun js hn H2 u e2 hu => ?_⟩
    · have ek : readJ ks.length x = .error (.line 1) := by unfold readJ; rw [hw, hn]
      rw [ek] at k
      exact ⟨_, rfl, rfl, _, rfl, iteT ⟨len2, fun q hq => k _ _ ((e1.trans e2).trans (Ex.new hq)) (outAt_of (SqT.of upd_same))⟩⟩
    · have bl : js.length ≤ 100000 := by
        have := numsOf_len hn
        omega
      have := back js H2 u (e1.trans e2) hn bl (SqT.of hu)
      exact ⟨_, rfl, rfl, _, rfl, iteF ⟨_, rfl, _, rfl, this⟩⟩
end
end K28
/-! # What is due at a run's text -/
namespace K28
open PySem PySem.Spec PyProof.Rows L2
open Evl (Ex ex_l ex_t)
theorem words_pick {x : Str} {σ : L2.St} {H : Hp} {R : VK} {t : TE} (hl : x.length ≤ 7000) (ht : ∀ Q : VK, Q (.str x) H → t σ H Q) (rest : ∀ H1 u, Ex H H1 → H u = none → H1 u = some (.lst ((wordsOf x).map V.str)) → R (.ref u) H1) :
    if decide (x = "-") = true then tLst tNil σ H R else tM1 (fun x xs H Q => ∃ a b, x = .str a ∧ xs = [.str b] ∧ (b.length == 0) = false ∧ a.length + 2 ≤ sizeLine ∧ rNewStrs (Txt.split a b) H Q) t (tC (.str ",")) σ H R := by
  unfold wordsOf at rest
  by_cases h : x = "-"
  · rw [if_pos h] at rest
    rw [decide_eq_true h]
    exact iteT ⟨Nat.zero_le _, fun u hu => rest _ u (Ex.new hu) hu upd_same⟩
  · rw [if_neg h] at rest
    rw [decide_eq_false h]
    exact iteF (ht _ ⟨⟨x, rfl⟩, x, _, rfl, rfl, mark_comma.ne0, Nat.le_trans (by omega : x.length + 2 ≤ 100000) (by decide), fun u hu => rest _ u (Ex.new hu) hu upd_same⟩)
section
variable {P : Program} {w : World} {K : PySem.W.Frag} {mg : Str → Option Value} {base : Heap}
def spRDue (K : PySem.W.Frag) : Sp := fun vs H Q _ => ∃ (s v : V) (n : Int) (ks : List Kd), vs = [s, v] ∧ SpecAt K H s n ks ∧ tableOut n ks = none ∧ spDue K (readR n ks) (StepsA K) Q H v
abbrev s__law_run_text_due : Stmt := top 77
abbrev N__law_run_text_due : List Str := ["_law_spec_here", "_law_text", "_law_found", "_law_words", "_law_word", "_law_pieces"]
abbrev p__law_run_text_due : List Str := ["_law_spec_here", "_law_text"]
theorem sc__law_run_text_due : FnScope N__law_run_text_due p__law_run_text_due (defScope s__law_run_text_due) := ⟨rfl, rfl, rfl, by decide +kernel, rfl, by decide +kernel, by decide +kernel⟩
theorem ok__law_run_text_due (D : Dn K mg "_law_run_text_due" s__law_run_text_due p__law_run_text_due) (T : Txt K mg) (c__law_number_of : C8.Cal P w K mg base 1 "_law_number_of" spNum []) (c__law_run_due : C8.Cal P w K mg base 2 "_law_run_due" (spLRunDue K) []) : C8.Cal P w K mg base 3 "_law_run_text_due" (spRDue K) [] := by
  refine D.ok sc__law_run_text_due (fun vs H Q E h => ?_) (fun f cdv A outer s H vs Q E hr h => ?_)
  · obtain ⟨s, v, n, ks, rfl, _⟩ := h
    rfl
  obtain ⟨sv, v, n, ks, rfl, hSp, hok, h⟩ := h
  refine ⟨_, (pss_cons (ps_if (pt_not (pt_val (pe_callB call_isi (by rfl) T.isinstance (by decide +kernel) (pa_cons (pv 1) (pa_cons (pe_bltn (v := .ty "str") (by rfl) T.str (by decide +kernel) rfl) pa_nil))))) (pss_one (ps_ret (pe_tup (pa_cons pe_str (pa_cons pe_int pa_nil))))) pss_nil)
  (pss_cons (ps_set (i := 2) sc__law_run_text_due.nd rfl (Or.inl rfl) (pe_lst pa_nil))
  (pss_cons (ps_set (i := 3) sc__law_run_text_due.nd rfl (Or.inl rfl) (pe_ifExp (pt_cmpR op_eq (pv 1) pe_str (nomark _)) (pe_lst pa_nil) (pe_split (pv 1) pe_str)))
  (pss_cons (ps_for PassesOwn.never rfl (pi_list (pv 3)) (pg_name (i := 4) sc__law_run_text_due.nd rfl (Or.inl rfl))
  (pss_cons (ps_set (i := 5) sc__law_run_text_due.nd rfl (Or.inl rfl) (pe_split (pv 4) pe_str))
  (pss_cons (ps_if (PW.pt (pw_or (pt_cmpR op_ne (pe_callB call_len_seq (by rfl) T.len (by decide +kernel) (pa_cons (pv 5) pa_nil)) pe_int (nomark _)) (pw_or (pt_cmpR op_notIn_seq (pe_ix ix_list (pv 5) pe_int (fun _ _ => rfl)) (pe_tup (pa_cons pe_str (pa_cons pe_str pa_nil))) (by rfl)) (pw_or1 (pt_cmpR op_isN (C8.pe_c c__law_number_of hr (by decide) (by rfl) (pa_cons (pe_ix ix_list (pv 5) pe_int (fun _ _ => rfl)) pa_nil)) pe_non (nomark _)))))) (pss_one (ps_ret (pe_tup (pa_cons pe_str (pa_cons pe_int pa_nil))))) pss_nil)
  (pss_one (ps_expr (pe_bm PySem.F.plainAttrs_list PySem.F.slot_list_append PySem.F.type_list_append mt_append (pv 2) (pa_cons (pe_tup (pa_cons (pe_ix ix_list (pv 5) pe_int (fun _ _ => rfl)) (pa_cons (C8.pe_c c__law_number_of hr (by decide) (by rfl) (pa_cons (pe_ix ix_list (pv 5) pe_int (fun _ _ => rfl)) pa_nil)) pa_nil))) pa_nil)))))))
  (pss_one (ps_ret (pe_ifExp (pt_cmpR op_isN (C8.pe_c c__law_run_due hr (by decide) (by rfl) (pa_cons (pv 0) (pa_cons (pe_callTy call_tuple_of (by rfl) T.tuple (by decide +kernel) (pa_cons (pv 2) pa_nil)) pa_nil))) pe_non (nomark _)) (pe_tup (pa_cons pe_str pa_nil)) (pe_tup (pa_cons pe_str (pa_cons (pe_callTy call_tuple_of (by rfl) T.tuple (by decide +kernel) (pa_cons (pv 2) pa_nil)) pa_nil)))))))))), ?_⟩
  rcases h with ⟨x, rfl, hl, k⟩ | ⟨⟨t, h1, h2⟩, k⟩
  rotate_left
  · exact ⟨_, rfl, _, _, _, _, _, rfl, .ty _, h1, h2, _, rfl, iteT ⟨len2, fun q hq => k _ _ (Ex.new hq) (outAt_of (SqT.of upd_same))⟩⟩
  have hz : x.length + 2 ≤ sizeLine := Nat.le_trans (by omega : x.length + 2 ≤ 100000) (by decide)
  refine ⟨_, rfl, _, _, _, _, _, rfl, .ty _, .base (.str x), kit_ty (r := true) (by decide +kernel), _, rfl, iteF ?_⟩
  refine ⟨Nat.zero_le _, fun pf hpf => ?_⟩
  refine ⟨_, rfl, rfl, _, rfl, ?_⟩
  rw [str_eq]
  have e0 : Ex H (upd H pf (.lst [])) := Ex.new hpf
  have r0 : upd H pf (.lst []) pf = some (.lst []) := upd_same
  generalize upd H pf (.lst []) = H0 at e0 r0 ⊢
  refine words_pick hl (fun Q' q => ⟨_, rfl, q⟩) (fun H1 u e1 hu0 hu => ?_)
  obtain ⟨wl, wp⟩ := words_len hl
  have nuf : u ≠ pf := Ne.symm (ne_of_none r0 hu0)
  have r1 := e1 _ _ r0
  have E1 := e0.trans e1
  have ek : readR n ks x = match stepsOf (wordsOf x) with | none => .error (.line 1) | some ss => if isRun n ks ss = true then .ok ss else .error .run := rfl
  generalize wordsOf x = ws at hu wl wp ek
  refine ⟨_, rfl, u, rfl, ⟨_, SqL.of hu⟩, for_it (walk_list (xs := ws.map V.str)) (fun i σ Hc => Ex H Hc ∧ Hc u = some (.lst (ws.map V.str)) ∧ ∃ (ss : List Stp) (vs : List V) (y4 y5 : Option V), σ = [some sv, some (.str x), some (.ref pf), some (.ref u), y4, y5] ∧ Hc pf = some (.lst vs) ∧ Paired (StepAt K Hc) vs ss ∧
    stepsOf ws = (stepsOf (ws.drop i)).map (fun r => ss ++ r) ∧ vs.length ≤ i) ⟨E1, hu, [], [], none, none, rfl, r1, .nil, by rw [List.drop_zero]; cases stepsOf ws <;> rfl, Nat.le_refl _⟩ (fun i σ H' _ h => SqL.of h.2.1) ?_ ?_⟩
  · rintro i v σ Hz Hc hi ⟨e2, hu2, ss, vs, y4, y5, rfl, hv, hp, es, hvl⟩ ⟨rfl, hv2⟩
    obtain ⟨z, hzi, rfl⟩ := map_get hv2
    have hzl := wp z (List.mem_of_getElem? hzi)
    rw [List.length_map] at hi
    rw [drop_get hzi, stepsOf] at es
    refine ⟨_, rfl, ⟨z, rfl⟩, z, _, rfl, rfl, mark_blank.ne0, Nat.le_trans (by omega : z.length + 2 ≤ 100000) (by decide), fun p hp' => ?_⟩
    have hp1 := split_pos z mark_blank
    have hpc : ∀ y ∈ Txt.split z " ", y.length ≤ 7000 := fun y hy => Nat.le_trans (split_piece mark_blank hy) hzl
    have ez : stepOf z = match Txt.split z " " with | [a, b] => (match numOf b with | some n => if a = "do" ∨ a = "lay" then some (a, n) else none | none => none) | _ => none := rfl
    have npf : p ≠ pf := Ne.symm (ne_of_none hv hp')
    have npu : p ≠ u := Ne.symm (ne_of_none hu2 hp')
    have e3 : Ex Hc (upd Hc p (.lst ((Txt.split z " ").map V.str))) := Ex.new hp'
    have r3 : upd Hc p (.lst ((Txt.split z " ").map V.str)) p = some (.lst ((Txt.split z " ").map V.str)) := upd_same
    generalize upd Hc p (.lst ((Txt.split z " ").map V.str)) = H3 at e3 r3 ⊢
    generalize Txt.split z " " = qs at r3 hp1 hpc ez
    have E3 := e2.trans e3
    have bad : ∀ H', Ex H H' → stepOf z = none → tTup (tCons (tC (V.str "line")) (tCons (tC (V.int 1)) tNil)) [some sv, some (.str x), some (.ref pf), some (.ref u), some (.str z), some (.ref p)] H' Q := fun H' e' hn => by
      rw [hn] at es
      rw [show stepsOf ws = none by rw [es]; cases stepsOf (ws.drop (i + 1)) <;> rfl] at ek
      rw [ek] at k
      exact ⟨len2, fun q hq => k _ _ (e'.trans (Ex.new hq)) (outAt_of (SqT.of upd_same))⟩
    refine ⟨_, rfl, p, _, rfl, .inl (SqL.of r3), rfl, _, rfl, ?_⟩
    rw [List.length_map]
    show if (!decide (V.int ((qs.length : Nat) : Int) = V.int ((2 : Nat) : Int))) = true then _ else _
    rw [len_eq]
    match qs, hp1, hpc, ez, r3 with
    | [], h, _, _, _ => simp at h
    | [a], _, _, ez, _ => exact iteT (bad _ E3 ez)
    | a :: b :: c :: r, _, _, ez, _ =>
      rw [decide_eq_false (by simp)]
      exact iteT (bad _ E3 ez)
    | [a, b], _, hpc, ez, r3 =>
      have hb := hpc b (by simp)
      refine iteF ⟨_, rfl, p, _, 0, _, rfl, rfl, SqL.of r3, rfl, len2, fun q hq => ⟨q, _, rfl, .inr (SqT.of upd_same), rfl, rfl, _, rfl, ?_⟩⟩
      rw [in_two, if_pos rfl]
      have e4 : Ex H3 (upd H3 q (.tup [V.str "do", V.str "lay"])) := Ex.new hq
      generalize upd H3 q (.tup [V.str "do", V.str "lay"]) = H4 at e4 ⊢
      have r4 := e4 _ _ r3
      have E4 := E3.trans e4
      have ez' : stepOf z = match numOf b with | some n => if a = "do" ∨ a = "lay" then some (a, n) else none | none => none := ez
      by_cases hw : a = "do" ∨ a = "lay"
      rotate_left
      · rw [decide_eq_false hw]
        refine iteT (bad _ E4 ?_)
        rw [ez']
        cases numOf b with
        | none => rfl
        | some m => exact if_neg hw
      rw [decide_eq_true hw]
      refine iteF ⟨_, rfl, p, _, 1, _, rfl, rfl, SqL.of r4, rfl, b, rfl, by omega, fun H5 e5 => ⟨rfl, _, rfl, ?_⟩⟩
      cases hn : numOf b with
      | none =>
        rw [hn] at ez'
        exact iteT (bad _ (E4.trans e5) ez')
      | some m =>
        rw [hn] at ez'
        have ez' : stepOf z = some (a, m) := ez'.trans (if_pos hw)
        rw [ez'] at es
        have e35 := (e3.trans e4).trans e5
        have r5 := e5 _ _ r4
        refine iteF ⟨_, rfl, .inl ⟨rfl, vs, SqL.of (e35 _ _ hv)⟩, _, rfl, p, _, 0, _, rfl, rfl, SqL.of r5, rfl, _, rfl, p, _, 1, _, rfl, rfl, SqL.of r5, rfl, b, rfl, by omega, fun H6 e6 => ⟨len2, fun t ht => ?_⟩⟩
        rw [hn]
        have e7 : Ex H6 (upd H6 t (.tup [V.str a, optV (some m)])) := Ex.new ht
        have r7 : upd H6 t (.tup [V.str a, optV (some m)]) t = some (.tup [V.str a, V.int m]) := upd_same
        generalize upd H6 t (.tup [V.str a, optV (some m)]) = H7 at e7 r7 ⊢
        have e37 := (e35.trans e6).trans e7
        have hv7 := e37 _ _ hv
        have hpf2 : Ex Hc H7 := e37
        refine ⟨pf, vs, _, rfl, rfl, hv7, Nat.lt_of_le_of_lt (by omega : vs.length ≤ 100000) (by decide), ?_⟩
        have g : H pf = none := hpf
        refine ⟨ex_upd (e2.trans e37) g, by rw [upd_ne nuf]; exact e37 _ _ hu2, ss ++ [(a, m)], _, _, _, rfl, upd_same, pair_app (Paired.mapP hp fun _ _ q => (q.mono e37).monoL (exl_upd hv7)) (.cons (StepAt.monoL (exl_upd hv7) ⟨t, rfl, SqT.of r7⟩) .nil), ?_, by rw [List.length_append, List.length_singleton]; omega⟩
        rw [es]
        cases stepsOf (ws.drop (i + 1)) with
        | none => rfl
        | some r => show some (ss ++ ((a, m) :: r)) = some (ss ++ [(a, m)] ++ r); rw [List.append_assoc]; rfl
  · rintro σ Hc ⟨e2, hu2, ss, vs, y4, y5, rfl, hv, hp, es, hvl⟩
    rw [List.length_map, List.drop_length, stepsOf] at es
    have es' : stepsOf ws = some ss := by rw [es]; show some (ss ++ []) = some ss; rw [List.append_nil]
    rw [es'] at ek
    have ek : readR n ks x = if isRun n ks ss = true then .ok ss else .error .run := ek
    refine ⟨_, rfl, _, rfl, pf, _, rfl, .inl ⟨SqL.of hv, fun t ht => ?_⟩⟩
    have e3 : Ex Hc (upd Hc t (.tup vs)) := Ex.new ht
    have r3 : upd Hc t (.tup vs) t = some (.tup vs) := upd_same
    generalize upd Hc t (.tup vs) = H3 at e3 r3 ⊢
    refine ⟨sv, t, n, ks, vs, ss, rfl, hSp.mono (e2.trans e3), hok, SqT.of r3, Paired.mapP hp fun _ _ q => q.mono e3, fun hr' H' e' => ?_, fun hr' H' b e' => ?_⟩
    · rw [hr', if_neg Bool.false_ne_true] at ek
      rw [ek] at k
      exact ⟨rfl, _, rfl, iteT ⟨len1, fun q hq => k _ _ (((e2.trans e3).trans e').trans (Ex.new hq)) (outAt_of (SqT.of upd_same))⟩⟩
    · rw [hr', if_pos rfl] at ek
      rw [ek] at k
      have e3' := e3.trans e'
      refine ⟨rfl, _, rfl, iteF ⟨_, rfl, pf, _, rfl, .inl ⟨SqL.of (e3' _ _ hv), fun t2 ht2 => ⟨len2, fun q hq => ?_⟩⟩⟩⟩
      have e5 : Ex Hc _ := (e3'.trans (Ex.new (o := .tup vs) ht2)).trans (Ex.new (o := .tup [V.str "told", V.ref t2]) hq)
      exact k _ _ (e2.trans e5) ⟨q, _, rfl, SqT.of upd_same, t2, vs, rfl, SqT.of ((Ex.new hq) _ _ upd_same), Paired.mapP hp fun _ _ q => q.mono e5⟩
end
end K28
/-! # The law's check of kinds, in plain terms -/
namespace K28
open PySem PySem.Spec PyProof.Rows L2
open Evl (Ex ex_l ex_t)
theorem inc_ext : ∀ {a b : List Int}, a.Pairwise (· < ·) → b.Pairwise (· < ·) → (∀ k, k ∈ a ↔ k ∈ b) → a = b
  | [], [], _, _, _ => rfl
  | [], y :: b, _, _, h => absurd ((h y).mpr List.mem_cons_self) (List.not_mem_nil)
  | x :: a, [], _, _, h => absurd ((h x).mp List.mem_cons_self) (List.not_mem_nil)
  | x :: a, y :: b, h1, h2, h => by
    obtain ⟨p1, q1⟩ := List.pairwise_cons.mp h1
    obtain ⟨p2, q2⟩ := List.pairwise_cons.mp h2
    have e : x = y := by
      rcases List.mem_cons.mp ((h x).mp List.mem_cons_self) with z | z
      · exact z
      · rcases List.mem_cons.mp ((h y).mpr List.mem_cons_self) with u | u
        · exact u.symm
        · have := p2 x z
          have := p1 y u
          omega
    subst e
    rw [inc_ext q1 q2 fun k => ?_]
    constructor
    · intro hk
      rcases List.mem_cons.mp ((h k).mp (List.mem_cons_of_mem _ hk)) with z | z
      · subst z; exact absurd (p1 k hk) (Int.lt_irrefl k)
      · exact z
    · intro hk
      rcases List.mem_cons.mp ((h k).mpr (List.mem_cons_of_mem _ hk)) with z | z
      · subst z; exact absurd (p2 k hk) (Int.lt_irrefl k)
      · exact z
theorem lot_iff : ∀ {ns : List Int} {lo hi : Int}, isLot lo hi ns = true ↔ ns.Pairwise (· < ·) ∧ ∀ c ∈ ns, lo ≤ c ∧ c ≤ hi
  | [], lo, hi => by simp [isLot]
  | m :: r, lo, hi => by
    rw [isLot, Bool.and_eq_true, Bool.and_eq_true, decide_eq_true_iff, decide_eq_true_iff, lot_iff (ns := r), List.pairwise_cons]
    constructor
    · rintro ⟨⟨a, b⟩, c, e⟩
      refine ⟨⟨fun k hk => by have := (e k hk).1; omega, c⟩, fun k hk => ?_⟩
      rcases List.mem_cons.mp hk with z | z
      · subst z; exact ⟨a, b⟩
      · have := e k z; omega
    · rintro ⟨⟨a, b⟩, c⟩
      refine ⟨c m List.mem_cons_self, b, fun k hk => ?_⟩
      have := a k hk
      have := c k (List.mem_cons_of_mem _ hk)
      omega
theorem max_lt : ∀ {ns : List Int} {c n : Int}, ns.foldl max c < n ↔ c < n ∧ ∀ k ∈ ns, k < n
  | [], c, n => by simp
  | m :: r, c, n => by
    rw [List.foldl_cons, max_lt (ns := r)]
    constructor
    · rintro ⟨a, b⟩
      have h1 : c ≤ max c m := Int.le_max_left c m
      have h2 : m ≤ max c m := Int.le_max_right c m
      refine ⟨by omega, fun k hk => ?_⟩
      rcases List.mem_cons.mp hk with z | z
      · subst z; omega
      · exact b k z
    · rintro ⟨a, b⟩
      refine ⟨?_, fun k hk => b k (List.mem_cons_of_mem _ hk)⟩
      have := b m List.mem_cons_self
      rcases Int.max_def c m ▸ (by split <;> simp : (if c ≤ m then m else c) = m ∨ (if c ≤ m then m else c) = c) with z | z <;> omega
/-- the law's check of a kind -/
theorem kind_law {n : Int} {k : Kd} (h0 : 0 ≤ k.1) (h1 : ∀ c ∈ k.2, 0 ≤ c) : isKind n k = true ↔ k.2.foldl max k.1 < n ∧ k.2.Pairwise (· < ·) ∧ k.2.length ≤ 3 := by
  unfold isKind
  rw [Bool.and_eq_true, Bool.and_eq_true, Bool.and_eq_true, decide_eq_true_iff, decide_eq_true_iff, decide_eq_true_iff, lot_iff, max_lt]
  constructor
  · rintro ⟨⟨⟨a, b⟩, c, e⟩, f⟩
    exact ⟨⟨by omega, fun k hk => by have := (e k hk).2; omega⟩, c, f⟩
  · rintro ⟨⟨a, b⟩, c, e⟩
    exact ⟨⟨⟨h0, by omega⟩, c, fun k hk => ⟨h1 k hk, by have := b k hk; omega⟩⟩, e⟩
/-- a line's word and numbers -/
def headNums (w : Str) (l : Str) : Option (Int × List Int) := match Txt.split l " " with
  | a :: r => if a = w then (match numsOf r with
    | some (n :: ns) => some (n, ns)
    | _ => none) else none
  | [] => none
theorem kind_head (l : Str) : kindOf l = headNums "kind" l := rfl
theorem cells_head (l : Str) : cellsOf l = match headNums "cells" l with | some (n, []) => some n | _ => none := by
  unfold cellsOf headNums
  generalize Txt.split l " " = ws
  match ws with
  | [] => rfl
  | [a] =>
    by_cases h : a = Str.ofString "cells"
    · show none = (match (if a = Str.ofString "cells" then (match numsOf [] with | some (n :: ns) => some (n, ns) | _ => none) else none : Option (Int × List Int)) with | some (n, []) => some n | _ => none)
      rw [if_pos h]; rfl
    · show none = (match (if a = Str.ofString "cells" then (match numsOf [] with | some (n :: ns) => some (n, ns) | _ => none) else none : Option (Int × List Int)) with | some (n, []) => some n | _ => none)
      rw [if_neg h]
  | [a, b] =>
    show (if a = Str.ofString "cells" then numOf b else none) = (match (if a = Str.ofString "cells" then (match numsOf [b] with | some (n :: ns) => some (n, ns) | _ => none) else none : Option (Int × List Int)) with | some (n, []) => some n | _ => none)
    by_cases h : a = Str.ofString "cells"
    · rw [if_pos h, if_pos h, numsOf]
      cases numOf b <;> rfl
    · rw [if_neg h, if_neg h]
  | a :: b :: c :: r =>
    show none = (match (if a = Str.ofString "cells" then (match numsOf (b :: c :: r) with | some (n :: ns) => some (n, ns) | _ => none) else none : Option (Int × List Int)) with | some (n, []) => some n | _ => none)
    by_cases h : a = Str.ofString "cells"
    · rw [if_pos h]
      cases hn : numsOf (b :: c :: r) with
      | none => rfl
      | some ns =>
        have := numsOf_len hn
        match ns, this with
        | [], h => simp at h
        | [m], h => simp at h
        | m :: m2 :: ms, _ => rfl
    · rw [if_neg h]
theorem nums_wt : ∀ {xs : List Str} {ns : List Int}, numsOf xs = some ns → 2 * ns.length ≤ wt xs
  | [], ns, h => by cases h; exact Nat.zero_le _
  | x :: r, ns, h => by
    rw [numsOf] at h
    cases h1 : numOf x with
    | none => rw [h1] at h; cases h
    | some m =>
      cases h2 : numsOf r with
      | none => rw [h1, h2] at h; cases h
      | some ms =>
        rw [h1, h2] at h
        cases h
        have ih := nums_wt h2
        have hx : 1 ≤ x.length := by
          by_cases z : 1 ≤ x.length
          · exact z
          · rw [numOf_no1 z] at h1; cases h1
        have e : wt (x :: r) = wt [x] + wt r := wt_app [x] r
        rw [e, wt_one, List.length_cons]
        omega
end K28
/-! # What is due at a table's text -/
namespace K28
open PySem PySem.Spec PyProof.Rows L2
open Evl (Ex ex_l ex_t)
/-- what the law has told so far -/
def rowsOf (n : Option Int) (ks : List Kd) : List (List Int) := match n with
  | none => []
  | some m => [m] :: ks.map fun k => k.1 :: k.2
theorem TAt.mono {K : PySem.W.Frag} {H H' : Hp} {v : V} {r : List Int} (e : Ex H H') (h : TAt K H v r) : TAt K H' v r := h.monoL (.of e)
theorem lay_ints : ∀ ns : List Int, PyData.canLayAll0 (ns.map .int) = true
  | [] => rfl
  | n :: r => by
    rw [List.map_cons, PyData.canLayAll0, lay_ints r]; rfl
theorem shaped_ints (ns : List Int) : SeqAt.shaped (.list (ns.map .int)) = true := by
  unfold SeqAt.shaped
  rw [PyData.canLay0, lay_ints, Bool.true_and]
  exact decide_eq_true (by rw [PyData.depth, PySem.W.depth_ints]; decide)
def tblOf (m : Int) (ks : List Kd) : Except Out (Int × List Kd) := match tableOut m ks with
  | some o => .error o
  | none => .ok (m, ks)
def tblEnd (l : Nat) (n : Option Int) (ks : List Kd) : Except Out (Int × List Kd) := match n with
  | none => .error (.line l)
  | some m => match tableOut m ks with
    | some o => .error o
    | none => .ok (m, ks)
theorem if_neg_or_none {c : Prop} [Decidable c] {α : Type} : (if c then (none : Option α) else none) = none := by split <;> rfl
theorem go_next {i : Nat} {n : Option Int} {ks : List Kd} {z : Str} {r : List Str} : goLines i n ks (z :: r) = match headNums (if i = 0 then "cells" else "kind") z with
    | none => .error i
    | some (m, ms) => if i = 0 then (if ms = [] then goLines 1 (some m) ks r else .error 0) else goLines (i + 1) n (ks ++ [(m, ms)]) r := by
  rw [goLines]
  by_cases h : i = 0
  · subst h
    rw [if_pos rfl, if_pos rfl, cells_head]
    cases headNums "cells" z with
    | none => rfl
    | some u =>
      obtain ⟨m, ms⟩ := u
      cases ms with
      | nil => rfl
      | cons a b => rfl
  · rw [if_neg h, if_neg h, kind_head]
    cases headNums "kind" z with
    | none => rfl
    | some u =>
      show goLines (i + 1) n (ks ++ [u]) r = if i = 0 then _ else _
      rw [if_neg h]
section
variable {P : Program} {w : World} {K : PySem.W.Frag} {mg : Str → Option Value} {base : Heap}
def spTDue (K : PySem.W.Frag) : Sp := fun vs H Q _ => ∃ v : V, vs = [v] ∧ spDue K readT (fun H u (r : Int × List Kd) => SpecAt K H u r.1 r.2) Q H v
abbrev s__law_table_due : Stmt := top 75
abbrev N__law_table_due : List Str := ["_law_text", "_law_lines", "_law_told", "_law_at", "_law_words", "_law_numbers", "_law_cells", "_law_kinds", "_law_cell", "_law_reads_here", "_law_one"]
abbrev p__law_table_due : List Str := ["_law_text"]
theorem sc__law_table_due : FnScope N__law_table_due p__law_table_due (defScope s__law_table_due) := ⟨rfl, rfl, rfl, by decide +kernel, rfl, by decide +kernel, by decide +kernel⟩
theorem ok__law_table_due (D : Dn K mg "_law_table_due" s__law_table_due p__law_table_due) (T : Txt K mg) (c__law_numbers_of : C8.Cal P w K mg base 2 "_law_numbers_of" (spNums K) []) : C8.Cal P w K mg base 3 "_law_table_due" (spTDue K) [] := by
  refine D.ok sc__law_table_due (fun vs H Q E h => ?_) (fun f cdv A outer s H vs Q E hr h => ?_)
  · obtain ⟨v, rfl, _⟩ := h
    rfl
  obtain ⟨v, rfl, h⟩ := h
  refine ⟨_, (pss_cons (ps_if (pt_not (pt_val (pe_callB call_isi (by rfl) T.isinstance (by decide +kernel) (pa_cons (pv 0) (pa_cons (pe_bltn (v := .ty "str") (by rfl) T.str (by decide +kernel) rfl) pa_nil))))) (pss_one (ps_ret (pe_tup (pa_cons pe_str (pa_cons pe_int pa_nil))))) pss_nil)
  (pss_cons (ps_set (i := 1) sc__law_table_due.nd rfl (Or.inl rfl) (pe_split (pv 0) pe_str))
  (pss_cons (ps_set (i := 2) sc__law_table_due.nd rfl (Or.inl rfl) (pe_lst pa_nil))
  (pss_cons (ps_for PassesOwn.never rfl (pi_range1 (by rfl) T.range (pa_cons (pe_op op_sub (pe_callB call_len_seq (by rfl) T.len (by decide +kernel) (pa_cons (pv 1) pa_nil)) pe_int) pa_nil)) (pg_name (i := 3) sc__law_table_due.nd rfl (Or.inl rfl))
  (pss_cons (ps_set (i := 4) sc__law_table_due.nd rfl (Or.inl rfl) (pe_split (pe_ix ix_list (pv 1) (pv 3) (fun _ _ => rfl)) pe_str))
  (pss_cons (ps_set (i := 5) sc__law_table_due.nd rfl (Or.inl rfl) (C8.pe_c c__law_numbers_of hr (by decide) (by rfl) (pa_cons (pe_slice sl_list (pv 4) (po_some pe_int) po_none) pa_nil)))
  (pss_cons (ps_if (PW.pt (pw_or (pt_cmpR op_ne (pe_ix ix_list (pv 4) pe_int (fun _ _ => rfl)) (pe_ifExp (pt_cmpR op_eq (pv 3) pe_int (nomark _)) pe_str pe_str) (nomark _)) (pw_or (pt_cmpR op_isN (pv 5) pe_non (nomark _)) (pw_or1 (pt_cmpR op_eq (pe_callB call_len_seq (by rfl) T.len (by decide +kernel) (pa_cons (pv 5) pa_nil)) pe_int (nomark _)))))) (pss_one (ps_ret (pe_tup (pa_cons pe_str (pa_cons (pe_op op_add (pv 3) pe_int) pa_nil))))) pss_nil)
  (pss_cons (ps_if (PW.pt (pw_and (pt_cmpR op_eq (pv 3) pe_int (nomark _)) (pw_and1 (pt_cmpR op_ne (pe_callB call_len_seq (by rfl) T.len (by decide +kernel) (pa_cons (pv 5) pa_nil)) pe_int (nomark _))))) (pss_one (ps_ret (pe_tup (pa_cons pe_str (pa_cons pe_int pa_nil))))) pss_nil)
  (pss_one (ps_expr (pe_bm PySem.F.plainAttrs_list PySem.F.slot_list_append PySem.F.type_list_append mt_append (pv 2) (pa_cons (pv 5) pa_nil)))))))))
  (pss_cons (ps_if (PW.pt (pw_or (pt_cmpR op_eq (pe_callB call_len_seq (by rfl) T.len (by decide +kernel) (pa_cons (pv 2) pa_nil)) pe_int (nomark _)) (pw_or1 (pt_cmpR op_ne (pe_ix ix_list (pv 1) (pe_un un_neg pe_int) (fun _ _ => rfl)) pe_str (nomark _))))) (pss_one (ps_ret (pe_tup (pa_cons pe_str (pa_cons (pe_callB call_len_seq (by rfl) T.len (by decide +kernel) (pa_cons (pv 1) pa_nil)) pa_nil))))) pss_nil)
  (pss_cons (ps_par (i := 6) (j := 7) (by rfl) sc__law_table_due.nd rfl rfl (by decide) rfl rfl (pa_cons (pe_ix ix_tup (pe_ix ix_list (pv 2) pe_int (fun _ _ => rfl)) pe_int (fun _ _ => rfl)) (pa_cons (pe_callTy call_tuple_of (by rfl) T.tuple (by decide +kernel) (pa_cons (pe_lc (own := [("_law_one", 10)]) (g := gName 10) (tt := tYes) rfl sc__law_table_due.nd (pi_list (pe_slice sl_list (pv 2) (po_some pe_int) po_none)) (blkOk_by (N := N__law_table_due) (sc := defScope s__law_table_due) (by decide +kernel)) (fun _ _ _ _ _ => (pg_name (i := 10) sc__law_table_due.nd rfl (Or.inl rfl))) (fun _ _ _ _ _ => pts_nil) (fun _ _ _ _ _ => (pe_tup (pa_cons (pe_ix (ix_tupK (K := K)) (pv 10) pe_int (fun _ _ => rfl)) (pa_cons (pe_slice (sl_tupAK (K := K)) (pv 10) (po_some pe_int) po_none) pa_nil))))) pa_nil)) pa_nil)) (by rfl))
  (pss_cons (ps_if (pt_not (pt_chain op_le op_le pe_int (pv 6) pe_int)) (pss_one (ps_ret (pe_tup (pa_cons pe_str (pa_cons pe_str (pa_cons (pe_un un_neg pe_int) pa_nil)))))) pss_nil)
  (pss_cons (ps_if (pt_not (pt_chain op_le op_le pe_int (pe_callB call_len_seq (by rfl) T.len (by decide +kernel) (pa_cons (pv 7) pa_nil)) pe_int)) (pss_one (ps_ret (pe_tup (pa_cons pe_str (pa_cons pe_str (pa_cons (pe_un un_neg pe_int) pa_nil)))))) pss_nil)
  (pss_cons (ps_for PassesOwn.never rfl (pi_range1 (by rfl) T.range (pa_cons (pe_callB call_len_seq (by rfl) T.len (by decide +kernel) (pa_cons (pv 7) pa_nil)) pa_nil)) (pg_name (i := 3) sc__law_table_due.nd rfl (Or.inl rfl))
  (pss_cons (ps_asg (pe_ix ix_tup (pv 7) (pv 3) (fun _ _ => rfl)) (pg_tup (by rfl) (pgs_cons (pg_name (i := 8) sc__law_table_due.nd rfl (Or.inl rfl)) (pgs_cons (pg_name (i := 9) sc__law_table_due.nd rfl (Or.inl rfl)) pgs_nil))))
  (pss_cons (ps_if (PW.pt (pw_or (pt_cmpR op_ge (pe_callB (cr_maxT rfl hr.units) (by rfl) T.max (by decide +kernel) (pa_cons (pe_op op_catA (pe_tup (pa_cons (pv 8) pa_nil)) (pv 9)) pa_nil)) (pv 6) (nomark _)) (pw_or (pt_cmpR (op_neD hr.units) (pe_callTy call_list_of (by rfl) T.list (by decide +kernel) (pa_cons (pv 9) pa_nil)) (pe_callB (cr_sortedSet rfl) (by rfl) T.sorted (by decide +kernel) (pa_cons (pe_callTy (cr_setT rfl) (by rfl) T.set (by decide +kernel) (pa_cons (pv 9) pa_nil)) pa_nil)) (nomark _)) (pw_or1 (pt_cmpR op_gt (pe_callB call_len_seq (by rfl) T.len (by decide +kernel) (pa_cons (pv 9) pa_nil)) pe_int (nomark _)))))) (pss_one (ps_ret (pe_tup (pa_cons pe_str (pa_cons pe_str (pa_cons (pv 3) pa_nil)))))) pss_nil)
  (pss_one (ps_if (PW.pt (pw_and (pt_cmpR op_gt (pv 3) pe_int (nomark _)) (pw_and1 (pt_cmpR (op_leK hr.units) (pe_ix ix_tup (pv 7) (pv 3) (fun _ _ => rfl)) (pe_ix ix_tup (pv 7) (pe_op op_sub (pv 3) pe_int) (fun _ _ => rfl)) (nomark _))))) (pss_one (ps_ret (pe_tup (pa_cons pe_str (pa_cons pe_str (pa_cons (pv 3) pa_nil)))))) pss_nil)))))
  (pss_one (ps_ret (pe_tup (pa_cons pe_str (pa_cons (pe_tup (pa_cons (pv 6) (pa_cons (pv 7) pa_nil))) pa_nil)))))))))))))), ?_⟩
  rcases h with ⟨x, rfl, hl, k⟩ | ⟨⟨t, h1, h2⟩, k⟩
  rotate_left
  · exact ⟨_, rfl, _, _, _, _, _, rfl, .ty _, h1, h2, _, rfl, iteT ⟨len2, fun q hq => k _ _ (Ex.new hq) (outAt_of (SqT.of upd_same))⟩⟩
  have hz : x.length + 2 ≤ sizeLine := Nat.le_trans (by omega : x.length + 2 ≤ 100000) (by decide)
  refine ⟨_, rfl, _, _, _, _, _, rfl, .ty _, .base (.str x), kit_ty (r := true) (by decide +kernel), _, rfl, iteF ?_⟩
  refine ⟨_, rfl, ⟨x, rfl⟩, x, _, rfl, rfl, mark_line.ne0, hz, fun p hp => ?_⟩
  have hp1 := split_pos x mark_line
  have hsl := split_len x mark_line
  have hpc : ∀ y ∈ Txt.split x "\n", y.length ≤ 7000 := fun y hy => Nat.le_trans (split_piece mark_line hy) hl
  have ek : readT x = match goLines 0 none [] (Txt.split x "\n").dropLast with
    | .error i => .error (.line ((i : Int) + 1))
    | .ok (n, ks) => if (Txt.split x "\n").getLast? ≠ some ("" : Str) then .error (.line (Txt.split x "\n").length) else match n with
      | none => .error (.line (Txt.split x "\n").length)
      | some m => match tableOut m ks with
        | some o => .error o
        | none => .ok (m, ks) := rfl
  have e1 : Ex H (upd H p (.lst ((Txt.split x "\n").map V.str))) := Ex.new hp
  have r1 : upd H p (.lst ((Txt.split x "\n").map V.str)) p = some (.lst ((Txt.split x "\n").map V.str)) := upd_same
  generalize upd H p (.lst ((Txt.split x "\n").map V.str)) = H1 at e1 r1 ⊢
  generalize Txt.split x "\n" = ws at r1 hp1 hsl hpc ek
  refine ⟨Nat.zero_le _, fun pt hpt => ?_⟩
  have npt : p ≠ pt := ne_of_none r1 hpt
  have g : H pt = none := fr_back e1 hpt
  have e2 : Ex H1 (upd H1 pt (.lst [])) := Ex.new hpt
  have r2 : upd H1 pt (.lst []) pt = some (.lst []) := upd_same
  generalize upd H1 pt (.lst []) = H2 at e2 r2 ⊢
  have E2 := e1.trans e2
  -- the lines
  refine ⟨_, rfl, p, _, rfl, .inl (SqL.of (e2 _ _ r1)), _, _, rfl, rfl, (ws.length : Int) - 1, by rw [List.length_map], by omega, by omega, for_it walk_range (fun i σ Hc => Ex H Hc ∧ Hc p = some (.lst (ws.map V.str)) ∧ ∃ (n : Option Int) (ks : List Kd) (vs : List V) (y3 y4 y5 : Option V), σ = [some (.str x), some (.ref p), some (.ref pt), y3, y4, y5, none, none, none, none, none] ∧
    Hc pt = some (.lst vs) ∧ Paired (TAt K Hc) vs (rowsOf n ks) ∧ goLines 0 none [] ws.dropLast = goLines i n ks (ws.dropLast.drop i) ∧ (n = none ↔ i = 0) ∧ (n = none → ks = []) ∧ ks.length ≤ i ∧ (∀ k ∈ ks, 0 ≤ k.1 ∧ (∀ c ∈ k.2, 0 ≤ c) ∧ k.2.length < 3600))
    ⟨E2, e2 _ _ r1, none, [], [], none, none, none, rfl, r2, .nil, by rw [List.drop_zero], ⟨fun _ => rfl, fun _ => rfl⟩, fun _ => rfl, Nat.zero_le _, fun k hk => (by cases hk)⟩ (fun _ _ _ _ _ => trivial) ?_ ?_⟩
  · rintro i v σ Hz Hc hi ⟨e3, hp3, n, ks, vs, y3, y4, y5, rfl, ht3, hpr, eg, hn0, hnk, hkl, hkb⟩ ⟨rfl, rfl⟩
    have hi' : i < ws.length - 1 := by omega
    obtain ⟨z, hzi⟩ : ∃ z, ws[i]? = some z := ⟨_, List.getElem?_eq_getElem (by omega)⟩
    have hzd : ws.dropLast[i]? = some z := by rw [List.getElem?_dropLast, if_pos hi']; exact hzi
    have hzl := hpc z (List.mem_of_getElem? hzi)
    have ai : atI (ws.map V.str) (0 + (i : Int)) = some (.str z) := by rw [Int.zero_add]; exact atI_nat (by rw [List.getElem?_map, hzi]; rfl)
    rw [drop_get hzd, go_next] at eg
    refine ⟨_, rfl, _, rfl, p, _, _, .str z, rfl, rfl, SqL.of hp3, ai, ⟨z, rfl⟩, z, _, rfl, rfl, mark_blank.ne0, Nat.le_trans (by omega : z.length + 2 ≤ 100000) (by decide), fun q hq => ?_⟩
    have hq1 := split_pos z mark_blank
    have hqw := split_wt z mark_blank
    have hqc : ∀ y ∈ Txt.split z " ", y.length ≤ 7000 := fun y hy => Nat.le_trans (split_piece mark_blank hy) hzl
    have hh : ∀ W : Str, headNums W z = match Txt.split z " " with | a :: r => if a = W then (match numsOf r with | some (n :: ns) => some (n, ns) | _ => none) else none | [] => none := fun W => rfl
    have e4 : Ex Hc (upd Hc q (.lst ((Txt.split z " ").map V.str))) := Ex.new hq
    have r4 : upd Hc q (.lst ((Txt.split z " ").map V.str)) q = some (.lst ((Txt.split z " ").map V.str)) := upd_same
    generalize upd Hc q (.lst ((Txt.split z " ").map V.str)) = H4 at e4 r4 ⊢
    generalize Txt.split z " " = qs at r4 hq1 hqc hh hqw
    obtain ⟨a, r, rfl⟩ : ∃ a r, qs = a :: r := by
      cases qs with
      | nil => simp at hq1
      | cons a r => exact ⟨a, r, rfl⟩
    have hh : ∀ W : Str, headNums W z = if a = W then (match numsOf r with | some (n :: ns) => some (n, ns) | _ => none) else none := hh
    have hrw : wt r ≤ 7001 := by
      have e : wt (a :: r) = wt [a] + wt r := wt_app [a] r
      omega
    have hrl := wt_len r
    refine ⟨_, rfl, _, rfl, q, _, rfl, SqL.of r4, fun q2 hq2 => ?_⟩
    have ec : cutV ((a :: r).map V.str) (some 1) none = r.map V.str := by
      rw [show (some (1 : Int)) = some ((1 : Nat) : Int) from rfl, cut_from]
      rfl
    rw [ec]
    have e5 : Ex H4 (upd H4 q2 (.lst (r.map V.str))) := Ex.new hq2
    have r5 : upd H4 q2 (.lst (r.map V.str)) q2 = some (.lst (r.map V.str)) := upd_same
    generalize upd H4 q2 (.lst (r.map V.str)) = H5 at e5 r5 ⊢
    have E5 := (e3.trans e4).trans e5
    have bad : ∀ (H' : Hp) (y : V), Ex H H' → headNums (if i = 0 then "cells" else "kind") z = none → tTup (tCons (tC (V.str "line")) (tCons (tOp (rI0 fun i j => V.int (i + j)) (tVar 3) (tC (V.int 1))) tNil)) [some (.str x), some (.ref p), some (.ref pt), some (.int (0 + (i : Int))), some (.ref q), some y, none, none, none, none, none] H' Q := fun H' y e' hn => by
      rw [hn] at eg
      rw [eg] at ek
      rw [ek] at k
      refine ⟨_, rfl, _, _, rfl, rfl, len2, fun q hq => k _ _ (e'.trans (Ex.new hq)) (outAt_of (SqT.of ?_))⟩
      rw [upd_same, Int.zero_add]
      rfl
    have pick : ∀ (R : VK) (Hx : Hp) (σ : L2.St), R (.str (if i = 0 then "cells" else "kind")) Hx → if decide (V.int (0 + (i : Int)) = V.int 0) = true then tC (.str "cells") σ Hx R else tC (.str "kind") σ Hx R := fun R Hx σ h => by
      by_cases hi0 : i = 0
      · subst hi0; exact iteT h
      · rw [if_neg hi0] at h
        rw [decide_eq_false (fun e => hi0 (by injection e with e; omega))]
        exact iteF h
    refine ⟨q2, r, rfl, SqL.of r5, by omega, fun y hy => by have := hqc y (List.mem_cons_of_mem _ hy); omega, fun hn H6 e6 => ?_, fun ns hn H6 t e6 ht6 => ?_⟩
    · have r6 := e6 _ _ (e5 _ _ r4)
      refine ⟨_, rfl, q, _, 0, .str a, rfl, rfl, SqL.of r6, atI_nat (j := 0) rfl, _, rfl, rfl, _, rfl, ?_⟩
      refine pick _ _ _ ⟨rfl, _, rfl, ?_⟩
      have hnone : headNums (if i = 0 then "cells" else "kind") z = none := by rw [hh, hn]; exact if_neg_or_none
      exact ite2 (fun _ => bad _ _ (E5.trans e6) hnone) (fun _ => ⟨_, rfl, rfl, _, rfl, iteT (bad _ _ (E5.trans e6) hnone)⟩)
    · have r6 := e6 _ _ (e5 _ _ r4)
      have E6 := E5.trans e6
      have hh' := hh (if i = 0 then "cells" else "kind")
      rw [hn] at hh'
      refine ⟨_, rfl, q, _, 0, .str a, rfl, rfl, SqL.of r6, atI_nat (j := 0) rfl, _, rfl, rfl, _, rfl, ?_⟩
      refine pick _ _ _ ⟨rfl, _, rfl, ?_⟩
      rw [str_eq]
      by_cases ha : a = (if i = 0 then ("cells" : Str) else ("kind" : Str) : Str)
      rotate_left
      · rw [if_neg ha] at hh'
        rw [decide_eq_false ha]
        exact iteT (bad _ _ E6 hh')
      rw [if_pos ha] at hh'
      rw [decide_eq_true ha]
      refine iteF ⟨_, rfl, rfl, _, rfl, iteF ⟨_, rfl, t, _, rfl, .inr (SqT.of ht6), rfl, _, rfl, ?_⟩⟩
      rw [List.length_map]
      show if decide (V.int ((ns.length : Nat) : Int) = V.int ((0 : Nat) : Int)) = true then _ else _
      rw [len_eq]
      have hnw := nums_wt hn
      have hnb := numsOf_bd hn
      cases ns with
      | nil => exact iteT (bad _ _ E6 hh')
      | cons m ms =>
        have hh' : headNums (if i = 0 then "cells" else "kind") z = some (m, ms) := hh'
        rw [hh'] at eg
        replace eg : goLines 0 none [] ws.dropLast = if i = 0 then (if ms = [] then goLines 1 (some m) ks (ws.dropLast.drop (i + 1)) else .error 0) else goLines (i + 1) n (ks ++ [(m, ms)]) (ws.dropLast.drop (i + 1)) := eg
        rw [decide_eq_false (by simp)]
        refine iteF ?_
        have t6 := ht6
        have e36 := (e4.trans e5).trans e6
        have p6 := e36 _ _ hp3
        have pt6 := e36 _ _ ht3
        have hvl : vs.length ≤ 7001 := by
          have h1 := pair_len hpr
          rw [h1]
          unfold rowsOf
          cases n with
          | none => exact Nat.zero_le _
          | some m => rw [List.length_cons, List.length_map]; omega
        have hpr6 : Paired (TAt K (upd H6 pt (.lst (vs ++ [V.ref t])))) (vs ++ [V.ref t]) (rowsOf n ks ++ [m :: ms]) :=
          pair_app (Paired.mapP hpr fun _ _ q => (q.mono e36).monoL (exl_upd pt6)) (.cons (TAt.monoL (exl_upd pt6) ⟨t, rfl, SqT.of ht6⟩) .nil)
        refine ⟨_, rfl, rfl, _, rfl, ?_⟩
        by_cases hi0 : i = 0
        · subst hi0
          rw [if_pos rfl] at eg
          have hn' := hn0.mpr rfl
          subst hn'
          have hk' := hnk rfl
          subst hk'
          refine iteT ⟨_, rfl, t, _, rfl, .inr (SqT.of ht6), rfl, _, rfl, ?_⟩
          rw [List.length_map]
          show if (!decide (V.int (((m :: ms).length : Nat) : Int) = V.int ((1 : Nat) : Int))) = true then _ else _
          rw [len_eq]
          cases ms with
          | cons b bs =>
            rw [if_neg (by simp)] at eg
            rw [eg] at ek
            rw [ek] at k
            rw [decide_eq_false (by simp)]
            exact iteT ⟨len2, fun q hq => k _ _ (E6.trans (Ex.new hq)) (outAt_of (SqT.of upd_same))⟩
          | nil =>
            rw [if_pos rfl] at eg
            refine iteF ⟨_, rfl, .inl ⟨rfl, vs, SqL.of pt6⟩, _, rfl, pt, vs, _, rfl, rfl, pt6, Nat.lt_of_le_of_lt (by omega : vs.length ≤ 100000) (by decide), ?_⟩
            exact ⟨ex_upd E6 g, by rw [upd_ne npt]; exact p6, some m, [], _, _, _, _, rfl, upd_same, hpr6, eg, ⟨fun h => (by cases h), fun h => (by cases h)⟩, fun h => (by cases h), Nat.zero_le _, fun k hk => (by cases hk)⟩
        · rw [if_neg hi0] at eg
          rw [decide_eq_false (fun e => hi0 (by injection e with e; omega))]
          refine iteF (iteF ⟨_, rfl, .inl ⟨rfl, vs, SqL.of pt6⟩, _, rfl, pt, vs, _, rfl, rfl, pt6, Nat.lt_of_le_of_lt (by omega : vs.length ≤ 100000) (by decide), ?_⟩)
          obtain ⟨c, rfl⟩ : ∃ c, n = some c := by
            cases n with
            | none => exact absurd (hn0.mp rfl) hi0
            | some c => exact ⟨c, rfl⟩
          have er : rowsOf (some c) ks ++ [m :: ms] = rowsOf (some c) (ks ++ [(m, ms)]) := by
            show ([c] :: ks.map _) ++ [m :: ms] = [c] :: (ks ++ [(m, ms)]).map _
            rw [List.map_append]; rfl
          rw [er] at hpr6
          refine ⟨ex_upd E6 g, by rw [upd_ne npt]; exact p6, some c, ks ++ [(m, ms)], _, _, _, _, rfl, upd_same, hpr6, eg, ⟨fun h => (by cases h), fun h => (by cases h)⟩, fun h => (by cases h), by rw [List.length_append, List.length_singleton]; omega, fun k hk => ?_⟩
          rcases List.mem_append.mp hk with h | h
          · exact hkb k h
          · rw [List.mem_singleton.mp h]
            rw [List.length_cons] at hnw
            exact ⟨(hnb m List.mem_cons_self).1, fun c hc => (hnb c (List.mem_cons_of_mem _ hc)).1, by show ms.length < 3600; omega⟩
  · rintro σ Hc ⟨e3, hp3, n, ks, vs, y3, y4, y5, rfl, ht3, hpr, eg, hn0, hnk, hkl, hkb⟩
    have ed : ((ws.length : Int) - 1).toNat = ws.dropLast.length := by rw [List.length_dropLast]; omega
    rw [ed] at eg hn0 hkl
    rw [List.drop_length, goLines] at eg
    rw [eg] at ek
    replace ek : readT x = if ws.getLast? ≠ some ("" : Str) then .error (.line ws.length) else tblEnd ws.length n ks := ek
    obtain ⟨z, hlast⟩ : ∃ z, ws.getLast? = some z := by
      cases e : ws.getLast? with
      | none =>
        have := List.getLast?_eq_none_iff.mp e
        rw [this] at hp1
        simp at hp1
      | some z => exact ⟨z, rfl⟩
    have hlast2 : (ws.map V.str).getLast? = some (.str z) := by rw [List.getLast?_map, hlast]; rfl
    have bad : readT x = .error (.line (ws.length : Nat)) → tTup (tCons (tC (V.str "line")) (tCons (tCB (fun xs H_1 Q => ∃ p ys, xs = [V.ref p] ∧ (SqL K H_1 p ys ∨ SqT K H_1 p ys) ∧ Q (V.int ys.length) H_1) (tCons (tVar 1) tNil)) tNil)) [some (.str x), some (.ref p), some (.ref pt), y3, y4, y5, none, none, none, none, none] Hc Q := fun hb => by
      rw [hb] at k
      refine ⟨_, rfl, p, _, rfl, .inl (SqL.of hp3), len2, fun q hq => k _ _ (e3.trans (Ex.new hq)) (outAt_of (SqT.of ?_))⟩
      rw [upd_same, List.length_map]
      rfl
    refine ⟨_, rfl, pt, _, rfl, .inl (SqL.of ht3), rfl, _, rfl, ?_⟩
    cases n with
    | none =>
      have : vs = [] := by cases hpr; rfl
      subst this
      refine iteT (bad ?_)
      rw [ek]
      split <;> rfl
    | some m =>
      obtain ⟨v0, vr, rfl, hv0, hvr⟩ : ∃ v0 vr, vs = v0 :: vr ∧ TAt K Hc v0 [m] ∧ Paired (TAt K Hc) vr (ks.map fun k => k.1 :: k.2) := by
        cases hpr with
        | cons a b => exact ⟨_, _, rfl, a, b⟩
      rw [decide_eq_false (fun q => by injection q with q; rw [List.length_cons] at q; omega)]
      refine iteF ⟨_, rfl, 1, rfl, p, _, _, .str z, rfl, rfl, SqL.of hp3, at_last hlast2, rfl, _, rfl, ?_⟩
      rw [str_eq]
      by_cases hz0 : z = ""
      rotate_left
      · rw [decide_eq_false hz0]
        refine iteT (bad ?_)
        rw [ek, if_pos (by rw [hlast]; exact fun q => hz0 (Option.some.inj q))]
      rw [if_neg (by rw [hlast, hz0]; exact fun q => q rfl)] at ek
      replace ek : readT x = tblOf m ks := ek
      rw [decide_eq_true hz0]
      refine iteF ?_
      -- cells, kinds
      obtain ⟨a0, rfl, ha0⟩ := hv0
      refine ⟨_, rfl, pt, _, 0, .ref a0, rfl, rfl, SqL.of ht3, atI_nat (j := 0) rfl, a0, _, 0, .int m, rfl, rfl, ha0, atI_nat (j := 0) rfl, ?_⟩
      refine ⟨_, rfl, _, rfl, pt, _, rfl, SqL.of ht3, fun q hq => ?_⟩
      have ec : cutV (V.ref a0 :: vr) (some 1) none = vr := by
        rw [show (some (1 : Int)) = some ((1 : Nat) : Int) from rfl, cut_from]
        rfl
      rw [ec]
      have e4 : Ex Hc (upd Hc q (.lst vr)) := Ex.new hq
      have r4 : upd Hc q (.lst vr) q = some (.lst vr) := upd_same
      generalize upd Hc q (.lst vr) = H4 at e4 r4 ⊢
      have hvl := pair_len hvr
      rw [List.length_map] at hvl
      rw [List.length_dropLast] at hkl
      refine ⟨q, rfl, ⟨_, SqL.of r4⟩, fun D hD => lc_pure hD (walk_list (xs := vr)) yat_ex (fun _ => rfl) (fun H' e => SqL.of (e _ _ r4)) (by omega) (fun i y Hq => ∃ kd, ks[i]? = some kd ∧ KdAt K Hq y kd) ?_ ?_ ?_⟩
      · rintro i y H5 H6 e ⟨kd, h1, h2⟩
        exact ⟨kd, h1, h2.monoL e⟩
      · rintro i v H5 H6 hi e5 ⟨rfl, hv⟩ Q' q'
        obtain ⟨rw', hrw', b, rfl, hb⟩ := pair_get hvr hv
        rw [List.getElem?_map] at hrw'
        cases hkd : ks[i]? with
        | none => rw [hkd] at hrw'; cases hrw'
        | some kd =>
          rw [hkd] at hrw'
          cases hrw'
          have hb5 : SqT K H6 b ((kd.1 :: kd.2).map V.int) := ex_t (e4.trans e5) hb
          refine ⟨_, rfl, b, _, 0, .int kd.1, rfl, rfl, hb5, atI_nat (j := 0) rfl, _, rfl, _, rfl, ?_⟩
          show rSlA K (.ref b) (some 1) none H6 (fun y H2 => [V.int kd.1, y].length ≤ sizeLine ∧ ∀ p, H2 p = none → Q' (.ref p) (upd H2 p (.tup [V.int kd.1, y])))
          refine use_slA hb5 fun u Hu eu hu => ?_
          have ec2 : cutV ((kd.1 :: kd.2).map V.int) (some 1) none = kd.2.map V.int := by
            rw [show (some (1 : Int)) = some ((1 : Nat) : Int) from rfl, cut_from]
            rfl
          rw [ec2] at hu
          exact ⟨len2, fun t ht => q' _ _ (eu.trans (Ex.new ht)) ⟨kd, hkd, t, u, rfl, SqT.of upd_same, ex_t (Ex.new ht) hu⟩⟩
      intro H5 acc e5 hA hl' hR
      refine ⟨D, _, rfl, .inl ⟨SqL.of hA, fun l hl => ?_⟩⟩
      have e6 : Ex H5 (upd H5 l (.tup acc)) := Ex.new hl
      have r6 : upd H5 l (.tup acc) l = some (.tup acc) := upd_same
      generalize upd H5 l (.tup acc) = H6 at e6 r6 ⊢
      have E6 := ((e3.trans e4).trans e5).trans e6
      have hks : Paired (KdAt K H6) acc ks := acc_pair (by rw [hl', hvl]) fun i y h => by
        obtain ⟨kd, h1, h2⟩ := hR i y h
        exact ⟨kd, h1, h2.mono e6⟩
      have hT6 : SqT K H6 l acc := SqT.of r6
      have hal := pair_len hks
      unfold tblOf tableOut at ek
      refine ⟨_, _, rfl, ?_⟩
      refine ⟨_, rfl, ⟨_, _, rfl, rfl, _, rfl, ?_⟩⟩
      have tab : ∀ (part : Str) (at_ : Int) (σ : L2.St) (H' : Hp), Ex H H' → readT x = .error (.table part at_) → ∀ t : TE, (∀ (Hx : Hp) (R : VK), R (.int at_) Hx → t σ Hx R) → tTup (tCons (tC (V.str "table")) (tCons (tC (V.str part)) (tCons t tNil))) σ H' Q := fun part at_ σ H' e' he t ht => by
        rw [he] at k
        exact ht _ _ ⟨len3, fun q hq => k _ _ (e'.trans (Ex.new hq)) (outAt_of (SqT.of upd_same))⟩
      have neg : ∀ (σ : L2.St) (Hx : Hp) (R : VK), R (.int (-1)) Hx → tUn (rU fun i => V.int (-i)) (tC (V.int 1)) σ Hx R := fun σ Hx R h => ⟨1, rfl, h⟩
      by_cases c1 : 1 ≤ m ∧ m ≤ 8
      rotate_left
      · rw [if_pos c1] at ek
        by_cases z1 : 1 ≤ m
        · rw [decide_eq_true z1]
          refine iteT ⟨_, _, rfl, rfl, _, rfl, ?_⟩
          rw [decide_eq_false (show ¬ m ≤ 8 from fun q => c1 ⟨z1, q⟩)]
          exact iteT (tab _ _ _ _ E6 ek _ (neg _))
        · rw [decide_eq_false z1]
          exact iteF ⟨_, rfl, iteT (tab _ _ _ _ E6 ek _ (neg _))⟩
      rw [if_neg (fun q => q c1)] at ek
      rw [decide_eq_true c1.1]
      refine iteT ⟨_, _, rfl, rfl, _, rfl, ?_⟩
      rw [decide_eq_true c1.2]
      refine iteF ?_
      refine ⟨_, rfl, l, _, rfl, .inr hT6, ⟨_, _, rfl, rfl, _, rfl, ?_⟩⟩
      rw [hal]
      by_cases c2 : 1 ≤ ks.length ∧ ks.length ≤ 40
      rotate_left
      · rw [if_pos c2] at ek
        by_cases z1 : 1 ≤ ks.length
        · rw [decide_eq_true (show (1 : Int) ≤ (ks.length : Int) by omega)]
          refine iteT ⟨_, _, rfl, rfl, _, rfl, ?_⟩
          rw [decide_eq_false (show ¬ (ks.length : Int) ≤ 40 from fun q => c2 ⟨z1, by omega⟩)]
          exact iteT (tab _ _ _ _ E6 ek _ (neg _))
        · rw [decide_eq_false (show ¬ (1 : Int) ≤ (ks.length : Int) by omega)]
          exact iteF ⟨_, rfl, iteT (tab _ _ _ _ E6 ek _ (neg _))⟩
      rw [if_neg (fun q => q c2)] at ek
      rw [decide_eq_true (show (1 : Int) ≤ (ks.length : Int) by omega)]
      refine iteT ⟨_, _, rfl, rfl, _, rfl, ?_⟩
      rw [decide_eq_true (show (ks.length : Int) ≤ 40 by omega)]
      refine iteF ?_
      have ekB : ∀ i, badAt m none 0 ks = some i → readT x = .error (.table "kinds" (i : Int)) := fun i hb => by rw [hb] at ek; exact ek
      have ekG : badAt m none 0 ks = none → readT x = .ok (m, ks) := fun hb => by rw [hb] at ek; exact ek
      have hK : ∀ H', Ex H6 H' → SqT K H' l acc := fun H' e => ex_t e hT6
      refine ⟨_, rfl, l, _, rfl, .inr hT6, (acc.length : Int), rfl, by omega, by omega, for_it walk_range (fun i σ Hc => Ex H6 Hc ∧ badAt m none 0 ks = badAt m (prevKd ks i) i (ks.drop i) ∧ ∃ y3 y8 y9 : Option V, σ = [some (.str x), some (.ref p), some (.ref pt), y3, y4, y5, some (.int m), some (.ref l), y8, y9, none])
        ⟨Ex.refl H6, by rw [List.drop_zero]; rfl, _, _, _, rfl⟩ (fun _ _ _ _ _ => trivial) ?_ ?_⟩
      · rintro i v σ Hz Hd hi ⟨e7, eb, y3', y8, y9, rfl⟩ ⟨rfl, rfl⟩
        have hil : i < ks.length := by omega
        obtain ⟨kd, hkd⟩ : ∃ kd, ks[i]? = some kd := ⟨_, List.getElem?_eq_getElem hil⟩
        obtain ⟨vk, hvk, pa, pr, rfl, ha1, ha2⟩ := pair_get2 hks hkd
        obtain ⟨b0, b1, b2⟩ := hkb kd (List.mem_of_getElem? hkd)
        have avk : atI acc (0 + (i : Int)) = some (.ref pa) := by rw [Int.zero_add]; exact atI_nat hvk
        rw [drop_get hkd, badAt] at eb
        refine ⟨_, rfl, _, rfl, l, _, _, .ref pa, rfl, rfl, hK _ e7, avk, pa, _, rfl, ex_t e7 ha1, rfl, _, _, rfl, _, _, rfl, rfl, ?_⟩
        have bad : ∀ (H' : Hp), Ex Hd H' → badAt m none 0 ks = some i → tTup (tCons (tC (V.str "table")) (tCons (tC (V.str "kinds")) (tCons (tVar 3) tNil))) [some (.str x), some (.ref p), some (.ref pt), some (.int (0 + (i : Int))), y4, y5, some (.int m), some (.ref l), some (.int kd.1), some (.ref pr), none] H' Q := fun H' e' hb =>
          tab "kinds" (i : Int) _ H' ((E6.trans e7).trans e') (ekB i hb) _ (fun Hx R h => ⟨_, rfl, by rw [Int.zero_add]; exact h⟩)
        -- max of the numbers
        refine ⟨_, rfl, len1, fun t ht => ⟨_, rfl, use_cat (SqT.of upd_same) (ex_t (e7.trans (Ex.new ht)) ha2) (by rw [List.length_map, List.length_singleton]; omega) fun u Hu eu hu => ⟨u, kd.1, kd.2, rfl, hu, _, rfl, _, _, rfl, rfl, _, rfl, ?_⟩⟩⟩
        have e8 : Ex Hd Hu := (Ex.new ht).trans eu
        have hkl2 : isKind m kd = true ↔ _ := kind_law b0 b1
        have notk : ¬ (kd.2.foldl max kd.1 < m ∧ kd.2.Pairwise (· < ·) ∧ kd.2.length ≤ 3) → badAt m none 0 ks = some i := fun hn => by
          have : isKind m kd = false := by
            cases h : isKind m kd with
            | false => rfl
            | true => exact absurd (hkl2.mp h) hn
          rw [eb, if_pos (.inl this)]
        by_cases q1 : m ≤ kd.2.foldl max kd.1
        · rw [decide_eq_true q1]
          exact iteT (bad _ e8 (notk fun h => by omega))
        rw [decide_eq_false q1]
        refine iteF ?_
        have hlt : ∀ c ∈ kd.2, c < m := (max_lt.mp (by omega : kd.2.foldl max kd.1 < m)).2
        have h2u := ex_t (e7.trans e8) ha2
        refine ⟨_, rfl, pr, _, rfl, .inr h2u, fun l2 hl2 => ?_⟩
        have e9 : Ex Hu (upd Hu l2 (.lst (kd.2.map V.int))) := Ex.new hl2
        have r9 : upd Hu l2 (.lst (kd.2.map V.int)) l2 = some (.lst (kd.2.map V.int)) := upd_same
        generalize upd Hu l2 (.lst (kd.2.map V.int)) = H9 at e9 r9 ⊢
        refine ⟨_, rfl, pr, kd.2, 8, rfl, ex_t e9 h2u, by omega, fun c hc => ⟨b1 c hc, by have := hlt c hc; omega⟩, fun sq nn hsq hnn => ?_⟩
        refine ⟨sq, _, nn, rfl, upd_same, by omega, fun ns q2 hs hm hlen hq2 => ?_⟩
        have e10 : Ex H9 (upd (upd H9 sq (SetO w sq (fun j => decide (j ∈ kd.2)) nn)) q2 (.lst (ns.map V.int))) := (Ex.new hsq).trans (Ex.new hq2)
        have r10 : upd (upd H9 sq (SetO w sq (fun j => decide (j ∈ kd.2)) nn)) q2 (.lst (ns.map V.int)) q2 = some (.lst (ns.map V.int)) := upd_same
        have E10 := (e8.trans e9).trans e10
        refine ⟨.list (kd.2.map .int), .list (ns.map .int), .lst (SqL.of (e10 _ _ r9)) (dp_ints _), .lst (SqL.of r10) (dp_ints _), shaped_ints _, shaped_ints _, _, rfl, ?_⟩
        rw [show PyData.eqv (.list (kd.2.map .int)) (.list (ns.map .int)) = decide (kd.2 = ns) from eqv_ints _ _]
        by_cases q2 : kd.2 = ns
        rotate_left
        · rw [decide_eq_false q2]
          refine iteT (bad _ E10 (notk fun h => q2 ?_))
          exact inc_ext h.2.1 hs fun k => by rw [hm k, decide_eq_true_iff]
        rw [decide_eq_true q2]
        refine iteF ⟨_, rfl, pr, _, rfl, .inr (ex_t (e9.trans e10) h2u), _, _, rfl, rfl, _, rfl, ?_⟩
        rw [List.length_map]
        by_cases q3 : kd.2.length ≤ 3
        rotate_left
        · rw [decide_eq_true (show (3 : Int) < (kd.2.length : Int) by omega)]
          exact iteT (bad _ E10 (notk fun h => q3 h.2.2))
        rw [decide_eq_false (show ¬ (3 : Int) < (kd.2.length : Int) by omega)]
        refine iteF ?_
        have hisk : isKind m kd = true := hkl2.mpr ⟨by omega, by rw [q2]; exact hs, q3⟩
        have nx : prevKd ks (i + 1) = some kd := by
          unfold prevKd
          rw [if_neg (Nat.succ_ne_zero i)]
          exact hkd
        have on : leO kd (prevKd ks i) = false → badAt m none 0 ks = badAt m (prevKd ks (i + 1)) (i + 1) (ks.drop (i + 1)) := fun q => by
          rw [if_neg (by rw [hisk, q]; simp)] at eb
          rw [eb, nx]
        -- not above the one before
        refine ⟨_, rfl, _, _, rfl, rfl, _, rfl, ?_⟩
        by_cases hi0 : i = 0
        · subst hi0
          rw [decide_eq_false (by omega)]
          exact iteF (iteF ⟨e7.trans E10, on rfl, _, _, _, rfl⟩)
        rw [decide_eq_true (by omega)]
        obtain ⟨j, rfl⟩ : ∃ j, i = j + 1 := ⟨i - 1, by omega⟩
        obtain ⟨kp, hkp⟩ : ∃ kp, ks[j]? = some kp := ⟨_, List.getElem?_eq_getElem (by omega)⟩
        obtain ⟨up, hup, hap⟩ := pair_get2 hks hkp
        have pv : prevKd ks (j + 1) = some kp := by
          unfold prevKd
          rw [if_neg (Nat.succ_ne_zero j)]
          exact hkp
        have E11 := e7.trans E10
        refine iteT ⟨_, rfl, _, rfl, l, acc, _, .ref pa, rfl, rfl, hK _ E11, avk, _, rfl, _, rfl, _, _, rfl, rfl, l, acc, _, up, rfl, rfl, hK _ E11, ?_, kd, kp, KdAt.mono E11 ⟨pa, pr, rfl, ha1, ha2⟩, hap.mono E11, _, rfl, ?_⟩
        · rw [show 0 + ((j + 1 : Nat) : Int) - 1 = (j : Int) by omega]
          exact atI_nat (j := j) hup
        cases hle : leKd kd kp with
        | true =>
          refine iteT (bad _ E10 ?_)
          rw [eb, if_pos (.inr (by rw [pv]; exact hle))]
        | false => exact iteF ⟨E11, on (by rw [pv]; exact hle), _, _, _, rfl⟩
      · rintro σ Hd ⟨e7, eb, y3', y8, y9, rfl⟩
        rw [hal, Int.toNat_natCast, List.drop_length, badAt] at eb
        rw [ekG eb] at k
        refine ⟨_, rfl, _, rfl, len2, fun q hq => ⟨len2, fun q2 hq2 => k _ _ ((E6.trans e7).trans ((Ex.new hq).trans (Ex.new hq2))) ⟨q2, _, rfl, SqT.of upd_same, q, l, rfl, SqT.of ((Ex.new hq2) _ _ upd_same), acc, ex_t ((Ex.new hq).trans (Ex.new hq2)) (hK _ e7), Paired.mapP hks fun _ _ h => h.mono (e7.trans ((Ex.new hq).trans (Ex.new hq2)))⟩⟩⟩
end
end K28
/-! # What a reader raises, told by the law -/
namespace K28
open PySem PySem.Spec PyProof.Rows L2 LamX
open Evl (Ex ex_l ex_t)
/-- the error classes among each other, and their fields -/
structure ClE (K : PySem.W.Frag) (d : Ad) : Prop where
  xbt : XfC K d.bt
  xbb : XfC K d.bb
  tt : PySem.W.exmOne K (.ref d.bt) (.ref d.bt) = some true
  bt : PySem.W.exmOne K (.ref d.bb) (.ref d.bt) = some false
  bb : PySem.W.exmOne K (.ref d.bb) (.ref d.bb) = some true
  jt : PySem.W.exmOne K (.ref d.nj) (.ref d.bt) = some false
  jb : PySem.W.exmOne K (.ref d.nj) (.ref d.bb) = some false
  jj : PySem.W.exmOne K (.ref d.nj) (.ref d.nj) = some true
  rt : PySem.W.exmOne K (.ref d.nr) (.ref d.bt) = some false
  rb : PySem.W.exmOne K (.ref d.nr) (.ref d.bb) = some false
  rj : PySem.W.exmOne K (.ref d.nr) (.ref d.nj) = some false
  rr : PySem.W.exmOne K (.ref d.nr) (.ref d.nr) = some true
/-- what the law's reader makes of an error -/
def ErR (d : Ad) (Q : VK) : XK := fun cls dx H' =>
  (cls = .ref d.bt ∧ ∃ (x : Addr) (n : Int), dx = some x ∧ H' x = some (.xd [("line", .int n)]) ∧ ∀ p, H' p = none → Q (.ref p) (upd H' p (.tup (outV (.line n))))) ∨
  (cls = .ref d.bb ∧ ∃ (x : Addr) (s : Str) (n : Int), dx = some x ∧ H' x = some (.xd [("at", .int n), ("part", .str s)]) ∧ ∀ p, H' p = none → Q (.ref p) (upd H' p (.tup (outV (.table s n))))) ∨
  (cls = .ref d.nj ∧ ∀ p, H' p = none → Q (.ref p) (upd H' p (.tup (outV .journal)))) ∨
  (cls = .ref d.nr ∧ ∀ p, H' p = none → Q (.ref p) (upd H' p (.tup (outV .run))))
def TTr (d : Ad) : (XK → Hp → VK → Prop) → Hp → VK → Prop := fun tl H Q => ∀ H0, Ex H H0 → ∀ (E : XK) (R : VK), (∀ c x H', ErR d Q c x H' → E c x H') → (∀ v H', (∀ p, H' p = none → Q (.ref p) (upd H' p (.tup [.str "told", v]))) → R v H') → tl E H0 R
section
variable {X : Cx} {d : Ad} {g : Addr} {cdg : Value} {q : Str}
abbrev s__law_read : Stmt := top 72
abbrev N__law_read : List Str := ["_law_call", "_law_found", "e"]
abbrev p__law_read : List Str := ["_law_call"]
theorem sc__law_read : FnScope N__law_read p__law_read (defScope s__law_read) := ⟨rfl, rfl, rfl, by decide +kernel, rfl, by decide +kernel, by decide +kernel⟩
theorem ok__law_read (C : Cl X.K X.mg d) (CE : ClE X.K d) : GivesTo X N__law_read "_law_read" (defScope s__law_read) g cdg (defBody s__law_read) "_law_call" q (TTr d) := by
  intro f c' s H Q tl act hc h
  refine ⟨_, pss_cons (ps_set (i := 1) sc__law_read.nd rfl (Or.inl rfl) (pe_tup (pa_cons pe_str pa_nil))) (pss_cons (ps_try_clauses (X := (cxOf C8.CX0 X.prog X.w X.K X.mg X.base N__law_read "_law_read" (defScope s__law_read) g cdg X.A X.stack s H C8.E0).nox)
      (tb := fun W D σ H => ∃ Ech : XK, (∀ cls d σ' H', σ'.length = 3 → Ech cls d H' → W cls d σ' H') ∧ (∃ b c, σ = [some (.ref f), b, c]) ∧ H c' = some (CodeO c' q) ∧ ∀ R : VK, (∀ v H', (∀ p, H' p = none → D.nx (σ.set 1 (some (.ref p))) (upd H' p (.tup [.str "told", v]))) → R v H') → tl Ech H R)
      (Wout := fun _ _ _ _ => False) rfl rfl LamX.takes0 (fun W pn xe tk _ => ?_)
      (.named (c := .ref d.bt) (i := 2) ⟨rfl, by decide, .inl C.m_BadText⟩ sc__law_read.nd rfl rfl (fun a oe cls dx pn hz hf => pss_one (ps_set (i := 1) sc__law_read.nd rfl (Or.inl rfl) (pe_tup (pa_cons pe_str (pa_cons (pe_xf CE.xbt C.n_line hz hf (pv 2)) pa_nil)))))
      (.named (c := .ref d.bb) (i := 2) ⟨rfl, by decide, .inl C.m_BadTable⟩ sc__law_read.nd rfl rfl (fun a oe cls dx pn hz hf => pss_one (ps_set (i := 1) sc__law_read.nd rfl (Or.inl rfl) (pe_tup (pa_cons pe_str (pa_cons (pe_xf CE.xbb C.n_part hz hf (pv 2)) (pa_cons (pe_xf CE.xbb C.n_at hz hf (pv 2)) pa_nil))))))
      (.bare (c := .ref d.nj) ⟨rfl, by decide, .inl C.x_NoJournal.g⟩ (fun a oe cls dx pn hz hf => pss_one (ps_set (i := 1) sc__law_read.nd rfl (Or.inl rfl) (pe_tup (pa_cons pe_str pa_nil))))
      (.bare (c := .ref d.nr) ⟨rfl, by decide, .inl C.x_NoRun.g⟩ (fun a oe cls dx pn hz hf => pss_one (ps_set (i := 1) sc__law_read.nd rfl (Or.inl rfl) (pe_tup (pa_cons pe_str pa_nil))))
      (.bare (c := .ref d.pe) ⟨rfl, by decide, .inl C.m_PlateError⟩ (fun a oe cls dx pn hz hf => pss_one (ps_set (i := 1) sc__law_read.nd rfl (Or.inl rfl) (pe_tup (pa_cons pe_str pa_nil)))) .nil))))))
      (pss_one (ps_ret (pv 1)))), ?_⟩
  · refine ⟨fun pins s' σ H' D I h' => ?_⟩
    obtain ⟨Ech, hW, ⟨b, c, rfl⟩, h2, h3⟩ := h'
    have tk' : Takes ((cxOf C8.CX0 X.prog X.w X.K X.mg X.base N__law_read "_law_read" (defScope s__law_read) g cdg X.A X.stack s H C8.E0).tr pn xe) (fun cls d σ' H' => σ'.length = 3 → W cls d σ' H') := fun u s' ⟨a, B, sI, pins, σ, H, cls, d, e, I, nb, up, sky, na, os, ag, w⟩ => tk u s' ⟨a, B, sI, pins, σ, H, cls, d, e, I, nb, up, sky, na, os, ag, w I.len⟩
    have hp := fun p1 p2 => act _ pn xe Ech p1 p2 tk' (fun cls d σ' H' h hl => hW cls d σ' H' hl h)
    exact (pss_one (ps_set (i := 1) sc__law_read.nd rfl (Or.inl rfl) (pe_tup (pa_cons pe_str (pa_cons (hp _ _) pa_nil))))).run pins s' _ H' D I ⟨rfl, h2, h3 _ fun v H' k => ⟨len2, fun p hp => k p hp⟩⟩
  · refine ⟨len1, fun o ho => ?_⟩
    refine ⟨ErR d Q, fun cls dx σ' H' hl he => ?_, ⟨_, _, rfl⟩, (Ex.new ho) _ _ hc, fun R hR => h _ (Ex.new ho) _ _ (fun _ _ _ z => z) fun v H' k => hR v H' fun p hp => ⟨_, rfl, k p hp⟩⟩
    match σ', hl with
    | [x0, x1, x2], _ =>
    rcases he with ⟨rfl, x, n, rfl, hx, k⟩ | ⟨rfl, x, s, n, rfl, hx, k⟩ | ⟨rfl, k⟩ | ⟨rfl, k⟩
    · exact ⟨true, CE.tt, fun _ a ha => ⟨_, rfl, rfl, rfl, x, _, _, rfl, hx, rfl, len2, fun p hp => ⟨_, rfl, k p hp⟩⟩, fun z => nomatch z⟩
    · exact ⟨false, CE.bt, (fun z => nomatch z), fun _ => ⟨true, CE.bb, fun _ a ha => ⟨_, rfl, rfl, rfl, x, _, _, rfl, hx, rfl, _, rfl, rfl, rfl, x, _, _, rfl, hx, rfl, len3, fun p hp => ⟨_, rfl, k p hp⟩⟩, fun z => nomatch z⟩⟩
    · exact ⟨false, CE.jt, (fun z => nomatch z), fun _ => ⟨false, CE.jb, (fun z => nomatch z), fun _ => ⟨true, CE.jj, fun _ a ha => ⟨len1, fun p hp => ⟨_, rfl, k p hp⟩⟩, fun z => nomatch z⟩⟩⟩
    · exact ⟨false, CE.rt, (fun z => nomatch z), fun _ => ⟨false, CE.rb, (fun z => nomatch z), fun _ => ⟨false, CE.rj, (fun z => nomatch z), fun _ => ⟨true, CE.rr, fun _ a ha => ⟨len1, fun p hp => ⟨_, rfl, k p hp⟩⟩, fun z => nomatch z⟩⟩⟩⟩
end
end K28
/-! # A text is read right -/
namespace K28
open PySem PySem.Spec PyProof.Rows L2 LamX
open Evl (Ex ex_l ex_t)
/-! ### what stays where tables of code objects grow -/
section
variable {K : PySem.W.Frag} {H H' : Hp}
theorem ExtN.ex (e : Ex H H') : ExtN H H' := fun b o h _ => e b o h
theorem exn_t {a : Addr} {xs : List V} (e : ExtN H H') (h : SqT K H a xs) : SqT K H' a xs := by
  rcases h with (h | ⟨o, h⟩) | h
  · exact .inl (.inl (e _ _ h (fun _ q => by cases q)))
  · exact .inl (.inr ⟨o, e _ _ h (fun _ q => by cases q)⟩)
  · exact .inr h
theorem exn_l {a : Addr} {xs : List V} (e : ExtN H H') (h : SqL K H a xs) : SqL K H' a xs := by
  rcases h with (h | ⟨o, h⟩) | h
  · exact .inl (.inl (e _ _ h (fun _ q => by cases q)))
  · exact .inl (.inr ⟨o, e _ _ h (fun _ q => by cases q)⟩)
  · exact .inr h
theorem KdAt.monoN {v : V} {k : Kd} (e : ExtN H H') (h : KdAt K H v k) : KdAt K H' v k := by
  obtain ⟨a, r, e1, h1, h2⟩ := h
  exact ⟨a, r, e1, exn_t e h1, exn_t e h2⟩
theorem KdsAt.monoN {a : Addr} {ks : List Kd} (e : ExtN H H') (h : KdsAt K H a ks) : KdsAt K H' a ks := by
  obtain ⟨xs, h1, h2⟩ := h
  exact ⟨xs, exn_t e h1, Paired.mapP h2 fun _ _ q => q.monoN e⟩
theorem SpecAt.monoN {v : V} {n : Int} {ks : List Kd} (e : ExtN H H') (h : SpecAt K H v n ks) : SpecAt K H' v n ks := by
  obtain ⟨s, pk, e1, h1, h2⟩ := h
  exact ⟨s, pk, e1, exn_t e h1, h2.monoN e⟩
theorem TabAt.monoN {d : Ad} {t : Addr} {n : Int} {ks : List Kd} (e : ExtN H H') (h : TabAt d K H t n ks) : TabAt d K H' t n ks := by
  obtain ⟨dx, a, h1, h2⟩ := h
  exact ⟨dx, a, e _ _ h1 (fun _ q => by cases q), h2.monoN e⟩
theorem tyx_monoN {v : V} {t : Value} (e : ExtN H H') (h : TyX K H v t) : TyX K H' v t := by
  cases h with
  | base b =>
    refine .base ?_
    cases b with
    | non => exact .non
    | bl x => exact .bl x
    | int i => exact .int i
    | str x => exact .str x
    | flt x => exact .flt x
    | lst h => exact .lst (e _ _ h (fun _ q => by cases q))
    | frz h => exact .frz (e _ _ h (fun _ q => by cases q))
    | tup h => exact .tup (e _ _ h (fun _ q => by cases q))
    | dK h => exact .dK (e _ _ h (fun _ q => by cases q))
    | dT h => exact .dT (e _ _ h (fun _ q => by cases q))
    | ins h h2 h3 h4 h5 h6 => exact .ins (e _ _ h (fun _ q => by cases q)) h2 h3 h4 h5 h6
  | byt b => exact .byt b
  | set h => exact .set (e _ _ h (fun _ q => by cases q))
  | kList h c => exact .kList h c
  | kTuple h c => exact .kTuple h c
  | kDict h c => exact .kDict h c
  | fTuple h => exact .fTuple (e _ _ h (fun _ q => by cases q))
  | fDict h => exact .fDict (e _ _ h (fun _ q => by cases q))
theorem NotS.monoN {v : V} (e : ExtN H H') (h : NotS K H v) : NotS K H' v := by
  obtain ⟨t, h1, h2⟩ := h
  exact ⟨t, tyx_monoN e h1, h2⟩
end
/-! ### answers that are the same -/
section
variable {K : PySem.W.Frag} {H H' : Hp}
theorem same_ints {n : Nat} {a b : Addr} {js : List Int} (h1 : SqT K H a (js.map V.int)) (h2 : SqT K H b (js.map V.int)) (hl : js.length ≤ 50000) : Same K H (n + 2) (.ref a) (.ref b) := by
  refine same_tup h1 h2 ?_ (by rw [List.length_map]; exact hl)
  clear h1 h2 hl
  induction js with
  | nil => exact .nil
  | cons j r ih => exact .cons (same_int j) ih
theorem paired_via {α : Type} {F G : V → α → Prop} {S : V → V → Prop} (h : ∀ u v r, F u r → G v r → S u v) : ∀ {xs ys : List V} {rs : List α}, Paired F xs rs → Paired G ys rs → Paired S xs ys
  | _, _, _, .nil, .nil => .nil
  | _, _, _, .cons a b, .cons c e => .cons (h _ _ _ a c) (paired_via h b e)
theorem same_step {n : Nat} {u v : V} {s : Stp} (h1 : StepAt K H u s) (h2 : StepAt K H v s) : Same K H (n + 2) u v := by
  obtain ⟨a, rfl, h1⟩ := h1
  obtain ⟨b, rfl, h2⟩ := h2
  exact same_tup h1 h2 (.cons (same_str _) (.cons (same_int _) .nil)) (by show 2 ≤ _; decide)
theorem same_out {n : Nat} {u v : V} {o : Out} (h1 : OutAt K H u o) (h2 : OutAt K H v o) : Same K H (n + 2) u v := by
  obtain ⟨a, rfl, h1⟩ := h1
  obtain ⟨b, rfl, h2⟩ := h2
  refine same_tup h1 h2 ?_ (by cases o <;> (show _ ≤ 50000) <;> simp [outV])
  cases o with
  | line m => exact .cons (same_str _) (.cons (same_int _) .nil)
  | table p m => exact .cons (same_str _) (.cons (same_str _) (.cons (same_int _) .nil))
  | journal => exact .cons (same_str _) .nil
  | run => exact .cons (same_str _) .nil
theorem same_ans {α : Type} {At At' : Hp → V → α → Prop} {n : Nat} {u v : V} {e : Except Out α} (hs : ∀ x y r, e = .ok r → At H x r → At' H y r → Same K H (n + 1) x y) (h1 : AnsAt K At H u e) (h2 : AnsAt K At' H v e) : Same K H (n + 2) u v := by
  cases e with
  | error o => exact same_out h1 h2
  | ok r =>
    obtain ⟨a, x, rfl, h1, hx⟩ := h1
    obtain ⟨b, y, rfl, h2, hy⟩ := h2
    exact same_tup h1 h2 (.cons (same_str _) (.cons (hs x y r rfl hx hy) .nil)) (by show 2 ≤ _; decide)
theorem same_kd {n : Nat} {u v : V} {k : Kd} (hl : k.2.length ≤ 50000) (h1 : KdAt K H u k) (h2 : KdAt K H v k) : Same K H (n + 3) u v := by
  obtain ⟨a, r, rfl, h1, h1'⟩ := h1
  obtain ⟨b, s, rfl, h2, h2'⟩ := h2
  exact same_tup h1 h2 (.cons (same_int _) (.cons (same_ints h1' h2' hl) .nil)) (by show 2 ≤ _; decide)
end
/-! ### a def whose code object is known -/
structure DnC (K : PySem.W.Frag) (mg : Str → Option Value) (x : Str) (st : Stmt) (ps : List Str) (cdv : Value) : Prop where
  ex : ∃ (f : Addr) (oc : Value) (od : Option Addr) (kV doc pm : Value) (an : Option Addr) (ct : Value) (osl : Array (Option Value)),
    K.lookup f = some ⟨oc, od, .func (PySem.W.fnOf x x (defArgs st) (defBody st) (defScope st) .none kV doc pm an cdv ct), osl⟩ ∧ PySem.W.codeIn K cdv x = true ∧ PySem.W.keepIn K (.ref f) = true ∧ mg x = some (.ref f) ∧
      Binds K (PySem.W.fnOf x x (defArgs st) (defBody st) (defScope st) .none kV doc pm an cdv ct) ps []
theorem pe_read {X : Cx} {d : Ad} {c P : Addr} {cdv : Value} {params : Arguments} {body : Expr} {scope : Scope} {t : XK → TE} {p lpos pos : Pos} (R : DnC X.K X.mg "_law_read" s__law_read p__law_read cdv) (C : Cl X.K X.mg d) (CE : ClE X.K d) (TB : TabB X.base X.mg c P) (hcode : X.env.code = .ref c)
    (hg : Gl X "_law_read") (hr : Room 10 X.A) (L : LamS X.env.scope scope) (hdef : defaultsOf params X.env = ([], [])) (hbind : ∀ (q : Str) (cl : List (Str × Addr)) (pm cv ctv : Value), bindArgs (PySem.W.kla_fn "<lambda>" q params body scope cl pm cv ctv) ⟨[], []⟩ = pure [])
    (hbody : ∀ (A : Around) (outer : List Env) (s : Shared) (H : Hp) (E : XK) (f c' : Addr), Room 8 (A.deeper (lamEnv X scope s.heap.objs.size f c')) → PE (lamCx X A outer s H E scope f c') body (t E)) :
    PE X (.Call (.Name "_law_read" p) [.Lambda params body scope lpos] [] pos) (tLam [(P, X.env.qual ++ "<lambda>")] (TTr d) t) := by
  obtain ⟨g, oc, od, kV, doc, pm, an, ct, osl, lk, hcg, hk, hm, hb⟩ := R.ex
  exact pe_lamcall hg hm hk lk hcg hb sc__law_read rfl (.inl rfl) (ok__law_read C CE) TB hcode (List.mem_singleton.mpr rfl) (fun p hp _ => by rw [List.mem_singleton.mp hp]) hr L hdef hbind hbody
end K28
/-! # A text is read right, the walk -/
namespace K28
open PySem PySem.Spec PyProof.Rows L2 LamX
open Evl (Ex ex_l ex_t)
theorem readJ_ok {m : Nat} {x : Str} {js : List Int} (h : readJ m x = .ok js) : js.length ≤ 400 := by
  unfold readJ at h
  cases hn : numsOf (wordsOf x) with
  | none => rw [hn] at h; cases h
  | some ns =>
    rw [hn] at h
    have h : (if isJournal m ns = true then Except.ok ns else Except.error Out.journal : Except Out (List Int)) = .ok js := h
    by_cases c : isJournal m ns = true
    · rw [if_pos c] at h; cases h; exact (journal_bd c).1
    · rw [if_neg c] at h; cases h
theorem readR_ok {n : Int} {ks : List Kd} {x : Str} {ss : List Stp} (h : readR n ks x = .ok ss) : ss.length ≤ 400 := by
  unfold readR at h
  cases hn : stepsOf (wordsOf x) with
  | none => rw [hn] at h; cases h
  | some ns =>
    rw [hn] at h
    have h : (if isRun n ks ns = true then Except.ok ns else Except.error Out.run : Except Out (List Stp)) = .ok ss := h
    by_cases c : isRun n ks ns = true
    · rw [if_pos c] at h
      cases h
      unfold isRun at c
      rw [Bool.and_eq_true, decide_eq_true_iff] at c
      exact c.1
    · rw [if_neg c] at h; cases h
theorem readT_ok {x : Str} {m : Int} {ks : List Kd} (h : readT x = .ok (m, ks)) : tableOut m ks = none := by
  unfold readT at h
  generalize goLines 0 none [] (Txt.split x "\n").dropLast = g at h
  cases g with
  | error i => cases h
  | ok r =>
    obtain ⟨n, kk⟩ := r
    have h : (if (Txt.split x "\n").getLast? ≠ some ("" : Str) then .error (.line (Txt.split x "\n").length) else tblEnd (Txt.split x "\n").length n kk : Except Out (Int × List Kd)) = .ok (m, ks) := h
    by_cases c : (Txt.split x "\n").getLast? ≠ some ("" : Str)
    · rw [if_pos c] at h; cases h
    · rw [if_neg c] at h
      cases n with
      | none => cases h
      | some n =>
        have h : tblOf n kk = .ok (m, ks) := h
        unfold tblOf at h
        cases ht : tableOut n kk with
        | some o => rw [ht] at h; cases h
        | none => rw [ht] at h; cases h; exact ht
def outN : Out → Str
  | .line _ => "line"
  | .table _ _ => "table"
  | .journal => "journal"
  | .run => "run"
theorem outN_ne : ∀ o : Out, ¬ outN o = "told"
  | .line _ => (by decide +kernel : ¬ Str.ofString "line" = Str.ofString "told")
  | .table _ _ => (by decide +kernel : ¬ Str.ofString "table" = Str.ofString "told")
  | .journal => (by decide +kernel : ¬ Str.ofString "journal" = Str.ofString "told")
  | .run => (by decide +kernel : ¬ Str.ofString "run" = Str.ofString "told")
theorem outV_at (o : Out) : atI (outV o) 0 = some (.str (outN o)) := by cases o <;> rfl
section
variable {K : PySem.W.Frag} {α : Type} {res : Str → Except Out α} {At : Hp → V → α → Prop} {d : Ad} {e : Except Out α} {v : V} {H0 : Hp}
theorem read_use {Ech : XK} {R Q1 : VK} (hE : ∀ c x H', ErR d Q1 c x H' → Ech c x H') (hR : ∀ v H', (∀ p, H' p = none → Q1 (.ref p) (upd H' p (.tup [.str "told", v]))) → R v H') (mono : ∀ {H H' : Hp} {y : V} {r : α}, Ex H H' → At H y r → At H' y r)
    (hv : (∃ x : Str, v = .str x ∧ x.length ≤ 7000 ∧ e = res x) ∨ (NotS K H0 v ∧ e = .error (.line 0))) (k : ∀ H' y, Ex H0 H' → AnsAt K At H' y e → Q1 y H') : spRd d K res At R Ech H0 v := by
  have rz : ∀ o, e = .error o → raised d o Ech H0 := by
    rintro o rfl
    have kk : ∀ (H' : Hp) (p : Addr), Ex H0 H' → H' p = none → Q1 (.ref p) (upd H' p (.tup (outV o))) := fun H' p e' hp => k _ _ (e'.trans (Ex.new hp)) ⟨p, rfl, SqT.of upd_same⟩
    cases o with
    | line n => exact fun H' x e' hx => hE _ _ _ (.inl ⟨rfl, x, n, rfl, hx, fun p hp => kk H' p e' hp⟩)
    | table s n => exact fun H' x e' hx => hE _ _ _ (.inr (.inl ⟨rfl, x, s, n, rfl, hx, fun p hp => kk H' p e' hp⟩))
    | journal => exact fun H' e' => hE _ _ _ (.inr (.inr (.inl ⟨rfl, fun p hp => kk H' p e' hp⟩)))
    | run => exact fun H' e' => hE _ _ _ (.inr (.inr (.inr ⟨rfl, fun p hp => kk H' p e' hp⟩)))
  rcases hv with ⟨x, rfl, hl, rfl⟩ | ⟨hn, he⟩
  · refine .inl ⟨x, rfl, by omega, rz, fun r hr H' y e' hy => hR y H' fun p hp => k _ _ (e'.trans (Ex.new hp)) ?_⟩
    rw [hr]
    exact ⟨p, y, rfl, SqT.of upd_same, mono (Ex.new hp) hy⟩
  · exact .inr ⟨hn, rz _ he⟩
theorem due_use {Q1 : VK} (hv : (∃ x : Str, v = .str x ∧ x.length ≤ 7000 ∧ e = res x) ∨ (NotS K H0 v ∧ e = .error (.line 0))) (k : ∀ H' y, Ex H0 H' → AnsAt K At H' y e → Q1 y H') : spDue K res At Q1 H0 v := by
  rcases hv with ⟨x, rfl, hl, rfl⟩ | ⟨hn, rfl⟩
  · exact .inl ⟨x, rfl, hl, k⟩
  · exact .inr ⟨hn, k⟩
theorem hv_monoN {H : Hp} (e' : ExtN H H0) (hv : (∃ x : Str, v = .str x ∧ x.length ≤ 7000 ∧ e = res x) ∨ (NotS K H v ∧ e = .error (.line 0))) : (∃ x : Str, v = .str x ∧ x.length ≤ 7000 ∧ e = res x) ∨ (NotS K H0 v ∧ e = .error (.line 0)) := by
  rcases hv with h | ⟨hn, h⟩
  · exact .inl h
  · exact .inr ⟨hn.monoN e', h⟩
theorem AnsAt.mono {H : Hp} {y : V} (mono : ∀ {H H' : Hp} {y : V} {r : α}, Ex H H' → At H y r → At H' y r) (e' : Ex H H0) (h : AnsAt K At H y e) : AnsAt K At H0 y e := by
  cases e with
  | error o => obtain ⟨a, rfl, h⟩ := h; exact ⟨a, rfl, ex_t e' h⟩
  | ok r => obtain ⟨a, u, rfl, h, hu⟩ := h; exact ⟨a, u, rfl, ex_t e' h, mono e' hu⟩
theorem IntsA.mono {H H' : Hp} {y : V} {r : List Int} (e : Ex H H') (h : IntsA K H y r) : IntsA K H' y r := by
  obtain ⟨a, rfl, h⟩ := h; exact ⟨a, rfl, ex_t e h⟩
theorem StepsA.mono {H H' : Hp} {y : V} {r : List Stp} (e : Ex H H') (h : StepsA K H y r) : StepsA K H' y r := by
  obtain ⟨a, xs, rfl, h, h2⟩ := h; exact ⟨a, xs, rfl, ex_t e h, Paired.mapP h2 fun _ _ q => q.mono e⟩
theorem TabA.mono {H H' : Hp} {y : V} {r : Int × List Kd} (e : Ex H H') (h : TabA d K H y r) : TabA d K H' y r := by
  obtain ⟨t, rfl, h⟩ := h; exact ⟨t, rfl, h.mono e⟩
end
section
variable {P : Program} {w : World} {K : PySem.W.Frag} {mg : Str → Option Value} {base : Heap} {d : Ad}
abbrev s__law_text_right : Stmt := top 79
abbrev N__law_text_right : List Str := ["_law_spec_here", "_law_table", "_law_which", "_law_text", "_law_told", "_law_due"]
abbrev p__law_text_right : List Str := ["_law_spec_here", "_law_table", "_law_which", "_law_text"]
theorem sc__law_text_right : FnScope N__law_text_right p__law_text_right (defScope s__law_text_right) := ⟨rfl, rfl, rfl, by decide +kernel, rfl, by decide +kernel, by decide +kernel⟩
abbrev tabs (Pt : Addr) : List (Addr × Str) := [(Pt, (envOfC "_law_text_right" (defScope s__law_text_right) 0 0 .none).qual ++ "<lambda>")]
def spTR (d : Ad) (K : PySem.W.Frag) (Pt : Addr) : Sp := fun vs H Q _ => ∃ (s v : V) (t : Addr) (wh n : Int) (ks : List Kd), vs = [s, .ref t, .int wh, v] ∧ SpecAt K H s n ks ∧ TabAt d K H t n ks ∧ tableOut n ks = none ∧ Tabs (tabs Pt) H ∧
  ((∃ x : Str, v = .str x ∧ x.length ≤ 7000) ∨ NotS K H v) ∧ ∀ H', ExtN H H' → Tabs (tabs Pt) H' → Q (.bl true) H'
theorem ok__law_text_right {c Pt : Addr} (D : DnC K mg "_law_text_right" s__law_text_right p__law_text_right (.ref c)) (TB : TabB base mg c Pt) (T : Txt K mg) (C : Cl K mg d) (CE : ClE K d) {cdv : Value} (R : DnC K mg "_law_read" s__law_read p__law_read cdv)
    (c_read_journal : CalX P w K mg base 5 "read_journal" (spReadJ d K)) (c_read_run : CalX P w K mg base 8 "read_run" (spReadR d K)) (c_read_table : CalX P w K mg base 7 "read_table" (spReadT d K))
    (c__law_is : C8.Cal P w K mg base 6 "_law_is" (spIs K 5) []) (c__law_journal_due : C8.Cal P w K mg base 3 "_law_journal_due" (spJDue K) []) (c__law_run_text_due : C8.Cal P w K mg base 3 "_law_run_text_due" (spRDue K) []) (c__law_table_due : C8.Cal P w K mg base 3 "_law_table_due" (spTDue K) []) :
    C8.Cal P w K mg base 11 "_law_text_right" (spTR d K Pt) [] := by
  obtain ⟨f, oc, od, kV, doc, pm, an, ct, osl, lk, hcd, hk, hm, hb⟩ := D.ex
  refine ⟨⟨f, _, _, [], fn_of lk hcd sc__law_text_right (fun vs H Q E h => ?_) (fun A outer s H vs Q E hr h => ?_), hm, hk, hb, .nil⟩⟩
  · obtain ⟨s, v, t, wh, n, ks, rfl, _⟩ := h
    rfl
  obtain ⟨sv, v, t, wh, n, ks, rfl, hSp, hTab, hok, hTs, hv, k⟩ := h
  suffices hh : ∃ t', PSs (cxOf C8.CX0 P w K mg base N__law_text_right "_law_text_right" (defScope s__law_text_right) f (.ref c) A outer s H E).nox (defBody s__law_text_right) t' ∧ t' { nx := fun _ H' => Q .non H', rt := Q } (L2.start N__law_text_right [sv, .ref t, .int wh, v]) H by
    obtain ⟨t', h1, h2⟩ := hh
    exact ⟨t', h1.nox, h2⟩
  refine ⟨_, (pss_cons (ps_if (pt_cmpR op_eq (pv 2) pe_int (nomark _)) (pss_one (ps_ret (C8.pe_c c__law_is hr (by decide) (by rfl) (pa_cons (pe_read R C CE TB rfl (by rfl) hr (lamS_by (sc := defScope s__law_text_right) (by decide +kernel)) rfl (fun _ _ _ _ _ => rfl) (fun A outer s H E f c' hr' => pe_cX c_read_journal hr' (by decide) (by rfl) (takes_of rfl rfl rfl rfl) (pa_cons (pv 1) (pa_cons (pv 3) pa_nil)))) (pa_cons (C8.pe_c c__law_journal_due hr (by decide) (by rfl) (pa_cons (pv 0) (pa_cons (pv 3) pa_nil))) pa_nil))))) pss_nil)
  (pss_cons (ps_if (pt_cmpR op_eq (pv 2) pe_int (nomark _)) (pss_one (ps_ret (C8.pe_c c__law_is hr (by decide) (by rfl) (pa_cons (pe_read R C CE TB rfl (by rfl) hr (lamS_by (sc := defScope s__law_text_right) (by decide +kernel)) rfl (fun _ _ _ _ _ => rfl) (fun A outer s H E f c' hr' => pe_cX c_read_run hr' (by decide) (by rfl) (takes_of rfl rfl rfl rfl) (pa_cons (pv 1) (pa_cons (pv 3) pa_nil)))) (pa_cons (C8.pe_c c__law_run_text_due hr (by decide) (by rfl) (pa_cons (pv 0) (pa_cons (pv 3) pa_nil))) pa_nil))))) pss_nil)
  (pss_cons (ps_par (i := 4) (j := 5) (by rfl) sc__law_text_right.nd rfl rfl (by decide) rfl rfl (pa_cons (pe_read R C CE TB rfl (by rfl) hr (lamS_by (sc := defScope s__law_text_right) (by decide +kernel)) rfl (fun _ _ _ _ _ => rfl) (fun A outer s H E f c' hr' => pe_cX c_read_table hr' (by decide) (by rfl) (takes_of rfl rfl rfl rfl) (pa_cons (pv 3) pa_nil))) (pa_cons (C8.pe_c c__law_table_due hr (by decide) (by rfl) (pa_cons (pv 3) pa_nil)) pa_nil)) (by rfl))
  (pss_cons (ps_if (PW.pt (pw_and (pt_cmpR op_eq (pe_ix ix_tup (pv 5) pe_int (fun _ _ => rfl)) pe_str (nomark _)) (pw_and (pt_cmpR op_eq (pe_ix ix_tup (pv 4) pe_int (fun _ _ => rfl)) pe_str (nomark _)) (pw_and1 (pt_val (pe_callB call_isi (by rfl) T.isinstance (by decide +kernel) (pa_cons (pe_ix ix_tup (pv 4) pe_int (fun _ _ => rfl)) (pa_cons (pe_glob (v := .ref d.tb) (by rfl) C.m_Table rfl) pa_nil)))))))) (pss_one (ps_ret (C8.pe_c c__law_is hr (by decide) (by rfl) (pa_cons (pe_tup (pa_cons (pe_fld (pe_ix ix_tup (pv 4) pe_int (fun _ _ => rfl)) rfl) (pa_cons (pe_fld (pe_ix ix_tup (pv 4) pe_int (fun _ _ => rfl)) rfl) pa_nil))) (pa_cons (pe_ix ix_tup (pv 5) pe_int (fun _ _ => rfl)) pa_nil))))) pss_nil)
  (pss_one (ps_ret (pe_and (pe_cmpR op_ne (pe_ix ix_tup (pv 4) pe_int (fun _ _ => rfl)) pe_str (nomark _)) (pe_one (C8.pe_c c__law_is hr (by decide) (by rfl) (pa_cons (pv 4) (pa_cons (pv 5) pa_nil))))))))))), ?_⟩
  have pick : ∀ {α : Type} (res : Str → Except Out α), ∃ e : Except Out α, (∃ x : Str, v = .str x ∧ x.length ≤ 7000 ∧ e = res x) ∨ (NotS K H v ∧ e = .error (.line 0)) := fun res => by
    rcases hv with ⟨x, rfl, hl⟩ | hn
    · exact ⟨_, .inl ⟨x, rfl, hl, rfl⟩⟩
    · exact ⟨_, .inr ⟨hn, rfl⟩⟩
  refine ⟨_, rfl, rfl, _, rfl, ite2 (fun _ => ?_) (fun _ => ⟨_, rfl, rfl, _, rfl, ite2 (fun _ => ?_) (fun _ => ?_)⟩)⟩
  · obtain ⟨e, hv⟩ := pick (readJ ks.length)
    refine ⟨hTs, fun H1 e1 hT1 H0 e0 Ech R hE hR => ?_⟩
    have e10 := e1.trans (K28.ExtN.ex e0)
    refine ⟨_, rfl, _, rfl, t, n, ks, v, rfl, hTab.monoN e10, read_use hE hR IntsA.mono (hv_monoN e10 hv) fun H2 y1 e2 h1 => ?_⟩
    have e20 := e10.trans (K28.ExtN.ex e2)
    refine ⟨_, rfl, _, rfl, sv, v, n, ks, rfl, hSp.monoN e20, due_use (hv_monoN e20 hv) fun H3 y2 e3 h2 => ?_⟩
    refine ⟨y1, y2, rfl, same_ans (fun x y r he hx hy => ?_) (AnsAt.mono (At := IntsA K) IntsA.mono e3 h1) h2, fun H4 e4 => k H4 ((e20.trans (K28.ExtN.ex e3)).trans (K28.ExtN.ex e4)) (hT1.ext fun b o h => e4 b o (e3 b o (e2 b o (e0 b o h))))⟩
    obtain ⟨a, rfl, hx⟩ := hx
    obtain ⟨b, rfl, hy⟩ := hy
    refine same_ints hx hy ?_
    rcases hv with ⟨x, _, _, ex⟩ | ⟨_, ex⟩
    · exact Nat.le_trans (readJ_ok (ex.symm.trans he)) (by decide)
    · rw [ex] at he; cases he
  · obtain ⟨e, hv⟩ := pick (readR n ks)
    refine ⟨hTs, fun H1 e1 hT1 H0 e0 Ech R hE hR => ?_⟩
    have e10 := e1.trans (K28.ExtN.ex e0)
    refine ⟨_, rfl, _, rfl, t, n, ks, v, rfl, hTab.monoN e10, hok, read_use hE hR StepsA.mono (hv_monoN e10 hv) fun H2 y1 e2 h1 => ?_⟩
    have e20 := e10.trans (K28.ExtN.ex e2)
    refine ⟨_, rfl, _, rfl, sv, v, n, ks, rfl, hSp.monoN e20, hok, due_use (hv_monoN e20 hv) fun H3 y2 e3 h2 => ?_⟩
    refine ⟨y1, y2, rfl, same_ans (fun x y r he hx hy => ?_) (AnsAt.mono (At := StepsA K) StepsA.mono e3 h1) h2, fun H4 e4 => k H4 ((e20.trans (K28.ExtN.ex e3)).trans (K28.ExtN.ex e4)) (hT1.ext fun b o h => e4 b o (e3 b o (e2 b o (e0 b o h))))⟩
    obtain ⟨a, xs, rfl, hx, px⟩ := hx
    obtain ⟨b, ys, rfl, hy, py⟩ := hy
    refine same_tup hx hy (paired_via (F := StepAt K H3) (G := StepAt K H3) (S := Same K H3 3) (fun u v r h h2 => same_step (n := 1) h h2) px py) ?_
    rcases hv with ⟨x, _, _, ex⟩ | ⟨_, ex⟩
    · rw [pair_len px]; exact Nat.le_trans (readR_ok (ex.symm.trans he)) (by decide)
    · rw [ex] at he; cases he
  · obtain ⟨e, hv⟩ := pick readT
    refine ⟨hTs, fun H1 e1 hT1 H0 e0 Ech R hE hR => ?_⟩
    have e10 := e1.trans (K28.ExtN.ex e0)
    refine ⟨_, rfl, v, rfl, read_use hE hR TabA.mono (hv_monoN e10 hv) fun H2 y1 e2 h1 => ?_⟩
    have e20 := e10.trans (K28.ExtN.ex e2)
    refine ⟨_, rfl, v, rfl, due_use (hv_monoN e20 hv) fun H3 y2 e3 h2 => ?_⟩
    replace h1 := AnsAt.mono (At := TabA d K) TabA.mono e3 h1
    have k3 : ∀ H', Ex H3 H' → Q (.bl true) H' := fun H4 e4 => k H4 ((e20.trans (K28.ExtN.ex e3)).trans (K28.ExtN.ex e4)) (hT1.ext fun b o h => e4 b o (e3 b o (e2 b o (e0 b o h))))
    refine ⟨_, _, rfl, ?_⟩
    cases e with
    | error o =>
      obtain ⟨a, rfl, h1⟩ := h1
      obtain ⟨b, rfl, h2⟩ := h2
      refine ⟨_, rfl, b, _, 0, _, rfl, rfl, h2, outV_at o, rfl, _, rfl, ?_⟩
      rw [str_eq, decide_eq_false (outN_ne o)]
      refine iteF (iteF ?_)
      refine ⟨_, rfl, a, _, 0, _, rfl, rfl, h1, outV_at o, rfl, ?_⟩
      rw [str_eq, decide_eq_false (outN_ne o)]
      refine ⟨_, rfl, iteT ⟨_, rfl, _, rfl, _, _, rfl, same_out ⟨a, rfl, h1⟩ ⟨b, rfl, h2⟩, k3⟩⟩
    | ok r =>
      obtain ⟨a, u1, rfl, h1, t1, rfl, tx, pk, ht, hk1⟩ := h1
      obtain ⟨b, u2, rfl, h2, sp, pk2, rfl, hs2, hk2⟩ := h2
      refine ⟨_, rfl, b, _, 0, _, rfl, rfl, h2, rfl, rfl, _, rfl, iteT ?_⟩
      refine ⟨_, rfl, a, _, 0, _, rfl, rfl, h1, rfl, rfl, _, rfl, iteT ?_⟩
      refine ⟨_, rfl, a, _, 1, .ref t1, rfl, rfl, h1, rfl, _, _, _, _, _, rfl, .own d.tb, .base (.ins ht C.c_Table.cl C.c_Table.ha C.c_Table.hn C.c_Table.htk C.c_Table.hm), C.c_Table.me, _, rfl, iteT ?_⟩
      refine ⟨_, rfl, a, _, 1, .ref t1, rfl, rfl, h1, rfl, t1, d.tb, tx, _, _, rfl, ht, C.c_Table.cl, C.n_cells, rfl, ?_⟩
      refine ⟨_, rfl, a, _, 1, .ref t1, rfl, rfl, h1, rfl, t1, d.tb, tx, _, _, rfl, ht, C.c_Table.cl, C.n_kinds, rfl, ?_⟩
      refine ⟨len2, fun q hq => ?_⟩
      have e4 : Ex H3 (upd H3 q (.tup [V.int r.1, V.ref pk])) := Ex.new hq
      refine ⟨_, rfl, b, _, 1, .ref sp, rfl, rfl, ex_t e4 h2, rfl, _, _, rfl, ?_, fun H' e' => k3 _ (e4.trans e')⟩
      have hok2 : tableOut r.1 r.2 = none := by
        rcases hv with ⟨x, _, _, ex⟩ | ⟨_, ex⟩
        · exact readT_ok ex.symm
        · cases ex
      obtain ⟨_, hkl, hkd⟩ := table_ok hok2
      obtain ⟨xs, hx, px⟩ := hk1
      obtain ⟨ys, hy, py⟩ := hk2
      refine same_tup (n := 4) (SqT.of upd_same) (ex_t e4 hs2) (.cons (same_int _) (.cons ?_ .nil)) (by show 2 ≤ _; decide)
      refine same_tup (n := 3) (ex_t e4 hx) (ex_t e4 hy) ?_ (by rw [pair_len px]; omega)
      have go : ∀ {xs ys : List V} {rs : List Kd}, (∀ k ∈ rs, k.2.length ≤ 50000) → Paired (KdAt K H3) xs rs → Paired (KdAt K H3) ys rs → Paired (Same K (upd H3 q (.tup [V.int r.1, V.ref pk])) 3) xs ys := by
        intro xs ys rs hb p1 p2
        induction p1 generalizing ys with
        | nil => cases p2; exact .nil
        | cons a b ih =>
          cases p2 with
          | cons c f => exact .cons (same_kd (n := 0) (hb _ List.mem_cons_self) (a.mono e4) (c.mono e4)) (ih (fun k hk => hb k (List.mem_cons_of_mem _ hk)) f)
      exact go (fun k hk => by have := (kind_bd (hkd k hk)).2.2; omega) px py
end
end K28
/-! # The law -/
namespace K28
open PySem PySem.Spec PyProof.Rows L2 LamX
open Evl (Ex ex_l ex_t)
section
variable {K : PySem.W.Frag} {H H' : Hp} {p wl t Pt : Addr} {sv : V} {n : Int} {ks : List Kd} {ws : List Str} {d : Ad}
theorem TabAt.monoL {d : Ad} {t : Addr} (e : ExL H H') (h : TabAt d K H t n ks) : TabAt d K H' t n ks := by
  obtain ⟨dx, a, h1, xs, h2, h3⟩ := h
  exact ⟨dx, a, e _ _ h1 (fun _ q => by cases q), xs, exl_t e h2, Paired.mapP h3 fun _ _ q => q.monoL e⟩
theorem tabs_exl {T : List (Addr × Str)} (e : ExL H H') (h : Tabs T H) : Tabs T H' := fun q hq => by
  obtain ⟨ps, h1, h2, h3⟩ := h q hq
  refine ⟨ps, e _ _ h1 (fun _ z => by cases z), h2, fun pos cv hc => ?_⟩
  obtain ⟨c, e1, e2⟩ := h3 pos cv hc
  exact ⟨c, e1, e _ _ e2 (fun _ z => by unfold CodeO at z; cases z)⟩
theorem tabs_ex {T : List (Addr × Str)} (e : Ex H H') (h : Tabs T H) : Tabs T H' := h.ext e
theorem tlst_use {ta : TA} {σ : L2.St} {Q : VK} {vs : List V} (hta : ∀ R : List V → Hp → Prop, R vs H → ta σ H R) (hl : vs.length ≤ sizeLine) (k : ∀ q H', H q = none → Ex H H' → H' q = some (.lst vs) → Q (.ref q) H') : tLst ta σ H Q := hta _ ⟨hl, fun q hq => k q _ hq (Ex.new hq) upd_same⟩
theorem cat_use {a b : Addr} {xs zs : List V} {Q : VK} (h1 : H a = some (.lst xs)) (h2 : H b = some (.lst zs)) (hl : xs.length + zs.length ≤ sizeLine) (k : ∀ q H', Ex H H' → H' q = some (.lst (xs ++ zs)) → Q (.ref q) H') : rCat (.ref a) (.ref b) H Q :=
  ⟨a, b, xs, zs, rfl, rfl, h1, h2, hl, fun q hq => k q _ (Ex.new hq) upd_same⟩
theorem tyx_exb {v : V} {ty : Value} (e : ExB p H H') (h1 : ∃ xs, H p = some (.lst xs)) (h2 : ∃ xs, H' p = some (.lst xs)) (h : TyX K H v ty) : TyX K H' v ty := by
  obtain ⟨xs1, h1⟩ := h1
  obtain ⟨xs2, h2⟩ := h2
  have E : ExL H H' := exb_exl h1 e
  cases h with
  | base b =>
    refine .base ?_
    cases b with
    | non => exact .non
    | bl x => exact .bl x
    | int i => exact .int i
    | str x => exact .str x
    | flt x => exact .flt x
    | @lst a xs h =>
      by_cases c : a = p
      · subst c; exact .lst h2
      · exact .lst (e _ _ c h)
    | frz h => exact .frz (E _ _ h (fun _ q => by cases q))
    | tup h => exact .tup (E _ _ h (fun _ q => by cases q))
    | dK h => exact .dK (E _ _ h (fun _ q => by cases q))
    | dT h => exact .dT (E _ _ h (fun _ q => by cases q))
    | ins h h2 h3 h4 h5 h6 => exact .ins (E _ _ h (fun _ q => by cases q)) h2 h3 h4 h5 h6
  | byt b => exact .byt b
  | set h => exact .set (E _ _ h (fun _ q => by cases q))
  | kList h c => exact .kList h c
  | kTuple h c => exact .kTuple h c
  | kDict h c => exact .kDict h c
  | fTuple h => exact .fTuple (E _ _ h (fun _ q => by cases q))
  | fDict h => exact .fDict (E _ _ h (fun _ q => by cases q))
/-- what the law keeps -/
structure LawI (d : Ad) (K : PySem.W.Frag) (H : Hp) (p : Addr) (sv : V) (t wl Pt : Addr) (n : Int) (ks : List Kd) (ws : List Str) : Prop where
  pool : PoolAt H p (fun _ => False)
  spec : SpecAt K H sv n ks
  tab : TabAt d K H t n ks
  tabs : Tabs (tabs Pt) H
  wds : H wl = some (.lst (ws.map V.str))
theorem LawI.ex (e : Ex H H') (h : LawI d K H p sv t wl Pt n ks ws) : LawI d K H' p sv t wl Pt n ks ws := ⟨h.pool.keep e, h.spec.mono e, h.tab.mono e, h.tabs.ext e, e _ _ h.wds⟩
theorem LawI.ne (h : LawI d K H p sv t wl Pt n ks ws) : wl ≠ p := pool_ne_strs h.pool h.wds
theorem LawI.exb (e : ExB p H H') (hP : PoolAt H' p (fun _ => False)) (h : LawI d K H p sv t wl Pt n ks ws) : LawI d K H' p sv t wl Pt n ks ws :=
  ⟨hP, h.spec.monoL (h.pool.exl e), h.tab.monoL (h.pool.exl e), tabs_exl (h.pool.exl e) h.tabs, e _ _ h.ne h.wds⟩
theorem LawI.exn (e : ExtN H H') (hT : Tabs (K28.tabs Pt) H') (h : LawI d K H p sv t wl Pt n ks ws) : LawI d K H' p sv t wl Pt n ks ws := by
  refine ⟨?_, h.spec.monoN e, h.tab.monoN e, hT, e _ _ h.wds (fun _ z => by cases z)⟩
  obtain ⟨g, s, x, y, gs, ss, h1, h2, h3, n1, n2, _⟩ := h.pool
  exact ⟨g, s, x, y, gs, ss, e _ _ h1 (fun _ z => by cases z), e _ _ h2 (fun _ z => by cases z), e _ _ h3 (fun _ z => by cases z), n1, n2, fun a ha => ha.elim⟩
end
def nines (n : Int) : Str := ⟨(List.replicate n.toNat ("9" : Str).cps).foldl (· ++ ·) #[]⟩
def wA : List Str := ["", "0", "1", "00", "01", "7", "8", "-", "-1", "cells", "kind", "do", "lay", "do 0", "lay 0", "do 99", "x"]
def wB : List Str := ["kind 0", "kind 0 0", "kind 7 1 2", "kind 1 1 0", "cells 9", "cells 0", nines 9, nines 10]
def wC : List Str := ["1 1", "0,0"]
def lawWords : List Str := (wA ++ wB) ++ wC
theorem lawWords_len : lawWords.length = 27 := by decide
theorem lawWords_all : (lawWords.all fun z => decide (z.length ≤ 10)) = true := by decide +kernel
theorem lawWords_le (z : Str) (h : z ∈ lawWords) : z.length ≤ 10 := of_decide_eq_true (List.all_eq_true.mp lawWords_all z h)
section
variable {P : Program} {w : World} {K : PySem.W.Frag} {mg : Str → Option Value} {base : Heap} {d : Ad}
def spLaw (K : PySem.W.Frag) (Pt : Addr) : Sp := fun vs H Q _ => ∃ (a : Addr) (is : List Int), vs = [.ref a] ∧ SqL K H a (is.map V.int) ∧ H Pt = some (.tbl #[]) ∧ ∀ H', Q (.bl true) H'
abbrev s_law : Stmt := top 80
abbrev N_law : List Str := ["_law_script", "_law_pool_here", "_law_spec_here", "_law_table", "_law_words", "_law_turn", "_law_run", "_law_journal_here", "_law_texts", "_law_at", "_law_text", "_law_change", "_law_number"]
abbrev p_law : List Str := ["_law_script"]
theorem sc_law : FnScope N_law p_law (defScope s_law) := ⟨rfl, rfl, rfl, by decide +kernel, rfl, by decide +kernel, by decide +kernel⟩
theorem ok_law {Pt f : Addr} {fd : FuncData} (F : Fun K "law" "law" s_law f fd) (T : Txt K mg) (C : Cl K mg d) (hst : PySem.W.kitOne K (.ref d.tb) (.type "str") = some false)
    (c__law_pool : C8.Cal P w K mg base 1 "_law_pool" (spPool K) []) (c__law_spec : C8.Cal P w K mg base 3 "_law_spec" (spSpec K) []) (c__law_made : C8.Cal P w K mg base 7 "_law_made" (spMade d K) []) (c__law_drawn_run : C8.Cal P w K mg base 2 "_law_drawn_run" (spDrawnRun K) [])
    (c__law_draw : C8.Cal P w K mg base 1 "_law_draw" spDraw []) (c__law_pick : C8.Cal P w K mg base 2 "_law_pick" (spPick K) []) (c__law_journal : C8.Cal P w K mg base 2 "_law_journal" (spLJ K) []) (c__law_joined : C8.Cal P w K mg base 1 "_law_joined" (spJoined K) [])
    (c__law_table_text : C8.Cal P w K mg base 2 "_law_table_text" (spTabText K) []) (c__law_run_text : C8.Cal P w K mg base 2 "_law_run_text" (spRunText K) []) (c__law_bent_text : C8.Cal P w K mg base 3 "_law_bent_text" (spBent K) []) (c__law_deep : C8.Cal P w K mg base 1 "_law_deep" (spDeep K) [])
    (c__law_text_right : C8.Cal P w K mg base 11 "_law_text_right" (spTR d K Pt) []) : FnOk P w K mg base L2.CX0 12 f fd p_law (spLaw K Pt) := by
  refine F.ok sc_law (fun vs H Q E h => ?_) (fun cdv A outer s H vs Q E hr h => ?_)
  · obtain ⟨a, is, rfl, _⟩ := h
    rfl
  obtain ⟨a, is, rfl, hA, hPt, k⟩ := h
  refine ⟨_, (pss_cons (ps_set (i := 1) sc_law.nd rfl (Or.inl rfl) (C8.pe_c c__law_pool hr (by decide) (by rfl) (pa_cons (pv 0) pa_nil)))
  (pss_cons (ps_set (i := 2) sc_law.nd rfl (Or.inl rfl) (C8.pe_c c__law_spec hr (by decide) (by rfl) (pa_cons (pv 1) (pa_cons pe_int pa_nil))))
  (pss_cons (ps_set (i := 3) sc_law.nd rfl (Or.inl rfl) (C8.pe_c c__law_made hr (by decide) (by rfl) (pa_cons (pv 2) pa_nil)))
  (pss_cons (ps_set (i := 4) sc_law.nd rfl (Or.inl rfl) (pe_lst (pa_cons pe_str (pa_cons pe_str (pa_cons pe_str (pa_cons pe_str (pa_cons pe_str (pa_cons pe_str (pa_cons pe_str (pa_cons pe_str (pa_cons pe_str (pa_cons pe_str (pa_cons pe_str (pa_cons pe_str (pa_cons pe_str (pa_cons pe_str (pa_cons pe_str (pa_cons pe_str (pa_cons pe_str pa_nil)))))))))))))))))))
  (pss_cons (ps_set (i := 4) sc_law.nd rfl (Or.inl rfl) (pe_op op_cat (pv 4) (pe_lst (pa_cons pe_str (pa_cons pe_str (pa_cons pe_str (pa_cons pe_str (pa_cons pe_str (pa_cons pe_str (pa_cons (pe_op op_repS pe_str pe_int) (pa_cons (pe_op op_repS pe_str pe_int) pa_nil)))))))))))
  (pss_cons (ps_set (i := 4) sc_law.nd rfl (Or.inl rfl) (pe_op op_cat (pv 4) (pe_lst (pa_cons pe_str (pa_cons pe_str pa_nil)))))
  (pss_cons (ps_for PassesOwn.never rfl (pi_range1 (by rfl) T.range (pa_cons pe_int pa_nil)) (pg_name (i := 5) sc_law.nd rfl (Or.inl rfl))
  (pss_cons (ps_set (i := 6) sc_law.nd rfl (Or.inl rfl) (pe_ix ix_tup (C8.pe_c c__law_drawn_run hr (by decide) (by rfl) (pa_cons (pv 1) (pa_cons (pv 2) (pa_cons (C8.pe_c c__law_draw hr (by decide) (by rfl) (pa_cons (pv 1) (pa_cons pe_int pa_nil))) pa_nil)))) pe_int (fun _ _ => rfl)))
  (pss_cons (ps_set (i := 7) sc_law.nd rfl (Or.inl rfl) (C8.pe_c c__law_joined hr (by decide) (by rfl) (pa_cons (pe_lc (own := [("_law_number", 12)]) (g := gName 12) (tt := tYes) rfl sc_law.nd (pi_tup (C8.pe_c c__law_journal hr (by decide) (by rfl) (pa_cons (pv 1) (pa_cons (pv 2) (pa_cons pe_int pa_nil))))) (blkOk_by (N := N_law) (sc := defScope s_law) (by decide +kernel)) (fun _ _ _ _ _ => (pg_name (i := 12) sc_law.nd rfl (Or.inl rfl))) (fun _ _ _ _ _ => pts_nil) (fun _ _ _ _ _ => (pe_callTy call_str_int (by rfl) T.str (by decide +kernel) (pa_cons (pv 12) pa_nil)))) pa_nil)))
  (pss_cons (ps_set (i := 8) sc_law.nd rfl (Or.inl rfl) (pe_lst (pa_cons (C8.pe_c c__law_table_text hr (by decide) (by rfl) (pa_cons (pv 2) pa_nil)) (pa_cons (pv 7) (pa_cons (C8.pe_c c__law_run_text hr (by decide) (by rfl) (pa_cons (pv 6) pa_nil)) pa_nil)))))
  (pss_one (ps_for PassesOwn.never rfl (pi_range1 (by rfl) T.range (pa_cons pe_int pa_nil)) (pg_name (i := 9) sc_law.nd rfl (Or.inl rfl))
  (pss_cons (ps_set (i := 10) sc_law.nd rfl (Or.inl rfl) (pe_ifExp (pt_cmpR op_gt (C8.pe_c c__law_draw hr (by decide) (by rfl) (pa_cons (pv 1) (pa_cons pe_int pa_nil))) pe_int (nomark _)) (pe_ix ix_list (pv 8) (pv 9) (fun _ _ => rfl)) (C8.pe_c c__law_pick hr (by decide) (by rfl) (pa_cons (pv 1) (pa_cons (pe_op op_cat (pv 8) (pe_lst (pa_cons pe_str (pa_cons pe_str (pa_cons pe_str (pa_cons pe_str (pa_cons pe_str pa_nil))))))) pa_nil)))))
  (pss_cons (ps_for PassesOwn.never rfl (pi_range1 (by rfl) T.range (pa_cons (C8.pe_c c__law_draw hr (by decide) (by rfl) (pa_cons (pv 1) (pa_cons pe_int pa_nil))) pa_nil)) (pg_name (i := 11) sc_law.nd rfl (Or.inl rfl))
  (pss_one (ps_set (i := 10) sc_law.nd rfl (Or.inl rfl) (C8.pe_c c__law_bent_text hr (by decide) (by rfl) (pa_cons (pv 1) (pa_cons (pv 10) (pa_cons (pv 4) pa_nil)))))))
  (pss_cons (ps_if (pt_cmpR op_eq (C8.pe_c c__law_draw hr (by decide) (by rfl) (pa_cons (pv 1) (pa_cons pe_int pa_nil))) pe_int (nomark _)) (pss_one (ps_set (i := 10) sc_law.nd rfl (Or.inl rfl) (C8.pe_c c__law_pick hr (by decide) (by rfl) (pa_cons (pv 1) (pa_cons (pe_lst (pa_cons pe_non (pa_cons pe_int (pa_cons pe_bl (pa_cons (pe_lst (pa_cons (pv 10) pa_nil)) (pa_cons (pe_tup (pa_cons (pv 10) pa_nil)) (pa_cons pe_dnewK (pa_cons (pe_c0 c__law_deep hr (by decide) (by rfl)) (pa_cons (pv 3) pa_nil))))))))) pa_nil))))) pss_nil)
  (pss_one (ps_if (pt_not (pt_val (C8.pe_c c__law_text_right hr (by decide) (by rfl) (pa_cons (pv 2) (pa_cons (pv 3) (pa_cons (pv 9) (pa_cons (pv 10) pa_nil))))))) (pss_one (ps_ret pe_bl)) pss_nil)))))))))))
  (pss_one (ps_ret pe_bl))))))))), ?_⟩
  have hT0 : Tabs (tabs Pt) H := fun q hq => by rw [List.mem_singleton.mp hq]; exact TabS.nil hPt
  refine ⟨_, rfl, a, is, rfl, hA, fun H1 p e1 hp0 hP1 => ?_⟩
  refine ⟨_, rfl, p, 8, _, rfl, hP1, by decide, by decide, fun H2 sv n ks e2 hP2 hS2 hok hk17 => ?_⟩
  have T2 := tabs_exl (hP1.exl e2) (hT0.ext e1)
  refine ⟨_, rfl, sv, n, ks, rfl, hS2, hok, fun H3 t e3 ht0 hTab => ?_⟩
  have hP3 := hP2.keep e3
  have hS3 := hS2.mono e3
  have T3 := T2.ext e3
  refine ⟨by decide, fun w1 hw1 => ?_⟩
  refine ⟨_, rfl, _, rfl, rfl, .inl rfl, _, rfl, rfl, .inr rfl, by decide, fun w2 hw2 => ?_⟩
  refine cat_use (xs := wA.map V.str) (zs := wB.map V.str) ((Ex.new hw2) _ _ upd_same) upd_same (by decide) fun w3 H5 e5 r5 => ?_
  refine ⟨_, rfl, by decide, fun w4 hw4 => ?_⟩
  refine cat_use (zs := wC.map V.str) ((Ex.new hw4) _ _ r5) upd_same (by decide) fun wl H6 e6 r6 => ?_
  have e36 : Ex H3 H6 := (((Ex.new hw1).trans (Ex.new hw2)).trans e5).trans ((Ex.new hw4).trans e6)
  have I6 : LawI d K H6 p sv t wl Pt n ks lawWords := ⟨hP3.keep e36, hS3.mono e36, hTab.mono e36, T3.ext e36, by rw [r6]; unfold lawWords; rw [List.map_append, List.map_append]⟩
  clear hP1 hP2 hP3 hS2 hS3 T2 T3 hTab e36 e5 e6 r5 r6
  obtain ⟨hn, hkl, hkd⟩ := table_ok hok
  refine ⟨6, rfl, by omega, by omega, for_it walk_range (fun i σ Hc => LawI d K Hc p sv t wl Pt n ks lawWords ∧ ∃ y5 y6 y7 y8 y9 y10 y11 : Option V, σ = [some (.ref a), some (.ref p), some sv, some (.ref t), some (.ref wl), y5, y6, y7, y8, y9, y10, y11, none]) ⟨I6, _, _, _, _, _, _, _, rfl⟩ (fun _ _ _ _ _ => trivial) ?_ ?_⟩
  rotate_left
  · rintro σ Hc ⟨_, y5, y6, y7, y8, y9, y10, y11, rfl⟩
    exact k Hc
  rintro i v σ Hz Hc hi ⟨I, y5, y6, y7, y8, y9, y10, y11, rfl⟩ ⟨rfl, rfl⟩
  clear I6
  -- run
  refine ⟨_, rfl, _, rfl, _, rfl, p, 12, _, rfl, I.pool, by decide, by decide, fun H7 m e7 hP7 m0 m1 => ?_⟩
  replace I := I.exb e7 hP7
  refine ⟨p, sv, m, n, ks, _, rfl, hP7, I.spec, hok, m0, by omega, fun H8 yr ss e8 hP8 hr8 hsl hsw => ?_⟩
  replace I := I.exb e8 hP8
  obtain ⟨tr, ta, tj, tq, xr, rfl, hr1, hr2, hr3⟩ := hr8
  refine ⟨tr, _, 0, .ref ta, rfl, rfl, hr1, rfl, ?_⟩
  -- journal
  refine ⟨_, rfl, _, rfl, p, sv, 8, n, ks, _, rfl, I.pool, I.spec, by decide, by decide, hkl.1, by omega, fun H9 ja js e9 hP9 hja hjl hjb => ?_⟩
  replace hr2 := exl_t (hP8.exl e9) hr2
  replace hr3 := Paired.mapP hr3 fun _ _ q => q.monoL (hP8.exl e9)
  replace I := I.exb e9 hP9
  refine ⟨ja, rfl, ⟨_, hja⟩, fun D hD => lc_pure hD (walk_tup (xs := js.map V.int)) yat_ex (fun _ => rfl) (fun H' e => ex_t e hja) (by rw [List.length_map]; omega) (fun i y _ => ∃ z : Str, y = .str z ∧ z.length ≤ 2) (fun _ _ _ _ _ h => h) ?_ ?_⟩
  · rintro i' v HA HB _ eA ⟨rfl, hv⟩ Q' q
    obtain ⟨j, hj, rfl⟩ := map_get hv
    obtain ⟨j0, j1⟩ := hjb j (List.mem_of_getElem? hj)
    obtain ⟨jn, rfl⟩ : ∃ jn : Nat, j = (jn : Int) := ⟨j.toNat, (nat_of j0).symm⟩
    exact ⟨_, rfl, _, rfl, log_small j0 (by omega), q _ _ (Ex.refl _) ⟨_, rfl, two_digits jn (by omega)⟩⟩
  intro HA acc eA hA' hal hR
  obtain ⟨zs, rfl, hzl, hzb⟩ := strs_of_acc hal hR
  rw [List.length_map] at hzl
  replace I := I.ex eA
  refine ⟨D, zs, rfl, SqL.of hA', by omega, fun z hz => by have := hzb z hz; omega, fun HB xj eB hxj => ?_⟩
  replace I := I.ex eB
  -- texts
  refine ⟨_, rfl, sv, n, ks, rfl, I.spec, hok, hk17, fun HC xt eC hxt => ?_⟩
  replace I := I.ex eC
  have eAC := (eA.trans eB).trans eC
  refine ⟨_, rfl, _, rfl, ta, xr, ss, rfl, ex_t eAC hr2, Paired.mapP hr3 fun _ _ q => q.mono eAC, by omega, hsw, fun HD xx eD hxx => ⟨len3, fun lt hlt => ?_⟩⟩
  have eE : Ex HD (upd HD lt (.lst [V.str xt, V.str xj, V.str xx])) := Ex.new hlt
  have rE : upd HD lt (.lst [V.str xt, V.str xj, V.str xx]) lt = some (.lst [V.str xt, V.str xj, V.str xx]) := upd_same
  replace I := (I.ex eD).ex eE
  generalize upd HD lt (.lst [V.str xt, V.str xj, V.str xx]) = HE at eE rE I ⊢
  clear hr1 hr2 hr3 hA' eE eD eC eB eA eAC
  refine ⟨3, rfl, by omega, by omega, for_it walk_range (fun j σ Hc => LawI d K Hc p sv t wl Pt n ks lawWords ∧ Hc lt = some (.lst [V.str xt, V.str xj, V.str xx]) ∧ ∃ y9 y10 y11 : Option V, σ = [some (.ref a), some (.ref p), some sv, some (.ref t), some (.ref wl), some (.int (0 + (i : Int))), some (.ref ta), some (.str xj), some (.ref lt), y9, y10, y11, none]) ⟨I, rE, _, _, _, rfl⟩ (fun _ _ _ _ _ => trivial) ?_ ?_⟩
  rotate_left
  · rintro σ Hc ⟨I, _, y9, y10, y11, rfl⟩
    exact ⟨I, _, _, _, _, _, _, _, rfl⟩
  clear I rE
  rintro j v σ Hz Hc hj ⟨I, rT, y9, y10, y11, rfl⟩ ⟨rfl, rfl⟩
  refine ⟨_, rfl, p, 12, _, rfl, I.pool, by decide, by decide, fun H1 r e1 hP1 r0 r1 => ⟨_, _, rfl, rfl, _, rfl, ?_⟩⟩
  have nlt : lt ≠ p := pool_ne_strs (ys := [xt, xj, xx]) I.pool rT
  replace rT := e1 _ _ nlt rT
  replace I := I.exb e1 hP1
  clear e1 hP1
  have pick2 : ∀ (R : VK) (σ : L2.St), σ[1]? = some (some (.ref p)) → σ[8]? = some (some (.ref lt)) → σ[9]? = some (some (.int (0 + (j : Int)))) → (∀ Hn x, LawI d K Hn p sv t wl Pt n ks lawWords → Hn lt = some (.lst [V.str xt, V.str xj, V.str xx]) → x.length ≤ 700 → R (.str x) Hn) →
      if decide ((0 : Int) < r) = true then tOp (rIxL K) (tVar 8) (tVar 9) σ H1 R else tCall (spPick K) [] C8.E0 (tCons (tVar 1) (tCons (tOp rCat (tVar 8) (tLst (tCons (tC (.str "")) (tCons (tC (.str "\n")) (tCons (tC (.str "-")) (tCons (tC (.str "--")) (tCons (tC (.str "0")) tNil))))))) tNil)) σ H1 R := by
    intro R σ s1 s8 s9 q
    refine ite2 (fun _ => ?_) (fun _ => ?_)
    · obtain ⟨z, hz, hzl⟩ : ∃ z : Str, [V.str xt, V.str xj, V.str xx][j]? = some (.str z) ∧ z.length ≤ 700 := by
        match j, hj with
        | 0, _ => exact ⟨xt, rfl, hxt⟩
        | 1, _ => exact ⟨xj, rfl, by omega⟩
        | 2, _ => exact ⟨xx, rfl, by omega⟩
      exact ⟨_, s8, _, s9, lt, _, _, .str z, rfl, rfl, SqL.of rT, by rw [Int.zero_add]; exact atI_nat hz, q _ _ I rT hzl⟩
    · refine ⟨_, s1, _, s8, by decide, fun l1 hl1 => ?_⟩
      refine cat_use (xs := [V.str xt, V.str xj, V.str xx]) (zs := [V.str "", V.str "\n", V.str "-", V.str "--", V.str "0"]) ((Ex.new hl1) _ _ rT) upd_same (show 3 + 5 ≤ sizeLine by decide) fun l2 H2 e2 r2 => ?_
      have e12 : Ex H1 H2 := (Ex.new hl1).trans e2
      have I2 := I.ex e12
      refine ⟨p, l2, _, _, rfl, I2.pool, SqL.of r2, pool_ne_strs (ys := [xt, xj, xx, "", "\n", "-", "--", "0"]) I2.pool r2, by show 1 ≤ 8; decide, by show 8 ≤ 1000000; decide, fun H3 v e3 hP3 hv => ?_⟩
      have all : ∀ u ∈ [V.str xt, V.str xj, V.str xx] ++ [V.str "", V.str "\n", V.str "-", V.str "--", V.str "0"], ∃ z : Str, u = .str z ∧ z.length ≤ 700 := by
        intro u hu
        simp only [List.cons_append, List.nil_append, List.mem_cons, List.not_mem_nil, or_false] at hu
        rcases hu with rfl | rfl | rfl | rfl | rfl | rfl | rfl | rfl
        · exact ⟨_, rfl, hxt⟩
        · exact ⟨_, rfl, by omega⟩
        · exact ⟨_, rfl, by omega⟩
        all_goals exact ⟨_, rfl, by decide⟩
      obtain ⟨z, rfl, hz⟩ := all v hv
      exact q _ _ (I2.exb e3 hP3) (e3 _ _ nlt (e12 _ _ rT)) hz
  refine pick2 _ _ rfl rfl rfl fun H2 x0 I rT hx0 => ?_
  clear pick2
  -- bent
  refine ⟨_, rfl, p, 4, _, rfl, I.pool, by decide, by decide, fun H3 m e3 hP3 m0 m1 => ?_⟩
  replace rT := e3 _ _ nlt rT
  replace I := I.exb e3 hP3
  refine ⟨m, rfl, by omega, by omega, for_it walk_range (fun kk σ Hc => LawI d K Hc p sv t wl Pt n ks lawWords ∧ Hc lt = some (.lst [V.str xt, V.str xj, V.str xx]) ∧ ∃ (x : Str) (y11 : Option V), x.length + 20 ≤ 2 ^ kk * 720 ∧
    σ = [some (.ref a), some (.ref p), some sv, some (.ref t), some (.ref wl), some (.int (0 + (i : Int))), some (.ref ta), some (.str xj), some (.ref lt), some (.int (0 + (j : Int))), some (.str x), y11, none]) ⟨I, rT, x0, _, by omega, rfl⟩ (fun _ _ _ _ _ => trivial) ?_ ?_⟩
  · clear I rT
    rintro kk v σ Hz Hc hk ⟨I, rT, x, y11, hx, rfl⟩ ⟨rfl, rfl⟩
    have hpow : 2 ^ kk ≤ 2 ^ 2 := Nat.pow_le_pow_right (by decide) (by omega)
    have hp1 : 2 ^ (kk + 1) = 2 ^ kk * 2 := Nat.pow_succ ..
    refine ⟨_, rfl, _, rfl, _, rfl, p, wl, x, lawWords, _, rfl, I.pool, SqL.of I.wds, I.ne, by rw [lawWords_len]; decide, by rw [lawWords_len]; decide, lawWords_le, by omega, fun H5 z e5 hP5 hz => ?_⟩
    exact ⟨I.exb e5 hP5, e5 _ _ nlt rT, z, _, by rw [hp1]; omega, rfl⟩
  clear I rT
  rintro σ Hc ⟨I, rT, x, y11, hx, rfl⟩
  have hpow : 2 ^ m.toNat ≤ 2 ^ 3 := Nat.pow_le_pow_right (by decide) (by omega)
  have hxl : x.length ≤ 7000 := by omega
  dsimp only
  have fin : ∀ {Hn : Hp} {v : V} (y11 : Option V) (D : Ends), LawI d K Hn p sv t wl Pt n ks lawWords → Hn lt = some (.lst [V.str xt, V.str xj, V.str xx]) → ((∃ x : Str, v = .str x ∧ x.length ≤ 7000) ∨ NotS K Hn v) →
      (∀ Hm, LawI d K Hm p sv t wl Pt n ks lawWords → Hm lt = some (.lst [V.str xt, V.str xj, V.str xx]) → D.nx [some (.ref a), some (.ref p), some sv, some (.ref t), some (.ref wl), some (.int (0 + (i : Int))), some (.ref ta), some (.str xj), some (.ref lt), some (.int (0 + (j : Int))), some v, y11, none] Hm) →
      tIfS (tNot (tB (tCall (spTR d K Pt) [] C8.E0 (tCons (tVar 2) (tCons (tVar 3) (tCons (tVar 9) (tCons (tVar 10) tNil))))))) (tRet (tC (V.bl false))) tNext D [some (.ref a), some (.ref p), some sv, some (.ref t), some (.ref wl), some (.int (0 + (i : Int))), some (.ref ta), some (.str xj), some (.ref lt), some (.int (0 + (j : Int))), some v, y11, none] Hn := by
    intro Hn v y11 D I rT hv q
    refine ⟨_, rfl, _, rfl, _, rfl, _, rfl, sv, v, t, _, n, ks, rfl, I.spec, I.tab, hok, I.tabs, hv, fun Hm em hT => ⟨_, rfl, iteF ?_⟩⟩
    exact q Hm (I.exn em hT) (em _ _ rT (fun _ z => by cases z))
  have dn : ∀ {v : V} {y11 : Option V} (Hm : Hp), LawI d K Hm p sv t wl Pt n ks lawWords → Hm lt = some (.lst [V.str xt, V.str xj, V.str xx]) → LawI d K Hm p sv t wl Pt n ks lawWords ∧ Hm lt = some (.lst [V.str xt, V.str xj, V.str xx]) ∧ ∃ y9 y10 y11' : Option V, [some (.ref a), some (.ref p), some sv, some (.ref t), some (.ref wl), some (.int (0 + (i : Int))), some (.ref ta), some (.str xj), some (.ref lt), some (.int (0 + (j : Int))), some v, y11, none] =
      [some (.ref a), some (.ref p), some sv, some (.ref t), some (.ref wl), some (.int (0 + (i : Int))), some (.ref ta), some (.str xj), some (.ref lt), y9, y10, y11', none] := fun Hm I r => ⟨I, r, _, _, _, rfl⟩
  refine ⟨_, rfl, p, 16, _, rfl, I.pool, by decide, by decide, fun H4 r e4 hP4 r0 r1 => ⟨rfl, _, rfl, ?_⟩⟩
  replace rT := e4 _ _ nlt rT
  replace I := I.exb e4 hP4
  refine ite2 (fun _ => ?_) (fun _ => fin _ _ I rT (.inl ⟨x, rfl, hxl⟩) dn)
  refine ⟨_, rfl, _, rfl, len1, fun l1 hl1 => ⟨_, rfl, len1, fun l2 hl2 => ?_⟩⟩
  have g1 : Ex H4 (upd H4 l1 (.lst [V.str x])) := Ex.new hl1
  have q1 : SqL K (upd H4 l1 (.lst [V.str x])) l1 [V.str x] := SqL.of upd_same
  generalize upd H4 l1 (.lst [V.str x]) = G1 at g1 q1 hl2 ⊢
  have g2 : Ex G1 (upd G1 l2 (.tup [V.str x])) := Ex.new hl2
  have q2 : SqT K (upd G1 l2 (.tup [V.str x])) l2 [V.str x] := SqT.of upd_same
  generalize upd G1 l2 (.tup [V.str x]) = G2 at g2 q2 ⊢
  intro l3 hl3
  have g3 : Ex G2 (upd G2 l3 (.dK [])) := Ex.new hl3
  have q3 : upd G2 l3 (.dK []) l3 = some (.dK []) := upd_same
  generalize upd G2 l3 (.dK []) = G3 at g3 q3 ⊢
  refine ⟨rfl, fun G4 vd g4 hvd => ⟨_, rfl, show 8 ≤ sizeLine by decide, fun q hq => ?_⟩⟩
  have g5 := Ex.new (o := .lst [V.non, V.int 0, V.bl true, V.ref l1, V.ref l2, V.ref l3, vd, V.ref t]) hq
  have q5 : upd G4 q (.lst [V.non, V.int 0, V.bl true, V.ref l1, V.ref l2, V.ref l3, vd, V.ref t]) q = some (.lst [V.non, V.int 0, V.bl true, V.ref l1, V.ref l2, V.ref l3, vd, V.ref t]) := upd_same
  have g45 : Ex H4 G4 := ((g1.trans g2).trans g3).trans g4
  have nq : q ≠ p := (I.ex g45).pool.ne hq
  generalize upd G4 q (.lst [V.non, V.int 0, V.bl true, V.ref l1, V.ref l2, V.ref l3, vd, V.ref t]) = G5 at g5 q5 ⊢
  have I5 := (I.ex g45).ex g5
  have rT5 := g5 _ _ (g45 _ _ rT)
  refine ⟨p, q, _, _, rfl, I5.pool, SqL.of q5, nq, by show 1 ≤ 8; decide, by show 8 ≤ 1000000; decide, fun H6 vv e6 hP6 hv => ?_⟩
  have I6 := I5.exb e6 hP6
  have mv : ∀ {u : V}, NotS K G5 u → NotS K H6 u := fun ⟨t', h1, h2⟩ => ⟨t', tyx_exb e6 I5.pool.at hP6.at h1, h2⟩
  have n1 : NotS K G5 (.ref l1) := nots_list (ex_l (((g2.trans g3).trans g4).trans g5) q1)
  have n2 : NotS K G5 (.ref l2) := nots_tup (ex_t ((g3.trans g4).trans g5) q2)
  have n3 : NotS K G5 (.ref l3) := ⟨_, .base (.dK (g5 _ _ (g4 _ _ q3))), kit_ty (r := false) (by decide +kernel)⟩
  have n4 : NotS K G5 vd := hvd.mono g5
  have n5 : NotS K G5 (.ref t) := by
    obtain ⟨dx, ta', h1, _⟩ := I5.tab
    exact ⟨_, .base (.ins h1 C.c_Table.cl C.c_Table.ha C.c_Table.hn C.c_Table.htk C.c_Table.hm), hst⟩
  have all : ∀ u ∈ [V.non, V.int 0, V.bl true, V.ref l1, V.ref l2, V.ref l3, vd, V.ref t], NotS K G5 u := by
    intro u hu
    simp only [List.mem_cons, List.not_mem_nil, or_false] at hu
    rcases hu with rfl | rfl | rfl | rfl | rfl | rfl | rfl | rfl
    · exact ⟨_, .base .non, kit_ty (r := false) (by decide +kernel)⟩
    · exact ⟨_, .base (.int 0), kit_ty (r := false) (by decide +kernel)⟩
    · exact ⟨_, .base (.bl true), kit_ty (r := false) (by decide +kernel)⟩
    · exact n1
    · exact n2
    · exact n3
    · exact n4
    · exact n5
  exact fin _ _ I6 (e6 _ _ nlt rT5) (.inr (mv (all vv hv))) dn
end
end K28
/-! # The end: what the top has left -/
namespace K28
open PySem PySem.Spec PyProof.Rows L2 LamX
open Evl (Ex ex_l ex_t)
section
variable {P : Program} {w : World} {K : PySem.W.Frag} {mg : Str → Option Value} {base h : Heap} {d : Ad}
theorem dn_mk {x : Str} {st : Stmt} {ps : List Str} {f : Addr} {oc : Value} {od an : Option Addr} {osl : Array (Option Value)} {kV doc pm cdv ct : Value} (X : K.In h) (G : h.Ns mainGlobals mg) (a : PySem.W.nsIn K mainGlobals x = some (some (.ref f)))
    (l : K.lookup f = some ⟨oc, od, .func (PySem.W.fnOf x x (defArgs st) (defBody st) (defScope st) .none kV doc pm an cdv ct), osl⟩) (c : PySem.W.codeIn K cdv x = true) (k : PySem.W.keepIn K (.ref f) = true)
    (b : ∀ (kV doc pm : Value) (an : Option Addr) (cdv ct : Value) (us : List Value), us.length = ps.length → bindArgs (PySem.W.fnOf x x (defArgs st) (defBody st) (defScope st) .none kV doc pm an cdv ct) ⟨us, []⟩ = pure (ps.zip us)) : Dn K mg x st ps :=
  ⟨f, _, fun_mk l c k, PySem.W.mg_of X G a, (fun_mk l c k).binds b⟩
theorem dnc_mk {x : Str} {st : Stmt} {ps : List Str} {f : Addr} {oc : Value} {od an : Option Addr} {osl : Array (Option Value)} {kV doc pm cdv ct : Value} (X : K.In h) (G : h.Ns mainGlobals mg) (a : PySem.W.nsIn K mainGlobals x = some (some (.ref f)))
    (l : K.lookup f = some ⟨oc, od, .func (PySem.W.fnOf x x (defArgs st) (defBody st) (defScope st) .none kV doc pm an cdv ct), osl⟩) (c : PySem.W.codeIn K cdv x = true) (k : PySem.W.keepIn K (.ref f) = true)
    (b : ∀ (kV doc pm : Value) (an : Option Addr) (cdv ct : Value) (us : List Value), us.length = ps.length → bindArgs (PySem.W.fnOf x x (defArgs st) (defBody st) (defScope st) .none kV doc pm an cdv ct) ⟨us, []⟩ = pure (ps.zip us)) : DnC K mg x st ps cdv :=
  ⟨f, oc, od, kV, doc, pm, an, ct, osl, l, c, k, PySem.W.mg_of X G a, (fun_mk l c k).binds b⟩
theorem in_mk {q : Str} {C : Addr} {st : Stmt} {ps : List Str} {f : Addr} {oc : Value} {od an : Option Addr} {osl : Array (Option Value)} {kV doc pm cdv ct : Value} (a : PySem.W.findIn K (.ref C) "__init__" = some (some (.ref f)))
    (l : K.lookup f = some ⟨oc, od, .func (PySem.W.fnOf "__init__" q (defArgs st) (defBody st) (defScope st) .none kV doc pm an cdv ct), osl⟩) (c : PySem.W.codeIn K cdv q = true) (k : PySem.W.keepIn K (.ref f) = true)
    (b : ∀ (kV doc pm : Value) (an : Option Addr) (cdv ct : Value) (us : List Value), us.length = ps.length → bindArgs (PySem.W.fnOf "__init__" q (defArgs st) (defBody st) (defScope st) .none kV doc pm an cdv ct) ⟨us, []⟩ = pure (ps.zip us)) : In K q C st ps :=
  ⟨f, _, fun_mk l c k, a, (fun_mk l c k).binds b⟩
/-- all contracts, from the defs -/
theorem all_ok {c Pt f : Addr} {cdR : Value} {fd : FuncData} (T : Txt K mg)
    (C : Cl K mg d)
    (CE : ClE K d)
    (hst : PySem.W.kitOne K (.ref d.tb) (.type "str") = some false)
    (D_is_integer : Dn K mg "is_integer" s_is_integer p_is_integer)
    (D_is_within : Dn K mg "is_within" s_is_within p_is_within)
    (D_is_pair : Dn K mg "is_pair" s_is_pair p_is_pair)
    (D_is_lot : Dn K mg "is_lot" s_is_lot p_is_lot)
    (D_is_kind : Dn K mg "is_kind" s_is_kind p_is_kind)
    (D_number_of : Dn K mg "number_of" s_number_of p_number_of)
    (D_numbers_of : Dn K mg "numbers_of" s_numbers_of p_numbers_of)
    (D__law_number_of : Dn K mg "_law_number_of" s__law_number_of p__law_number_of)
    (D__law_numbers_of : Dn K mg "_law_numbers_of" s__law_numbers_of p__law_numbers_of)
    (D_cells_of : Dn K mg "cells_of" s_cells_of p_cells_of)
    (D_kind_of : Dn K mg "kind_of" s_kind_of p_kind_of)
    (D_BadText : In K "BadText.__init__" d.bt s_BadText___init__ p_BadText___init__)
    (D_BadTable : In K "BadTable.__init__" d.bb s_BadTable___init__ p_BadTable___init__)
    (D_Table : In K "Table.__init__" d.tb s_Table___init__ p_Table___init__)
    (D_is_journal : Dn K mg "is_journal" s_is_journal p_is_journal)
    (D_begin_of : Dn K mg "begin_of" s_begin_of p_begin_of)
    (D_all_fresh : Dn K mg "all_fresh" s_all_fresh p_all_fresh)
    (D_History : In K "History.__init__" d.hs s_History___init__ p_History___init__)
    (D_closure : Dn K mg "closure" s_closure p_closure)
    (D_is_all_there : Dn K mg "is_all_there" s_is_all_there p_is_all_there)
    (D_laid : Dn K mg "laid" s_laid p_laid)
    (D_is_step : Dn K mg "is_step" s_is_step p_is_step)
    (D_led_by : Dn K mg "led_by" s_led_by p_led_by)
    (D_behind_run : Dn K mg "behind_run" s_behind_run p_behind_run)
    (D_is_run : Dn K mg "is_run" s_is_run p_is_run)
    (D_check_string : Dn K mg "check_string" s_check_string p_check_string)
    (D_words_of : Dn K mg "words_of" s_words_of p_words_of)
    (D_read_journal : Dn K mg "read_journal" s_read_journal p_read_journal)
    (D_step_of : Dn K mg "step_of" s_step_of p_step_of)
    (D_read_run : Dn K mg "read_run" s_read_run p_read_run)
    (D_read_table : Dn K mg "read_table" s_read_table p_read_table)
    (D__law_draw : Dn K mg "_law_draw" s__law_draw p__law_draw)
    (D__law_pool : Dn K mg "_law_pool" s__law_pool p__law_pool)
    (D__law_pick : Dn K mg "_law_pick" s__law_pick p__law_pick)
    (D__law_is_number : Dn K mg "_law_is_number" s__law_is_number p__law_is_number)
    (D__law_fresh : Dn K mg "_law_fresh" s__law_fresh p__law_fresh)
    (D__law_made : Dn K mg "_law_made" s__law_made p__law_made)
    (D__law_is_journal : Dn K mg "_law_is_journal" s__law_is_journal p__law_is_journal)
    (D__law_journal : Dn K mg "_law_journal" s__law_journal p__law_journal)
    (D__law_reads : Dn K mg "_law_reads" s__law_reads p__law_reads)
    (D__law_mixed : Dn K mg "_law_mixed" s__law_mixed p__law_mixed)
    (D__law_spec : Dn K mg "_law_spec" s__law_spec p__law_spec)
    (D__law_story : Dn K mg "_law_story" s__law_story p__law_story)
    (D__law_is_there : Dn K mg "_law_is_there" s__law_is_there p__law_is_there)
    (D__law_laid : Dn K mg "_law_laid" s__law_laid p__law_laid)
    (D__law_run_due : Dn K mg "_law_run_due" s__law_run_due p__law_run_due)
    (D__law_drawn_run : Dn K mg "_law_drawn_run" s__law_drawn_run p__law_drawn_run)
    (D__law_line : Dn K mg "_law_line" s__law_line p__law_line)
    (D__law_joined : Dn K mg "_law_joined" s__law_joined p__law_joined)
    (D__law_run_text : Dn K mg "_law_run_text" s__law_run_text p__law_run_text)
    (D__law_table_text : Dn K mg "_law_table_text" s__law_table_text p__law_table_text)
    (D__law_bent_text : Dn K mg "_law_bent_text" s__law_bent_text p__law_bent_text)
    (D__law_deep : Dn K mg "_law_deep" s__law_deep p__law_deep)
    (D__law_journal_due : Dn K mg "_law_journal_due" s__law_journal_due p__law_journal_due)
    (D__law_run_text_due : Dn K mg "_law_run_text_due" s__law_run_text_due p__law_run_text_due)
    (D__law_table_due : Dn K mg "_law_table_due" s__law_table_due p__law_table_due)
    (D__law_is : Dn K mg "_law_is" s__law_is p__law_is)
    (R : DnC K mg "_law_read" s__law_read p__law_read cdR)
    (D__law_text_right : DnC K mg "_law_text_right" s__law_text_right p__law_text_right (.ref c))
    (F : Fun K "law" "law" s_law f fd)
    (TB : TabB base mg c Pt) : FnOk P w K mg base L2.CX0 12 f fd p_law (spLaw K Pt) := by
  have c_is_integer := ok_is_integer (P := P) (w := w) (base := base) D_is_integer T
  have c_is_within := ok_is_within (P := P) (w := w) (base := base) D_is_within c_is_integer
  have c_is_pair := ok_is_pair (P := P) (w := w) (base := base) D_is_pair T
  have c_is_lot := ok_is_lot (P := P) (w := w) (base := base) D_is_lot T c_is_within
  have c_is_kind := ok_is_kind (P := P) (w := w) (base := base) D_is_kind T c_is_pair c_is_within c_is_lot
  have c_number_of := ok_number_of (P := P) (w := w) (base := base) D_number_of T
  have c_numbers_of := ok_numbers_of (P := P) (w := w) (base := base) D_numbers_of T c_number_of
  have c__law_number_of := ok__law_number_of (P := P) (w := w) (base := base) D__law_number_of T
  have c__law_numbers_of := ok__law_numbers_of (P := P) (w := w) (base := base) D__law_numbers_of T c__law_number_of
  have c_cells_of := ok_cells_of (P := P) (w := w) (base := base) D_cells_of T c_number_of
  have c_kind_of := ok_kind_of (P := P) (w := w) (base := base) D_kind_of T c_numbers_of
  have x_BadText := ok_BadText (P := P) (w := w) (base := base) C D_BadText
  have x_BadTable := ok_BadTable (P := P) (w := w) (base := base) C D_BadTable
  have i_Table := ok_Table (P := P) (w := w) (base := base) C T D_Table c_is_within c_is_kind x_BadTable
  have c_is_journal := ok_is_journal (P := P) (w := w) (base := base) C D_is_journal T c_is_within
  have c_begin_of := ok_begin_of (P := P) (w := w) (base := base) D_begin_of
  have c_all_fresh := ok_all_fresh (P := P) (w := w) (base := base) C D_all_fresh T c_begin_of
  have i_History := ok_History (P := P) (w := w) (base := base) C T D_History c_all_fresh
  have c_closure := ok_closure (P := P) (w := w) (base := base) C D_closure T
  have c_is_all_there := ok_is_all_there (P := P) (w := w) (base := base) C D_is_all_there T c_closure
  have c_laid := ok_laid (P := P) (w := w) (base := base) C D_laid T
  have c_is_step := ok_is_step (P := P) (w := w) (base := base) C D_is_step T c_is_pair c_is_within
  have c_led_by := ok_led_by (P := P) (w := w) (base := base) C D_led_by T c_all_fresh c_laid c_is_all_there i_History
  have c_behind_run := ok_behind_run (P := P) (w := w) (base := base) D_behind_run T c_is_step c_led_by
  have c_is_run := ok_is_run (P := P) (w := w) (base := base) D_is_run T c_behind_run
  have c_check_string := ok_check_string (P := P) (w := w) (base := base) D_check_string T x_BadText
  have c_words_of := ok_words_of (P := P) (w := w) (base := base) D_words_of T c_check_string
  have c_read_journal := ok_read_journal (P := P) (w := w) (base := base) C D_read_journal T c_words_of c_numbers_of c_is_journal x_BadText
  have c_step_of := ok_step_of (P := P) (w := w) (base := base) D_step_of T c_number_of
  have c_read_run := ok_read_run (P := P) (w := w) (base := base) C D_read_run T c_words_of c_step_of c_is_run x_BadText
  have c_read_table := ok_read_table (P := P) (w := w) (base := base) C D_read_table T c_check_string c_cells_of c_kind_of i_Table x_BadText
  have c__law_draw := ok__law_draw (P := P) (w := w) (base := base) D__law_draw T
  have c__law_pool := ok__law_pool (P := P) (w := w) (base := base) D__law_pool T
  have c__law_pick := ok__law_pick (P := P) (w := w) (base := base) D__law_pick T c__law_draw
  have c__law_is_number := ok__law_is_number (P := P) (w := w) (base := base) D__law_is_number T
  have c__law_fresh := ok__law_fresh (P := P) (w := w) (base := base) D__law_fresh T
  have c__law_made := ok__law_made (P := P) (w := w) (base := base) D__law_made i_Table
  have c__law_is_journal := ok__law_is_journal (P := P) (w := w) (base := base) D__law_is_journal T c__law_is_number
  have c__law_journal := ok__law_journal (P := P) (w := w) (base := base) D__law_journal T c__law_draw
  have c__law_reads := ok__law_reads (P := P) (w := w) (base := base) D__law_reads T c__law_draw
  have c__law_mixed := ok__law_mixed (P := P) (w := w) (base := base) D__law_mixed T c__law_draw
  have c__law_spec := ok__law_spec (P := P) (w := w) (base := base) D__law_spec T c__law_draw c__law_reads c__law_mixed
  have c__law_story := ok__law_story (P := P) (w := w) (base := base) D__law_story T
  have c__law_is_there := ok__law_is_there (P := P) (w := w) (base := base) D__law_is_there T
  have c__law_laid := ok__law_laid (P := P) (w := w) (base := base) D__law_laid T
  have c__law_run_due := ok__law_run_due (P := P) (w := w) (base := base) D__law_run_due T c__law_fresh c__law_is_number c__law_story c__law_laid c__law_is_there
  have c__law_drawn_run := ok__law_drawn_run (P := P) (w := w) (base := base) D__law_drawn_run T c__law_draw c__law_fresh c__law_story c__law_laid c__law_is_there
  have c__law_line := ok__law_line (P := P) (w := w) (base := base) D__law_line T
  have c__law_joined := ok__law_joined (P := P) (w := w) (base := base) D__law_joined T
  have c__law_run_text := ok__law_run_text (P := P) (w := w) (base := base) D__law_run_text T c__law_line c__law_joined
  have c__law_table_text := ok__law_table_text (P := P) (w := w) (base := base) D__law_table_text T c__law_line
  have c__law_bent_text := ok__law_bent_text (P := P) (w := w) (base := base) D__law_bent_text T c__law_draw c__law_pick
  have c__law_deep := ok__law_deep (P := P) (w := w) (base := base) D__law_deep T
  have c__law_journal_due := ok__law_journal_due (P := P) (w := w) (base := base) D__law_journal_due T c__law_numbers_of c__law_is_journal
  have c__law_run_text_due := ok__law_run_text_due (P := P) (w := w) (base := base) D__law_run_text_due T c__law_number_of c__law_run_due
  have c__law_table_due := ok__law_table_due (P := P) (w := w) (base := base) D__law_table_due T c__law_numbers_of
  have is0 := ok__law_is0 (P := P) (w := w) (base := base) (K := K) D__law_is
  have is1 := ok__law_isS D__law_is T is0
  have is2 := ok__law_isS D__law_is T is1
  have is3 := ok__law_isS D__law_is T is2
  have is4 := ok__law_isS D__law_is T is3
  have is5 := ok__law_isS D__law_is T is4
  have c__law_is := is5
  have c__law_text_right := ok__law_text_right (P := P) (w := w) D__law_text_right TB T C CE R c_read_journal c_read_run c_read_table c__law_is c__law_journal_due c__law_run_text_due c__law_table_due
  exact ok_law F T C hst c__law_pool c__law_spec c__law_made c__law_drawn_run c__law_draw c__law_pick c__law_journal c__law_joined c__law_table_text c__law_run_text c__law_bent_text c__law_deep c__law_text_right
end
end K28
namespace K28
open PySem PySem.Spec PyProof.Rows L2 LamX
theorem exm_any {K : PySem.W.Frag} {c s : Addr} {b : Bool} (h1 : PySem.W.subIn K (.ref s) (.type "BaseException") = some true) (h2 : PySem.W.isClsIn K s = true) (h3 : PySem.W.typeIn K (.ref s) = some (.type "type")) (h4 : PySem.W.subIn K (.ref c) (.ref s) = some b) : PySem.W.exmOne K (.ref c) (.ref s) = some b := by
  have e1 : (PySem.W.subIn K (.ref s) (.type "BaseException") == some true) = true := by rw [h1] <;> rfl
  have e2 : ((PySem.W.clsIn K s).isSome && PySem.W.typeIn K (.ref s) == some (.type "type")) = true := by
    have h2' : (PySem.W.clsIn K s).isSome = true := h2
    rw [h2', h3] <;> rfl
  show (if (PySem.W.subIn K (.ref s) (.type "BaseException") == some true) = true then (if ((PySem.W.clsIn K s).isSome && PySem.W.typeIn K (.ref s) == some (.type "type")) = true then PySem.W.subIn K (.ref c) (.ref s) else none) else none) = some b
  rw [if_pos e1, if_pos e2]
  exact h4
theorem fin_mk {l : PySem.W.OpenLaw} {w : World} {K : PySem.W.Frag} {mg : Str → Option Value} {fa : Addr} {h : Heap} {bt bb nj nr pe tb hs c Pt : Addr}
    {u_MOST_CELLS : Value}
    {u_MOST_KINDS : Value}
    {u_MOST_READS : Value}
    {u_MOST_DEEDS : Value}
    {u_MOST_STEPS : Value}
    {u_MOST_FIGURES : Value}
    {u_DO : Value}
    {u_LAY : Value}
    {u_NOTHING : Value}
    {u_FIGURES : Value}
    {nm_bt q_bt : Str} {N_bt : Addr} {bs_bt bm_bt : List Value} {sn_bt : List Str} {sub_bt : List Value} {ab_bt : Bool} {col_bt : Option Bool} {dd_bt : Option Addr} {m0_bt m1_bt m2_bt m3_bt m5_bt : Option Value}
    {nm_bb q_bb : Str} {N_bb : Addr} {bs_bb bm_bb : List Value} {sn_bb : List Str} {sub_bb : List Value} {ab_bb : Bool} {col_bb : Option Bool} {dd_bb : Option Addr} {m0_bb m1_bb m2_bb m3_bb m5_bb : Option Value}
    {nid iid : String} {bmB : List Value}
    {f_is_integer : Addr} {oc_is_integer kV_is_integer dc_is_integer pm_is_integer ct_is_integer : Value} {od_is_integer an_is_integer : Option Addr} {sl_is_integer : Array (Option Value)} {cd_is_integer : Value}
    {f_is_within : Addr} {oc_is_within kV_is_within dc_is_within pm_is_within ct_is_within : Value} {od_is_within an_is_within : Option Addr} {sl_is_within : Array (Option Value)} {cd_is_within : Value}
    {f_is_pair : Addr} {oc_is_pair kV_is_pair dc_is_pair pm_is_pair ct_is_pair : Value} {od_is_pair an_is_pair : Option Addr} {sl_is_pair : Array (Option Value)} {cd_is_pair : Value}
    {f_is_lot : Addr} {oc_is_lot kV_is_lot dc_is_lot pm_is_lot ct_is_lot : Value} {od_is_lot an_is_lot : Option Addr} {sl_is_lot : Array (Option Value)} {cd_is_lot : Value}
    {f_is_kind : Addr} {oc_is_kind kV_is_kind dc_is_kind pm_is_kind ct_is_kind : Value} {od_is_kind an_is_kind : Option Addr} {sl_is_kind : Array (Option Value)} {cd_is_kind : Value}
    {f_number_of : Addr} {oc_number_of kV_number_of dc_number_of pm_number_of ct_number_of : Value} {od_number_of an_number_of : Option Addr} {sl_number_of : Array (Option Value)} {cd_number_of : Value}
    {f_numbers_of : Addr} {oc_numbers_of kV_numbers_of dc_numbers_of pm_numbers_of ct_numbers_of : Value} {od_numbers_of an_numbers_of : Option Addr} {sl_numbers_of : Array (Option Value)} {cd_numbers_of : Value}
    {f__law_number_of : Addr} {oc__law_number_of kV__law_number_of dc__law_number_of pm__law_number_of ct__law_number_of : Value} {od__law_number_of an__law_number_of : Option Addr} {sl__law_number_of : Array (Option Value)} {cd__law_number_of : Value}
    {f__law_numbers_of : Addr} {oc__law_numbers_of kV__law_numbers_of dc__law_numbers_of pm__law_numbers_of ct__law_numbers_of : Value} {od__law_numbers_of an__law_numbers_of : Option Addr} {sl__law_numbers_of : Array (Option Value)} {cd__law_numbers_of : Value}
    {f_cells_of : Addr} {oc_cells_of kV_cells_of dc_cells_of pm_cells_of ct_cells_of : Value} {od_cells_of an_cells_of : Option Addr} {sl_cells_of : Array (Option Value)} {cd_cells_of : Value}
    {f_kind_of : Addr} {oc_kind_of kV_kind_of dc_kind_of pm_kind_of ct_kind_of : Value} {od_kind_of an_kind_of : Option Addr} {sl_kind_of : Array (Option Value)} {cd_kind_of : Value}
    {f_BadText : Addr} {oc_BadText kV_BadText dc_BadText pm_BadText ct_BadText : Value} {od_BadText an_BadText : Option Addr} {sl_BadText : Array (Option Value)} {cd_BadText : Value}
    {f_BadTable : Addr} {oc_BadTable kV_BadTable dc_BadTable pm_BadTable ct_BadTable : Value} {od_BadTable an_BadTable : Option Addr} {sl_BadTable : Array (Option Value)} {cd_BadTable : Value}
    {f_Table : Addr} {oc_Table kV_Table dc_Table pm_Table ct_Table : Value} {od_Table an_Table : Option Addr} {sl_Table : Array (Option Value)} {cd_Table : Value}
    {f_is_journal : Addr} {oc_is_journal kV_is_journal dc_is_journal pm_is_journal ct_is_journal : Value} {od_is_journal an_is_journal : Option Addr} {sl_is_journal : Array (Option Value)} {cd_is_journal : Value}
    {f_begin_of : Addr} {oc_begin_of kV_begin_of dc_begin_of pm_begin_of ct_begin_of : Value} {od_begin_of an_begin_of : Option Addr} {sl_begin_of : Array (Option Value)} {cd_begin_of : Value}
    {f_all_fresh : Addr} {oc_all_fresh kV_all_fresh dc_all_fresh pm_all_fresh ct_all_fresh : Value} {od_all_fresh an_all_fresh : Option Addr} {sl_all_fresh : Array (Option Value)} {cd_all_fresh : Value}
    {f_History : Addr} {oc_History kV_History dc_History pm_History ct_History : Value} {od_History an_History : Option Addr} {sl_History : Array (Option Value)} {cd_History : Value}
    {f_closure : Addr} {oc_closure kV_closure dc_closure pm_closure ct_closure : Value} {od_closure an_closure : Option Addr} {sl_closure : Array (Option Value)} {cd_closure : Value}
    {f_is_all_there : Addr} {oc_is_all_there kV_is_all_there dc_is_all_there pm_is_all_there ct_is_all_there : Value} {od_is_all_there an_is_all_there : Option Addr} {sl_is_all_there : Array (Option Value)} {cd_is_all_there : Value}
    {f_laid : Addr} {oc_laid kV_laid dc_laid pm_laid ct_laid : Value} {od_laid an_laid : Option Addr} {sl_laid : Array (Option Value)} {cd_laid : Value}
    {f_is_step : Addr} {oc_is_step kV_is_step dc_is_step pm_is_step ct_is_step : Value} {od_is_step an_is_step : Option Addr} {sl_is_step : Array (Option Value)} {cd_is_step : Value}
    {f_led_by : Addr} {oc_led_by kV_led_by dc_led_by pm_led_by ct_led_by : Value} {od_led_by an_led_by : Option Addr} {sl_led_by : Array (Option Value)} {cd_led_by : Value}
    {f_behind_run : Addr} {oc_behind_run kV_behind_run dc_behind_run pm_behind_run ct_behind_run : Value} {od_behind_run an_behind_run : Option Addr} {sl_behind_run : Array (Option Value)} {cd_behind_run : Value}
    {f_is_run : Addr} {oc_is_run kV_is_run dc_is_run pm_is_run ct_is_run : Value} {od_is_run an_is_run : Option Addr} {sl_is_run : Array (Option Value)} {cd_is_run : Value}
    {f_check_string : Addr} {oc_check_string kV_check_string dc_check_string pm_check_string ct_check_string : Value} {od_check_string an_check_string : Option Addr} {sl_check_string : Array (Option Value)} {cd_check_string : Value}
    {f_words_of : Addr} {oc_words_of kV_words_of dc_words_of pm_words_of ct_words_of : Value} {od_words_of an_words_of : Option Addr} {sl_words_of : Array (Option Value)} {cd_words_of : Value}
    {f_read_journal : Addr} {oc_read_journal kV_read_journal dc_read_journal pm_read_journal ct_read_journal : Value} {od_read_journal an_read_journal : Option Addr} {sl_read_journal : Array (Option Value)} {cd_read_journal : Value}
    {f_step_of : Addr} {oc_step_of kV_step_of dc_step_of pm_step_of ct_step_of : Value} {od_step_of an_step_of : Option Addr} {sl_step_of : Array (Option Value)} {cd_step_of : Value}
    {f_read_run : Addr} {oc_read_run kV_read_run dc_read_run pm_read_run ct_read_run : Value} {od_read_run an_read_run : Option Addr} {sl_read_run : Array (Option Value)} {cd_read_run : Value}
    {f_read_table : Addr} {oc_read_table kV_read_table dc_read_table pm_read_table ct_read_table : Value} {od_read_table an_read_table : Option Addr} {sl_read_table : Array (Option Value)} {cd_read_table : Value}
    {f__law_draw : Addr} {oc__law_draw kV__law_draw dc__law_draw pm__law_draw ct__law_draw : Value} {od__law_draw an__law_draw : Option Addr} {sl__law_draw : Array (Option Value)} {cd__law_draw : Value}
    {f__law_pool : Addr} {oc__law_pool kV__law_pool dc__law_pool pm__law_pool ct__law_pool : Value} {od__law_pool an__law_pool : Option Addr} {sl__law_pool : Array (Option Value)} {cd__law_pool : Value}
    {f__law_pick : Addr} {oc__law_pick kV__law_pick dc__law_pick pm__law_pick ct__law_pick : Value} {od__law_pick an__law_pick : Option Addr} {sl__law_pick : Array (Option Value)} {cd__law_pick : Value}
    {f__law_is_number : Addr} {oc__law_is_number kV__law_is_number dc__law_is_number pm__law_is_number ct__law_is_number : Value} {od__law_is_number an__law_is_number : Option Addr} {sl__law_is_number : Array (Option Value)} {cd__law_is_number : Value}
    {f__law_fresh : Addr} {oc__law_fresh kV__law_fresh dc__law_fresh pm__law_fresh ct__law_fresh : Value} {od__law_fresh an__law_fresh : Option Addr} {sl__law_fresh : Array (Option Value)} {cd__law_fresh : Value}
    {f__law_made : Addr} {oc__law_made kV__law_made dc__law_made pm__law_made ct__law_made : Value} {od__law_made an__law_made : Option Addr} {sl__law_made : Array (Option Value)} {cd__law_made : Value}
    {f__law_is_journal : Addr} {oc__law_is_journal kV__law_is_journal dc__law_is_journal pm__law_is_journal ct__law_is_journal : Value} {od__law_is_journal an__law_is_journal : Option Addr} {sl__law_is_journal : Array (Option Value)} {cd__law_is_journal : Value}
    {f__law_journal : Addr} {oc__law_journal kV__law_journal dc__law_journal pm__law_journal ct__law_journal : Value} {od__law_journal an__law_journal : Option Addr} {sl__law_journal : Array (Option Value)} {cd__law_journal : Value}
    {f__law_reads : Addr} {oc__law_reads kV__law_reads dc__law_reads pm__law_reads ct__law_reads : Value} {od__law_reads an__law_reads : Option Addr} {sl__law_reads : Array (Option Value)} {cd__law_reads : Value}
    {f__law_mixed : Addr} {oc__law_mixed kV__law_mixed dc__law_mixed pm__law_mixed ct__law_mixed : Value} {od__law_mixed an__law_mixed : Option Addr} {sl__law_mixed : Array (Option Value)} {cd__law_mixed : Value}
    {f__law_spec : Addr} {oc__law_spec kV__law_spec dc__law_spec pm__law_spec ct__law_spec : Value} {od__law_spec an__law_spec : Option Addr} {sl__law_spec : Array (Option Value)} {cd__law_spec : Value}
    {f__law_story : Addr} {oc__law_story kV__law_story dc__law_story pm__law_story ct__law_story : Value} {od__law_story an__law_story : Option Addr} {sl__law_story : Array (Option Value)} {cd__law_story : Value}
    {f__law_is_there : Addr} {oc__law_is_there kV__law_is_there dc__law_is_there pm__law_is_there ct__law_is_there : Value} {od__law_is_there an__law_is_there : Option Addr} {sl__law_is_there : Array (Option Value)} {cd__law_is_there : Value}
    {f__law_laid : Addr} {oc__law_laid kV__law_laid dc__law_laid pm__law_laid ct__law_laid : Value} {od__law_laid an__law_laid : Option Addr} {sl__law_laid : Array (Option Value)} {cd__law_laid : Value}
    {f__law_run_due : Addr} {oc__law_run_due kV__law_run_due dc__law_run_due pm__law_run_due ct__law_run_due : Value} {od__law_run_due an__law_run_due : Option Addr} {sl__law_run_due : Array (Option Value)} {cd__law_run_due : Value}
    {f__law_drawn_run : Addr} {oc__law_drawn_run kV__law_drawn_run dc__law_drawn_run pm__law_drawn_run ct__law_drawn_run : Value} {od__law_drawn_run an__law_drawn_run : Option Addr} {sl__law_drawn_run : Array (Option Value)} {cd__law_drawn_run : Value}
    {f__law_line : Addr} {oc__law_line kV__law_line dc__law_line pm__law_line ct__law_line : Value} {od__law_line an__law_line : Option Addr} {sl__law_line : Array (Option Value)} {cd__law_line : Value}
    {f__law_joined : Addr} {oc__law_joined kV__law_joined dc__law_joined pm__law_joined ct__law_joined : Value} {od__law_joined an__law_joined : Option Addr} {sl__law_joined : Array (Option Value)} {cd__law_joined : Value}
    {f__law_run_text : Addr} {oc__law_run_text kV__law_run_text dc__law_run_text pm__law_run_text ct__law_run_text : Value} {od__law_run_text an__law_run_text : Option Addr} {sl__law_run_text : Array (Option Value)} {cd__law_run_text : Value}
    {f__law_table_text : Addr} {oc__law_table_text kV__law_table_text dc__law_table_text pm__law_table_text ct__law_table_text : Value} {od__law_table_text an__law_table_text : Option Addr} {sl__law_table_text : Array (Option Value)} {cd__law_table_text : Value}
    {f__law_bent_text : Addr} {oc__law_bent_text kV__law_bent_text dc__law_bent_text pm__law_bent_text ct__law_bent_text : Value} {od__law_bent_text an__law_bent_text : Option Addr} {sl__law_bent_text : Array (Option Value)} {cd__law_bent_text : Value}
    {f__law_deep : Addr} {oc__law_deep kV__law_deep dc__law_deep pm__law_deep ct__law_deep : Value} {od__law_deep an__law_deep : Option Addr} {sl__law_deep : Array (Option Value)} {cd__law_deep : Value}
    {f__law_journal_due : Addr} {oc__law_journal_due kV__law_journal_due dc__law_journal_due pm__law_journal_due ct__law_journal_due : Value} {od__law_journal_due an__law_journal_due : Option Addr} {sl__law_journal_due : Array (Option Value)} {cd__law_journal_due : Value}
    {f__law_run_text_due : Addr} {oc__law_run_text_due kV__law_run_text_due dc__law_run_text_due pm__law_run_text_due ct__law_run_text_due : Value} {od__law_run_text_due an__law_run_text_due : Option Addr} {sl__law_run_text_due : Array (Option Value)} {cd__law_run_text_due : Value}
    {f__law_table_due : Addr} {oc__law_table_due kV__law_table_due dc__law_table_due pm__law_table_due ct__law_table_due : Value} {od__law_table_due an__law_table_due : Option Addr} {sl__law_table_due : Array (Option Value)} {cd__law_table_due : Value}
    {f__law_is : Addr} {oc__law_is kV__law_is dc__law_is pm__law_is ct__law_is : Value} {od__law_is an__law_is : Option Addr} {sl__law_is : Array (Option Value)} {cd__law_is : Value}
    {f__law_read : Addr} {oc__law_read kV__law_read dc__law_read pm__law_read ct__law_read : Value} {od__law_read an__law_read : Option Addr} {sl__law_read : Array (Option Value)} {cd__law_read : Value}
    {f__law_text_right : Addr} {oc__law_text_right kV__law_text_right dc__law_text_right pm__law_text_right ct__law_text_right : Value} {od__law_text_right an__law_text_right : Option Addr} {sl__law_text_right : Array (Option Value)}
    {f_law : Addr} {oc_law kV_law dc_law pm_law ct_law : Value} {od_law an_law : Option Addr} {sl_law : Array (Option Value)} {cd_law : Value}
    (X : K.In h) (G : h.Ns mainGlobals mg) (hfa : mg "law" = some (.ref fa)) (hT : h.get? Pt = some { cls := .none, data := .fields #[] })
    (t_isinstance : PySem.W.nsIn K mainGlobals "isinstance" = some none)
    (t_int : PySem.W.nsIn K mainGlobals "int" = some none)
    (t_bool : PySem.W.nsIn K mainGlobals "bool" = some none)
    (t_str : PySem.W.nsIn K mainGlobals "str" = some none)
    (t_tuple : PySem.W.nsIn K mainGlobals "tuple" = some none)
    (t_list : PySem.W.nsIn K mainGlobals "list" = some none)
    (t_dict : PySem.W.nsIn K mainGlobals "dict" = some none)
    (t_set : PySem.W.nsIn K mainGlobals "set" = some none)
    (t_len : PySem.W.nsIn K mainGlobals "len" = some none)
    (t_all : PySem.W.nsIn K mainGlobals "all" = some none)
    (t_max : PySem.W.nsIn K mainGlobals "max" = some none)
    (t_abs : PySem.W.nsIn K mainGlobals "abs" = some none)
    (t_range : PySem.W.nsIn K mainGlobals "range" = some none)
    (t_sorted : PySem.W.nsIn K mainGlobals "sorted" = some none)
    (t_enumerate : PySem.W.nsIn K mainGlobals "enumerate" = some none)
    (t_MOST_CELLS : PySem.W.nsIn K mainGlobals "MOST_CELLS" = some (some u_MOST_CELLS))
    (r_MOST_CELLS : RelV (.int 8) u_MOST_CELLS)
    (t_MOST_KINDS : PySem.W.nsIn K mainGlobals "MOST_KINDS" = some (some u_MOST_KINDS))
    (r_MOST_KINDS : RelV (.int 40) u_MOST_KINDS)
    (t_MOST_READS : PySem.W.nsIn K mainGlobals "MOST_READS" = some (some u_MOST_READS))
    (r_MOST_READS : RelV (.int 3) u_MOST_READS)
    (t_MOST_DEEDS : PySem.W.nsIn K mainGlobals "MOST_DEEDS" = some (some u_MOST_DEEDS))
    (r_MOST_DEEDS : RelV (.int 400) u_MOST_DEEDS)
    (t_MOST_STEPS : PySem.W.nsIn K mainGlobals "MOST_STEPS" = some (some u_MOST_STEPS))
    (r_MOST_STEPS : RelV (.int 400) u_MOST_STEPS)
    (t_MOST_FIGURES : PySem.W.nsIn K mainGlobals "MOST_FIGURES" = some (some u_MOST_FIGURES))
    (r_MOST_FIGURES : RelV (.int 9) u_MOST_FIGURES)
    (t_DO : PySem.W.nsIn K mainGlobals "DO" = some (some u_DO))
    (r_DO : RelV (.str "do") u_DO)
    (t_LAY : PySem.W.nsIn K mainGlobals "LAY" = some (some u_LAY))
    (r_LAY : RelV (.str "lay") u_LAY)
    (t_NOTHING : PySem.W.nsIn K mainGlobals "NOTHING" = some (some u_NOTHING))
    (r_NOTHING : RelV (.str "-") u_NOTHING)
    (t_FIGURES : PySem.W.nsIn K mainGlobals "FIGURES" = some (some u_FIGURES))
    (r_FIGURES : RelV (.str "0123456789") u_FIGURES)
    (g_bt : PySem.W.nsIn K mainGlobals "BadText" = some (some (.ref bt)))
    (g_bb : PySem.W.nsIn K mainGlobals "BadTable" = some (some (.ref bb)))
    (g_nj : PySem.W.nsIn K mainGlobals "NoJournal" = some (some (.ref nj)))
    (g_nr : PySem.W.nsIn K mainGlobals "NoRun" = some (some (.ref nr)))
    (g_pe : PySem.W.nsIn K mainGlobals "PlateError" = some (some (.ref pe)))
    (g_tb : PySem.W.nsIn K mainGlobals "Table" = some (some (.ref tb)))
    (g_hs : PySem.W.nsIn K mainGlobals "History" = some (some (.ref hs)))
    (x_bt : K.lookup bt = some (excClassObj nm_bt q_bt bt N_bt bs_bt bm_bt true sn_bt sub_bt ab_bt col_bt dd_bt m0_bt m1_bt m2_bt m3_bt m5_bt "ValueError.__new__"))
    (rv_bt : PySem.HandSPX.refsVE bm_bt = true)
    (ga_bt : PySem.W.findIn K (.ref bt) "__getattribute__" = some (some (.builtin "BaseException.__getattribute__")))
    (gg_bt : PySem.W.findIn K (.ref bt) "__getattr__" = some none)
    (x_bb : K.lookup bb = some (excClassObj nm_bb q_bb bb N_bb bs_bb bm_bb true sn_bb sub_bb ab_bb col_bb dd_bb m0_bb m1_bb m2_bb m3_bb m5_bb "ValueError.__new__"))
    (rv_bb : PySem.HandSPX.refsVE bm_bb = true)
    (ga_bb : PySem.W.findIn K (.ref bb) "__getattribute__" = some (some (.builtin "BaseException.__getattribute__")))
    (gg_bb : PySem.W.findIn K (.ref bb) "__getattr__" = some none)
    (sa_bt : PySem.W.findIn K (.ref bt) "__setattr__" = some (some (.builtin "object.__setattr__")))
    (hd_bt : PySem.W.hasDictIn K bt = true)
    (sa_bb : PySem.W.findIn K (.ref bb) "__setattr__" = some (some (.builtin "object.__setattr__")))
    (hd_bb : PySem.W.hasDictIn K bb = true)
    (sa_tb : PySem.W.findIn K (.ref tb) "__setattr__" = some (some (.builtin "object.__setattr__")))
    (hd_tb : PySem.W.hasDictIn K tb = true)
    (sa_hs : PySem.W.findIn K (.ref hs) "__setattr__" = some (some (.builtin "object.__setattr__")))
    (hd_hs : PySem.W.hasDictIn K hs = true)
    (ex_bt : PySem.W.subIn K (.ref bt) (.type "BaseException") = some true)
    (ty_bt : PySem.W.typeIn K (.ref bt) = some (.type "type"))
    (ic_bt : PySem.W.isClsIn K bt = true)
    (ex_bb : PySem.W.subIn K (.ref bb) (.type "BaseException") = some true)
    (ty_bb : PySem.W.typeIn K (.ref bb) = some (.type "type"))
    (ic_bb : PySem.W.isClsIn K bb = true)
    (ex_nj : PySem.W.subIn K (.ref nj) (.type "BaseException") = some true)
    (ty_nj : PySem.W.typeIn K (.ref nj) = some (.type "type"))
    (ic_nj : PySem.W.isClsIn K nj = true)
    (ex_nr : PySem.W.subIn K (.ref nr) (.type "BaseException") = some true)
    (ty_nr : PySem.W.typeIn K (.ref nr) = some (.type "type"))
    (ic_nr : PySem.W.isClsIn K nr = true)
    (kp_bt : PySem.W.keepIn K (.ref bt) = true)
    (kp_bb : PySem.W.keepIn K (.ref bb) = true)
    (kp_nj : PySem.W.keepIn K (.ref nj) = true)
    (kp_nr : PySem.W.keepIn K (.ref nr) = true)
    (kp_tb : PySem.W.keepIn K (.ref tb) = true)
    (kp_hs : PySem.W.keepIn K (.ref hs) = true)
    (n_bt_line : PySem.W.findIn K (.ref bt) "line" = some none)
    (n_bb_part : PySem.W.findIn K (.ref bb) "part" = some none)
    (n_bb_at : PySem.W.findIn K (.ref bb) "at" = some none)
    (n_tb_cells : PySem.W.findIn K (.ref tb) "cells" = some none)
    (n_tb_kinds : PySem.W.findIn K (.ref tb) "kinds" = some none)
    (n_hs_cells_written : PySem.W.findIn K (.ref hs) "cells_written" = some none)
    (n_hs_read : PySem.W.findIn K (.ref hs) "read" = some none)
    (n_hs_last : PySem.W.findIn K (.ref hs) "last" = some none)
    (pg_tb : PySem.W.plainGet K tb Str.empty = true)
    (po_tb : PySem.W.plainOver K tb = true)
    (mk_tb : PySem.W.makesIn K tb = true)
    (pg_hs : PySem.W.plainGet K hs Str.empty = true)
    (po_hs : PySem.W.plainOver K hs = true)
    (mk_hs : PySem.W.makesIn K hs = true)
    (ha_tb : PySem.W.findIn K (.ref tb) "__class__" = some (some (.builtin "object.__class__")))
    (hn_tb : PySem.W.specialIn K (.builtin "object.__class__") "__get__" = some (some (.builtin "getset_descriptor.__get__")))
    (tk_tb : PySem.W.takesIn K (.builtin "object.__class__") = some true)
    (mr_tb : PySem.W.mroIn K tb (.type "object") = some true)
    (hst : PySem.W.kitOne K (.ref tb) (.type "str") = some false)
    (s_bt_bt : PySem.W.subIn K (.ref bt) (.ref bt) = some true)
    (s_bb_bt : PySem.W.subIn K (.ref bb) (.ref bt) = some false)
    (s_bb_bb : PySem.W.subIn K (.ref bb) (.ref bb) = some true)
    (s_nj_bt : PySem.W.subIn K (.ref nj) (.ref bt) = some false)
    (s_nj_bb : PySem.W.subIn K (.ref nj) (.ref bb) = some false)
    (s_nj_nj : PySem.W.subIn K (.ref nj) (.ref nj) = some true)
    (s_nr_bt : PySem.W.subIn K (.ref nr) (.ref bt) = some false)
    (s_nr_bb : PySem.W.subIn K (.ref nr) (.ref bb) = some false)
    (s_nr_nj : PySem.W.subIn K (.ref nr) (.ref nj) = some false)
    (s_nr_nr : PySem.W.subIn K (.ref nr) (.ref nr) = some true)
    (eb : ExcBaseFacts "ValueError" nid iid bmB)
    (ei_nj : PySem.W.excIn K nj bmB nid = true)
    (ei_nr : PySem.W.excIn K nr bmB nid = true)
    (a_is_integer : PySem.W.nsIn K mainGlobals "is_integer" = some (some (.ref f_is_integer)))
    (l_is_integer : K.lookup f_is_integer = some ⟨oc_is_integer, od_is_integer, .func (PySem.W.fnOf "is_integer" "is_integer" (defArgs s_is_integer) (defBody s_is_integer) (defScope s_is_integer) .none kV_is_integer dc_is_integer pm_is_integer an_is_integer (cd_is_integer) ct_is_integer), sl_is_integer⟩)
    (c_is_integer : PySem.W.codeIn K (cd_is_integer) "is_integer" = true)
    (k_is_integer : PySem.W.keepIn K (.ref f_is_integer) = true)
    (a_is_within : PySem.W.nsIn K mainGlobals "is_within" = some (some (.ref f_is_within)))
    (l_is_within : K.lookup f_is_within = some ⟨oc_is_within, od_is_within, .func (PySem.W.fnOf "is_within" "is_within" (defArgs s_is_within) (defBody s_is_within) (defScope s_is_within) .none kV_is_within dc_is_within pm_is_within an_is_within (cd_is_within) ct_is_within), sl_is_within⟩)
    (c_is_within : PySem.W.codeIn K (cd_is_within) "is_within" = true)
    (k_is_within : PySem.W.keepIn K (.ref f_is_within) = true)
    (a_is_pair : PySem.W.nsIn K mainGlobals "is_pair" = some (some (.ref f_is_pair)))
    (l_is_pair : K.lookup f_is_pair = some ⟨oc_is_pair, od_is_pair, .func (PySem.W.fnOf "is_pair" "is_pair" (defArgs s_is_pair) (defBody s_is_pair) (defScope s_is_pair) .none kV_is_pair dc_is_pair pm_is_pair an_is_pair (cd_is_pair) ct_is_pair), sl_is_pair⟩)
    (c_is_pair : PySem.W.codeIn K (cd_is_pair) "is_pair" = true)
    (k_is_pair : PySem.W.keepIn K (.ref f_is_pair) = true)
    (a_is_lot : PySem.W.nsIn K mainGlobals "is_lot" = some (some (.ref f_is_lot)))
    (l_is_lot : K.lookup f_is_lot = some ⟨oc_is_lot, od_is_lot, .func (PySem.W.fnOf "is_lot" "is_lot" (defArgs s_is_lot) (defBody s_is_lot) (defScope s_is_lot) .none kV_is_lot dc_is_lot pm_is_lot an_is_lot (cd_is_lot) ct_is_lot), sl_is_lot⟩)
    (c_is_lot : PySem.W.codeIn K (cd_is_lot) "is_lot" = true)
    (k_is_lot : PySem.W.keepIn K (.ref f_is_lot) = true)
    (a_is_kind : PySem.W.nsIn K mainGlobals "is_kind" = some (some (.ref f_is_kind)))
    (l_is_kind : K.lookup f_is_kind = some ⟨oc_is_kind, od_is_kind, .func (PySem.W.fnOf "is_kind" "is_kind" (defArgs s_is_kind) (defBody s_is_kind) (defScope s_is_kind) .none kV_is_kind dc_is_kind pm_is_kind an_is_kind (cd_is_kind) ct_is_kind), sl_is_kind⟩)
    (c_is_kind : PySem.W.codeIn K (cd_is_kind) "is_kind" = true)
    (k_is_kind : PySem.W.keepIn K (.ref f_is_kind) = true)
    (a_number_of : PySem.W.nsIn K mainGlobals "number_of" = some (some (.ref f_number_of)))
    (l_number_of : K.lookup f_number_of = some ⟨oc_number_of, od_number_of, .func (PySem.W.fnOf "number_of" "number_of" (defArgs s_number_of) (defBody s_number_of) (defScope s_number_of) .none kV_number_of dc_number_of pm_number_of an_number_of (cd_number_of) ct_number_of), sl_number_of⟩)
    (c_number_of : PySem.W.codeIn K (cd_number_of) "number_of" = true)
    (k_number_of : PySem.W.keepIn K (.ref f_number_of) = true)
    (a_numbers_of : PySem.W.nsIn K mainGlobals "numbers_of" = some (some (.ref f_numbers_of)))
    (l_numbers_of : K.lookup f_numbers_of = some ⟨oc_numbers_of, od_numbers_of, .func (PySem.W.fnOf "numbers_of" "numbers_of" (defArgs s_numbers_of) (defBody s_numbers_of) (defScope s_numbers_of) .none kV_numbers_of dc_numbers_of pm_numbers_of an_numbers_of (cd_numbers_of) ct_numbers_of), sl_numbers_of⟩)
    (c_numbers_of : PySem.W.codeIn K (cd_numbers_of) "numbers_of" = true)
    (k_numbers_of : PySem.W.keepIn K (.ref f_numbers_of) = true)
    (a__law_number_of : PySem.W.nsIn K mainGlobals "_law_number_of" = some (some (.ref f__law_number_of)))
    (l__law_number_of : K.lookup f__law_number_of = some ⟨oc__law_number_of, od__law_number_of, .func (PySem.W.fnOf "_law_number_of" "_law_number_of" (defArgs s__law_number_of) (defBody s__law_number_of) (defScope s__law_number_of) .none kV__law_number_of dc__law_number_of pm__law_number_of an__law_number_of (cd__law_number_of) ct__law_number_of), sl__law_number_of⟩)
    (c__law_number_of : PySem.W.codeIn K (cd__law_number_of) "_law_number_of" = true)
    (k__law_number_of : PySem.W.keepIn K (.ref f__law_number_of) = true)
    (a__law_numbers_of : PySem.W.nsIn K mainGlobals "_law_numbers_of" = some (some (.ref f__law_numbers_of)))
    (l__law_numbers_of : K.lookup f__law_numbers_of = some ⟨oc__law_numbers_of, od__law_numbers_of, .func (PySem.W.fnOf "_law_numbers_of" "_law_numbers_of" (defArgs s__law_numbers_of) (defBody s__law_numbers_of) (defScope s__law_numbers_of) .none kV__law_numbers_of dc__law_numbers_of pm__law_numbers_of an__law_numbers_of (cd__law_numbers_of) ct__law_numbers_of), sl__law_numbers_of⟩)
    (c__law_numbers_of : PySem.W.codeIn K (cd__law_numbers_of) "_law_numbers_of" = true)
    (k__law_numbers_of : PySem.W.keepIn K (.ref f__law_numbers_of) = true)
    (a_cells_of : PySem.W.nsIn K mainGlobals "cells_of" = some (some (.ref f_cells_of)))
    (l_cells_of : K.lookup f_cells_of = some ⟨oc_cells_of, od_cells_of, .func (PySem.W.fnOf "cells_of" "cells_of" (defArgs s_cells_of) (defBody s_cells_of) (defScope s_cells_of) .none kV_cells_of dc_cells_of pm_cells_of an_cells_of (cd_cells_of) ct_cells_of), sl_cells_of⟩)
    (c_cells_of : PySem.W.codeIn K (cd_cells_of) "cells_of" = true)
    (k_cells_of : PySem.W.keepIn K (.ref f_cells_of) = true)
    (a_kind_of : PySem.W.nsIn K mainGlobals "kind_of" = some (some (.ref f_kind_of)))
    (l_kind_of : K.lookup f_kind_of = some ⟨oc_kind_of, od_kind_of, .func (PySem.W.fnOf "kind_of" "kind_of" (defArgs s_kind_of) (defBody s_kind_of) (defScope s_kind_of) .none kV_kind_of dc_kind_of pm_kind_of an_kind_of (cd_kind_of) ct_kind_of), sl_kind_of⟩)
    (c_kind_of : PySem.W.codeIn K (cd_kind_of) "kind_of" = true)
    (k_kind_of : PySem.W.keepIn K (.ref f_kind_of) = true)
    (a_BadText : PySem.W.findIn K (.ref bt) "__init__" = some (some (.ref f_BadText)))
    (l_BadText : K.lookup f_BadText = some ⟨oc_BadText, od_BadText, .func (PySem.W.fnOf "__init__" "BadText.__init__" (defArgs s_BadText___init__) (defBody s_BadText___init__) (defScope s_BadText___init__) .none kV_BadText dc_BadText pm_BadText an_BadText cd_BadText ct_BadText), sl_BadText⟩)
    (c_BadText : PySem.W.codeIn K cd_BadText "BadText.__init__" = true)
    (i_BadText : PySem.W.typeIn K (.ref f_BadText) = some (.type "function"))
    (k_BadText : PySem.W.keepIn K (.ref f_BadText) = true)
    (a_BadTable : PySem.W.findIn K (.ref bb) "__init__" = some (some (.ref f_BadTable)))
    (l_BadTable : K.lookup f_BadTable = some ⟨oc_BadTable, od_BadTable, .func (PySem.W.fnOf "__init__" "BadTable.__init__" (defArgs s_BadTable___init__) (defBody s_BadTable___init__) (defScope s_BadTable___init__) .none kV_BadTable dc_BadTable pm_BadTable an_BadTable cd_BadTable ct_BadTable), sl_BadTable⟩)
    (c_BadTable : PySem.W.codeIn K cd_BadTable "BadTable.__init__" = true)
    (i_BadTable : PySem.W.typeIn K (.ref f_BadTable) = some (.type "function"))
    (k_BadTable : PySem.W.keepIn K (.ref f_BadTable) = true)
    (a_Table : PySem.W.findIn K (.ref tb) "__init__" = some (some (.ref f_Table)))
    (l_Table : K.lookup f_Table = some ⟨oc_Table, od_Table, .func (PySem.W.fnOf "__init__" "Table.__init__" (defArgs s_Table___init__) (defBody s_Table___init__) (defScope s_Table___init__) .none kV_Table dc_Table pm_Table an_Table cd_Table ct_Table), sl_Table⟩)
    (c_Table : PySem.W.codeIn K cd_Table "Table.__init__" = true)
    (i_Table : PySem.W.isFn K (.ref f_Table) = true)
    (k_Table : PySem.W.keepIn K (.ref f_Table) = true)
    (a_is_journal : PySem.W.nsIn K mainGlobals "is_journal" = some (some (.ref f_is_journal)))
    (l_is_journal : K.lookup f_is_journal = some ⟨oc_is_journal, od_is_journal, .func (PySem.W.fnOf "is_journal" "is_journal" (defArgs s_is_journal) (defBody s_is_journal) (defScope s_is_journal) .none kV_is_journal dc_is_journal pm_is_journal an_is_journal (cd_is_journal) ct_is_journal), sl_is_journal⟩)
    (c_is_journal : PySem.W.codeIn K (cd_is_journal) "is_journal" = true)
    (k_is_journal : PySem.W.keepIn K (.ref f_is_journal) = true)
    (a_begin_of : PySem.W.nsIn K mainGlobals "begin_of" = some (some (.ref f_begin_of)))
    (l_begin_of : K.lookup f_begin_of = some ⟨oc_begin_of, od_begin_of, .func (PySem.W.fnOf "begin_of" "begin_of" (defArgs s_begin_of) (defBody s_begin_of) (defScope s_begin_of) .none kV_begin_of dc_begin_of pm_begin_of an_begin_of (cd_begin_of) ct_begin_of), sl_begin_of⟩)
    (c_begin_of : PySem.W.codeIn K (cd_begin_of) "begin_of" = true)
    (k_begin_of : PySem.W.keepIn K (.ref f_begin_of) = true)
    (a_all_fresh : PySem.W.nsIn K mainGlobals "all_fresh" = some (some (.ref f_all_fresh)))
    (l_all_fresh : K.lookup f_all_fresh = some ⟨oc_all_fresh, od_all_fresh, .func (PySem.W.fnOf "all_fresh" "all_fresh" (defArgs s_all_fresh) (defBody s_all_fresh) (defScope s_all_fresh) .none kV_all_fresh dc_all_fresh pm_all_fresh an_all_fresh (cd_all_fresh) ct_all_fresh), sl_all_fresh⟩)
    (c_all_fresh : PySem.W.codeIn K (cd_all_fresh) "all_fresh" = true)
    (k_all_fresh : PySem.W.keepIn K (.ref f_all_fresh) = true)
    (a_History : PySem.W.findIn K (.ref hs) "__init__" = some (some (.ref f_History)))
    (l_History : K.lookup f_History = some ⟨oc_History, od_History, .func (PySem.W.fnOf "__init__" "History.__init__" (defArgs s_History___init__) (defBody s_History___init__) (defScope s_History___init__) .none kV_History dc_History pm_History an_History cd_History ct_History), sl_History⟩)
    (c_History : PySem.W.codeIn K cd_History "History.__init__" = true)
    (i_History : PySem.W.isFn K (.ref f_History) = true)
    (k_History : PySem.W.keepIn K (.ref f_History) = true)
    (a_closure : PySem.W.nsIn K mainGlobals "closure" = some (some (.ref f_closure)))
    (l_closure : K.lookup f_closure = some ⟨oc_closure, od_closure, .func (PySem.W.fnOf "closure" "closure" (defArgs s_closure) (defBody s_closure) (defScope s_closure) .none kV_closure dc_closure pm_closure an_closure (cd_closure) ct_closure), sl_closure⟩)
    (c_closure : PySem.W.codeIn K (cd_closure) "closure" = true)
    (k_closure : PySem.W.keepIn K (.ref f_closure) = true)
    (a_is_all_there : PySem.W.nsIn K mainGlobals "is_all_there" = some (some (.ref f_is_all_there)))
    (l_is_all_there : K.lookup f_is_all_there = some ⟨oc_is_all_there, od_is_all_there, .func (PySem.W.fnOf "is_all_there" "is_all_there" (defArgs s_is_all_there) (defBody s_is_all_there) (defScope s_is_all_there) .none kV_is_all_there dc_is_all_there pm_is_all_there an_is_all_there (cd_is_all_there) ct_is_all_there), sl_is_all_there⟩)
    (c_is_all_there : PySem.W.codeIn K (cd_is_all_there) "is_all_there" = true)
    (k_is_all_there : PySem.W.keepIn K (.ref f_is_all_there) = true)
    (a_laid : PySem.W.nsIn K mainGlobals "laid" = some (some (.ref f_laid)))
    (l_laid : K.lookup f_laid = some ⟨oc_laid, od_laid, .func (PySem.W.fnOf "laid" "laid" (defArgs s_laid) (defBody s_laid) (defScope s_laid) .none kV_laid dc_laid pm_laid an_laid (cd_laid) ct_laid), sl_laid⟩)
    (c_laid : PySem.W.codeIn K (cd_laid) "laid" = true)
    (k_laid : PySem.W.keepIn K (.ref f_laid) = true)
    (a_is_step : PySem.W.nsIn K mainGlobals "is_step" = some (some (.ref f_is_step)))
    (l_is_step : K.lookup f_is_step = some ⟨oc_is_step, od_is_step, .func (PySem.W.fnOf "is_step" "is_step" (defArgs s_is_step) (defBody s_is_step) (defScope s_is_step) .none kV_is_step dc_is_step pm_is_step an_is_step (cd_is_step) ct_is_step), sl_is_step⟩)
    (c_is_step : PySem.W.codeIn K (cd_is_step) "is_step" = true)
    (k_is_step : PySem.W.keepIn K (.ref f_is_step) = true)
    (a_led_by : PySem.W.nsIn K mainGlobals "led_by" = some (some (.ref f_led_by)))
    (l_led_by : K.lookup f_led_by = some ⟨oc_led_by, od_led_by, .func (PySem.W.fnOf "led_by" "led_by" (defArgs s_led_by) (defBody s_led_by) (defScope s_led_by) .none kV_led_by dc_led_by pm_led_by an_led_by (cd_led_by) ct_led_by), sl_led_by⟩)
    (c_led_by : PySem.W.codeIn K (cd_led_by) "led_by" = true)
    (k_led_by : PySem.W.keepIn K (.ref f_led_by) = true)
    (a_behind_run : PySem.W.nsIn K mainGlobals "behind_run" = some (some (.ref f_behind_run)))
    (l_behind_run : K.lookup f_behind_run = some ⟨oc_behind_run, od_behind_run, .func (PySem.W.fnOf "behind_run" "behind_run" (defArgs s_behind_run) (defBody s_behind_run) (defScope s_behind_run) .none kV_behind_run dc_behind_run pm_behind_run an_behind_run (cd_behind_run) ct_behind_run), sl_behind_run⟩)
    (c_behind_run : PySem.W.codeIn K (cd_behind_run) "behind_run" = true)
    (k_behind_run : PySem.W.keepIn K (.ref f_behind_run) = true)
    (a_is_run : PySem.W.nsIn K mainGlobals "is_run" = some (some (.ref f_is_run)))
    (l_is_run : K.lookup f_is_run = some ⟨oc_is_run, od_is_run, .func (PySem.W.fnOf "is_run" "is_run" (defArgs s_is_run) (defBody s_is_run) (defScope s_is_run) .none kV_is_run dc_is_run pm_is_run an_is_run (cd_is_run) ct_is_run), sl_is_run⟩)
    (c_is_run : PySem.W.codeIn K (cd_is_run) "is_run" = true)
    (k_is_run : PySem.W.keepIn K (.ref f_is_run) = true)
    (a_check_string : PySem.W.nsIn K mainGlobals "check_string" = some (some (.ref f_check_string)))
    (l_check_string : K.lookup f_check_string = some ⟨oc_check_string, od_check_string, .func (PySem.W.fnOf "check_string" "check_string" (defArgs s_check_string) (defBody s_check_string) (defScope s_check_string) .none kV_check_string dc_check_string pm_check_string an_check_string (cd_check_string) ct_check_string), sl_check_string⟩)
    (c_check_string : PySem.W.codeIn K (cd_check_string) "check_string" = true)
    (k_check_string : PySem.W.keepIn K (.ref f_check_string) = true)
    (a_words_of : PySem.W.nsIn K mainGlobals "words_of" = some (some (.ref f_words_of)))
    (l_words_of : K.lookup f_words_of = some ⟨oc_words_of, od_words_of, .func (PySem.W.fnOf "words_of" "words_of" (defArgs s_words_of) (defBody s_words_of) (defScope s_words_of) .none kV_words_of dc_words_of pm_words_of an_words_of (cd_words_of) ct_words_of), sl_words_of⟩)
    (c_words_of : PySem.W.codeIn K (cd_words_of) "words_of" = true)
    (k_words_of : PySem.W.keepIn K (.ref f_words_of) = true)
    (a_read_journal : PySem.W.nsIn K mainGlobals "read_journal" = some (some (.ref f_read_journal)))
    (l_read_journal : K.lookup f_read_journal = some ⟨oc_read_journal, od_read_journal, .func (PySem.W.fnOf "read_journal" "read_journal" (defArgs s_read_journal) (defBody s_read_journal) (defScope s_read_journal) .none kV_read_journal dc_read_journal pm_read_journal an_read_journal (cd_read_journal) ct_read_journal), sl_read_journal⟩)
    (c_read_journal : PySem.W.codeIn K (cd_read_journal) "read_journal" = true)
    (k_read_journal : PySem.W.keepIn K (.ref f_read_journal) = true)
    (a_step_of : PySem.W.nsIn K mainGlobals "step_of" = some (some (.ref f_step_of)))
    (l_step_of : K.lookup f_step_of = some ⟨oc_step_of, od_step_of, .func (PySem.W.fnOf "step_of" "step_of" (defArgs s_step_of) (defBody s_step_of) (defScope s_step_of) .none kV_step_of dc_step_of pm_step_of an_step_of (cd_step_of) ct_step_of), sl_step_of⟩)
    (c_step_of : PySem.W.codeIn K (cd_step_of) "step_of" = true)
    (k_step_of : PySem.W.keepIn K (.ref f_step_of) = true)
    (a_read_run : PySem.W.nsIn K mainGlobals "read_run" = some (some (.ref f_read_run)))
    (l_read_run : K.lookup f_read_run = some ⟨oc_read_run, od_read_run, .func (PySem.W.fnOf "read_run" "read_run" (defArgs s_read_run) (defBody s_read_run) (defScope s_read_run) .none kV_read_run dc_read_run pm_read_run an_read_run (cd_read_run) ct_read_run), sl_read_run⟩)
    (c_read_run : PySem.W.codeIn K (cd_read_run) "read_run" = true)
    (k_read_run : PySem.W.keepIn K (.ref f_read_run) = true)
    (a_read_table : PySem.W.nsIn K mainGlobals "read_table" = some (some (.ref f_read_table)))
    (l_read_table : K.lookup f_read_table = some ⟨oc_read_table, od_read_table, .func (PySem.W.fnOf "read_table" "read_table" (defArgs s_read_table) (defBody s_read_table) (defScope s_read_table) .none kV_read_table dc_read_table pm_read_table an_read_table (cd_read_table) ct_read_table), sl_read_table⟩)
    (c_read_table : PySem.W.codeIn K (cd_read_table) "read_table" = true)
    (k_read_table : PySem.W.keepIn K (.ref f_read_table) = true)
    (a__law_draw : PySem.W.nsIn K mainGlobals "_law_draw" = some (some (.ref f__law_draw)))
    (l__law_draw : K.lookup f__law_draw = some ⟨oc__law_draw, od__law_draw, .func (PySem.W.fnOf "_law_draw" "_law_draw" (defArgs s__law_draw) (defBody s__law_draw) (defScope s__law_draw) .none kV__law_draw dc__law_draw pm__law_draw an__law_draw (cd__law_draw) ct__law_draw), sl__law_draw⟩)
    (c__law_draw : PySem.W.codeIn K (cd__law_draw) "_law_draw" = true)
    (k__law_draw : PySem.W.keepIn K (.ref f__law_draw) = true)
    (a__law_pool : PySem.W.nsIn K mainGlobals "_law_pool" = some (some (.ref f__law_pool)))
    (l__law_pool : K.lookup f__law_pool = some ⟨oc__law_pool, od__law_pool, .func (PySem.W.fnOf "_law_pool" "_law_pool" (defArgs s__law_pool) (defBody s__law_pool) (defScope s__law_pool) .none kV__law_pool dc__law_pool pm__law_pool an__law_pool (cd__law_pool) ct__law_pool), sl__law_pool⟩)
    (c__law_pool : PySem.W.codeIn K (cd__law_pool) "_law_pool" = true)
    (k__law_pool : PySem.W.keepIn K (.ref f__law_pool) = true)
    (a__law_pick : PySem.W.nsIn K mainGlobals "_law_pick" = some (some (.ref f__law_pick)))
    (l__law_pick : K.lookup f__law_pick = some ⟨oc__law_pick, od__law_pick, .func (PySem.W.fnOf "_law_pick" "_law_pick" (defArgs s__law_pick) (defBody s__law_pick) (defScope s__law_pick) .none kV__law_pick dc__law_pick pm__law_pick an__law_pick (cd__law_pick) ct__law_pick), sl__law_pick⟩)
    (c__law_pick : PySem.W.codeIn K (cd__law_pick) "_law_pick" = true)
    (k__law_pick : PySem.W.keepIn K (.ref f__law_pick) = true)
    (a__law_is_number : PySem.W.nsIn K mainGlobals "_law_is_number" = some (some (.ref f__law_is_number)))
    (l__law_is_number : K.lookup f__law_is_number = some ⟨oc__law_is_number, od__law_is_number, .func (PySem.W.fnOf "_law_is_number" "_law_is_number" (defArgs s__law_is_number) (defBody s__law_is_number) (defScope s__law_is_number) .none kV__law_is_number dc__law_is_number pm__law_is_number an__law_is_number (cd__law_is_number) ct__law_is_number), sl__law_is_number⟩)
    (c__law_is_number : PySem.W.codeIn K (cd__law_is_number) "_law_is_number" = true)
    (k__law_is_number : PySem.W.keepIn K (.ref f__law_is_number) = true)
    (a__law_fresh : PySem.W.nsIn K mainGlobals "_law_fresh" = some (some (.ref f__law_fresh)))
    (l__law_fresh : K.lookup f__law_fresh = some ⟨oc__law_fresh, od__law_fresh, .func (PySem.W.fnOf "_law_fresh" "_law_fresh" (defArgs s__law_fresh) (defBody s__law_fresh) (defScope s__law_fresh) .none kV__law_fresh dc__law_fresh pm__law_fresh an__law_fresh (cd__law_fresh) ct__law_fresh), sl__law_fresh⟩)
    (c__law_fresh : PySem.W.codeIn K (cd__law_fresh) "_law_fresh" = true)
    (k__law_fresh : PySem.W.keepIn K (.ref f__law_fresh) = true)
    (a__law_made : PySem.W.nsIn K mainGlobals "_law_made" = some (some (.ref f__law_made)))
    (l__law_made : K.lookup f__law_made = some ⟨oc__law_made, od__law_made, .func (PySem.W.fnOf "_law_made" "_law_made" (defArgs s__law_made) (defBody s__law_made) (defScope s__law_made) .none kV__law_made dc__law_made pm__law_made an__law_made (cd__law_made) ct__law_made), sl__law_made⟩)
    (c__law_made : PySem.W.codeIn K (cd__law_made) "_law_made" = true)
    (k__law_made : PySem.W.keepIn K (.ref f__law_made) = true)
    (a__law_is_journal : PySem.W.nsIn K mainGlobals "_law_is_journal" = some (some (.ref f__law_is_journal)))
    (l__law_is_journal : K.lookup f__law_is_journal = some ⟨oc__law_is_journal, od__law_is_journal, .func (PySem.W.fnOf "_law_is_journal" "_law_is_journal" (defArgs s__law_is_journal) (defBody s__law_is_journal) (defScope s__law_is_journal) .none kV__law_is_journal dc__law_is_journal pm__law_is_journal an__law_is_journal (cd__law_is_journal) ct__law_is_journal), sl__law_is_journal⟩)
    (c__law_is_journal : PySem.W.codeIn K (cd__law_is_journal) "_law_is_journal" = true)
    (k__law_is_journal : PySem.W.keepIn K (.ref f__law_is_journal) = true)
    (a__law_journal : PySem.W.nsIn K mainGlobals "_law_journal" = some (some (.ref f__law_journal)))
    (l__law_journal : K.lookup f__law_journal = some ⟨oc__law_journal, od__law_journal, .func (PySem.W.fnOf "_law_journal" "_law_journal" (defArgs s__law_journal) (defBody s__law_journal) (defScope s__law_journal) .none kV__law_journal dc__law_journal pm__law_journal an__law_journal (cd__law_journal) ct__law_journal), sl__law_journal⟩)
    (c__law_journal : PySem.W.codeIn K (cd__law_journal) "_law_journal" = true)
    (k__law_journal : PySem.W.keepIn K (.ref f__law_journal) = true)
    (a__law_reads : PySem.W.nsIn K mainGlobals "_law_reads" = some (some (.ref f__law_reads)))
    (l__law_reads : K.lookup f__law_reads = some ⟨oc__law_reads, od__law_reads, .func (PySem.W.fnOf "_law_reads" "_law_reads" (defArgs s__law_reads) (defBody s__law_reads) (defScope s__law_reads) .none kV__law_reads dc__law_reads pm__law_reads an__law_reads (cd__law_reads) ct__law_reads), sl__law_reads⟩)
    (c__law_reads : PySem.W.codeIn K (cd__law_reads) "_law_reads" = true)
    (k__law_reads : PySem.W.keepIn K (.ref f__law_reads) = true)
    (a__law_mixed : PySem.W.nsIn K mainGlobals "_law_mixed" = some (some (.ref f__law_mixed)))
    (l__law_mixed : K.lookup f__law_mixed = some ⟨oc__law_mixed, od__law_mixed, .func (PySem.W.fnOf "_law_mixed" "_law_mixed" (defArgs s__law_mixed) (defBody s__law_mixed) (defScope s__law_mixed) .none kV__law_mixed dc__law_mixed pm__law_mixed an__law_mixed (cd__law_mixed) ct__law_mixed), sl__law_mixed⟩)
    (c__law_mixed : PySem.W.codeIn K (cd__law_mixed) "_law_mixed" = true)
    (k__law_mixed : PySem.W.keepIn K (.ref f__law_mixed) = true)
    (a__law_spec : PySem.W.nsIn K mainGlobals "_law_spec" = some (some (.ref f__law_spec)))
    (l__law_spec : K.lookup f__law_spec = some ⟨oc__law_spec, od__law_spec, .func (PySem.W.fnOf "_law_spec" "_law_spec" (defArgs s__law_spec) (defBody s__law_spec) (defScope s__law_spec) .none kV__law_spec dc__law_spec pm__law_spec an__law_spec (cd__law_spec) ct__law_spec), sl__law_spec⟩)
    (c__law_spec : PySem.W.codeIn K (cd__law_spec) "_law_spec" = true)
    (k__law_spec : PySem.W.keepIn K (.ref f__law_spec) = true)
    (a__law_story : PySem.W.nsIn K mainGlobals "_law_story" = some (some (.ref f__law_story)))
    (l__law_story : K.lookup f__law_story = some ⟨oc__law_story, od__law_story, .func (PySem.W.fnOf "_law_story" "_law_story" (defArgs s__law_story) (defBody s__law_story) (defScope s__law_story) .none kV__law_story dc__law_story pm__law_story an__law_story (cd__law_story) ct__law_story), sl__law_story⟩)
    (c__law_story : PySem.W.codeIn K (cd__law_story) "_law_story" = true)
    (k__law_story : PySem.W.keepIn K (.ref f__law_story) = true)
    (a__law_is_there : PySem.W.nsIn K mainGlobals "_law_is_there" = some (some (.ref f__law_is_there)))
    (l__law_is_there : K.lookup f__law_is_there = some ⟨oc__law_is_there, od__law_is_there, .func (PySem.W.fnOf "_law_is_there" "_law_is_there" (defArgs s__law_is_there) (defBody s__law_is_there) (defScope s__law_is_there) .none kV__law_is_there dc__law_is_there pm__law_is_there an__law_is_there (cd__law_is_there) ct__law_is_there), sl__law_is_there⟩)
    (c__law_is_there : PySem.W.codeIn K (cd__law_is_there) "_law_is_there" = true)
    (k__law_is_there : PySem.W.keepIn K (.ref f__law_is_there) = true)
    (a__law_laid : PySem.W.nsIn K mainGlobals "_law_laid" = some (some (.ref f__law_laid)))
    (l__law_laid : K.lookup f__law_laid = some ⟨oc__law_laid, od__law_laid, .func (PySem.W.fnOf "_law_laid" "_law_laid" (defArgs s__law_laid) (defBody s__law_laid) (defScope s__law_laid) .none kV__law_laid dc__law_laid pm__law_laid an__law_laid (cd__law_laid) ct__law_laid), sl__law_laid⟩)
    (c__law_laid : PySem.W.codeIn K (cd__law_laid) "_law_laid" = true)
    (k__law_laid : PySem.W.keepIn K (.ref f__law_laid) = true)
    (a__law_run_due : PySem.W.nsIn K mainGlobals "_law_run_due" = some (some (.ref f__law_run_due)))
    (l__law_run_due : K.lookup f__law_run_due = some ⟨oc__law_run_due, od__law_run_due, .func (PySem.W.fnOf "_law_run_due" "_law_run_due" (defArgs s__law_run_due) (defBody s__law_run_due) (defScope s__law_run_due) .none kV__law_run_due dc__law_run_due pm__law_run_due an__law_run_due (cd__law_run_due) ct__law_run_due), sl__law_run_due⟩)
    (c__law_run_due : PySem.W.codeIn K (cd__law_run_due) "_law_run_due" = true)
    (k__law_run_due : PySem.W.keepIn K (.ref f__law_run_due) = true)
    (a__law_drawn_run : PySem.W.nsIn K mainGlobals "_law_drawn_run" = some (some (.ref f__law_drawn_run)))
    (l__law_drawn_run : K.lookup f__law_drawn_run = some ⟨oc__law_drawn_run, od__law_drawn_run, .func (PySem.W.fnOf "_law_drawn_run" "_law_drawn_run" (defArgs s__law_drawn_run) (defBody s__law_drawn_run) (defScope s__law_drawn_run) .none kV__law_drawn_run dc__law_drawn_run pm__law_drawn_run an__law_drawn_run (cd__law_drawn_run) ct__law_drawn_run), sl__law_drawn_run⟩)
    (c__law_drawn_run : PySem.W.codeIn K (cd__law_drawn_run) "_law_drawn_run" = true)
    (k__law_drawn_run : PySem.W.keepIn K (.ref f__law_drawn_run) = true)
    (a__law_line : PySem.W.nsIn K mainGlobals "_law_line" = some (some (.ref f__law_line)))
    (l__law_line : K.lookup f__law_line = some ⟨oc__law_line, od__law_line, .func (PySem.W.fnOf "_law_line" "_law_line" (defArgs s__law_line) (defBody s__law_line) (defScope s__law_line) .none kV__law_line dc__law_line pm__law_line an__law_line (cd__law_line) ct__law_line), sl__law_line⟩)
    (c__law_line : PySem.W.codeIn K (cd__law_line) "_law_line" = true)
    (k__law_line : PySem.W.keepIn K (.ref f__law_line) = true)
    (a__law_joined : PySem.W.nsIn K mainGlobals "_law_joined" = some (some (.ref f__law_joined)))
    (l__law_joined : K.lookup f__law_joined = some ⟨oc__law_joined, od__law_joined, .func (PySem.W.fnOf "_law_joined" "_law_joined" (defArgs s__law_joined) (defBody s__law_joined) (defScope s__law_joined) .none kV__law_joined dc__law_joined pm__law_joined an__law_joined (cd__law_joined) ct__law_joined), sl__law_joined⟩)
    (c__law_joined : PySem.W.codeIn K (cd__law_joined) "_law_joined" = true)
    (k__law_joined : PySem.W.keepIn K (.ref f__law_joined) = true)
    (a__law_run_text : PySem.W.nsIn K mainGlobals "_law_run_text" = some (some (.ref f__law_run_text)))
    (l__law_run_text : K.lookup f__law_run_text = some ⟨oc__law_run_text, od__law_run_text, .func (PySem.W.fnOf "_law_run_text" "_law_run_text" (defArgs s__law_run_text) (defBody s__law_run_text) (defScope s__law_run_text) .none kV__law_run_text dc__law_run_text pm__law_run_text an__law_run_text (cd__law_run_text) ct__law_run_text), sl__law_run_text⟩)
    (c__law_run_text : PySem.W.codeIn K (cd__law_run_text) "_law_run_text" = true)
    (k__law_run_text : PySem.W.keepIn K (.ref f__law_run_text) = true)
    (a__law_table_text : PySem.W.nsIn K mainGlobals "_law_table_text" = some (some (.ref f__law_table_text)))
    (l__law_table_text : K.lookup f__law_table_text = some ⟨oc__law_table_text, od__law_table_text, .func (PySem.W.fnOf "_law_table_text" "_law_table_text" (defArgs s__law_table_text) (defBody s__law_table_text) (defScope s__law_table_text) .none kV__law_table_text dc__law_table_text pm__law_table_text an__law_table_text (cd__law_table_text) ct__law_table_text), sl__law_table_text⟩)
    (c__law_table_text : PySem.W.codeIn K (cd__law_table_text) "_law_table_text" = true)
    (k__law_table_text : PySem.W.keepIn K (.ref f__law_table_text) = true)
    (a__law_bent_text : PySem.W.nsIn K mainGlobals "_law_bent_text" = some (some (.ref f__law_bent_text)))
    (l__law_bent_text : K.lookup f__law_bent_text = some ⟨oc__law_bent_text, od__law_bent_text, .func (PySem.W.fnOf "_law_bent_text" "_law_bent_text" (defArgs s__law_bent_text) (defBody s__law_bent_text) (defScope s__law_bent_text) .none kV__law_bent_text dc__law_bent_text pm__law_bent_text an__law_bent_text (cd__law_bent_text) ct__law_bent_text), sl__law_bent_text⟩)
    (c__law_bent_text : PySem.W.codeIn K (cd__law_bent_text) "_law_bent_text" = true)
    (k__law_bent_text : PySem.W.keepIn K (.ref f__law_bent_text) = true)
    (a__law_deep : PySem.W.nsIn K mainGlobals "_law_deep" = some (some (.ref f__law_deep)))
    (l__law_deep : K.lookup f__law_deep = some ⟨oc__law_deep, od__law_deep, .func (PySem.W.fnOf "_law_deep" "_law_deep" (defArgs s__law_deep) (defBody s__law_deep) (defScope s__law_deep) .none kV__law_deep dc__law_deep pm__law_deep an__law_deep (cd__law_deep) ct__law_deep), sl__law_deep⟩)
    (c__law_deep : PySem.W.codeIn K (cd__law_deep) "_law_deep" = true)
    (k__law_deep : PySem.W.keepIn K (.ref f__law_deep) = true)
    (a__law_journal_due : PySem.W.nsIn K mainGlobals "_law_journal_due" = some (some (.ref f__law_journal_due)))
    (l__law_journal_due : K.lookup f__law_journal_due = some ⟨oc__law_journal_due, od__law_journal_due, .func (PySem.W.fnOf "_law_journal_due" "_law_journal_due" (defArgs s__law_journal_due) (defBody s__law_journal_due) (defScope s__law_journal_due) .none kV__law_journal_due dc__law_journal_due pm__law_journal_due an__law_journal_due (cd__law_journal_due) ct__law_journal_due), sl__law_journal_due⟩)
    (c__law_journal_due : PySem.W.codeIn K (cd__law_journal_due) "_law_journal_due" = true)
    (k__law_journal_due : PySem.W.keepIn K (.ref f__law_journal_due) = true)
    (a__law_run_text_due : PySem.W.nsIn K mainGlobals "_law_run_text_due" = some (some (.ref f__law_run_text_due)))
    (l__law_run_text_due : K.lookup f__law_run_text_due = some ⟨oc__law_run_text_due, od__law_run_text_due, .func (PySem.W.fnOf "_law_run_text_due" "_law_run_text_due" (defArgs s__law_run_text_due) (defBody s__law_run_text_due) (defScope s__law_run_text_due) .none kV__law_run_text_due dc__law_run_text_due pm__law_run_text_due an__law_run_text_due (cd__law_run_text_due) ct__law_run_text_due), sl__law_run_text_due⟩)
    (c__law_run_text_due : PySem.W.codeIn K (cd__law_run_text_due) "_law_run_text_due" = true)
    (k__law_run_text_due : PySem.W.keepIn K (.ref f__law_run_text_due) = true)
    (a__law_table_due : PySem.W.nsIn K mainGlobals "_law_table_due" = some (some (.ref f__law_table_due)))
    (l__law_table_due : K.lookup f__law_table_due = some ⟨oc__law_table_due, od__law_table_due, .func (PySem.W.fnOf "_law_table_due" "_law_table_due" (defArgs s__law_table_due) (defBody s__law_table_due) (defScope s__law_table_due) .none kV__law_table_due dc__law_table_due pm__law_table_due an__law_table_due (cd__law_table_due) ct__law_table_due), sl__law_table_due⟩)
    (c__law_table_due : PySem.W.codeIn K (cd__law_table_due) "_law_table_due" = true)
    (k__law_table_due : PySem.W.keepIn K (.ref f__law_table_due) = true)
    (a__law_is : PySem.W.nsIn K mainGlobals "_law_is" = some (some (.ref f__law_is)))
    (l__law_is : K.lookup f__law_is = some ⟨oc__law_is, od__law_is, .func (PySem.W.fnOf "_law_is" "_law_is" (defArgs s__law_is) (defBody s__law_is) (defScope s__law_is) .none kV__law_is dc__law_is pm__law_is an__law_is (cd__law_is) ct__law_is), sl__law_is⟩)
    (c__law_is : PySem.W.codeIn K (cd__law_is) "_law_is" = true)
    (k__law_is : PySem.W.keepIn K (.ref f__law_is) = true)
    (a__law_read : PySem.W.nsIn K mainGlobals "_law_read" = some (some (.ref f__law_read)))
    (l__law_read : K.lookup f__law_read = some ⟨oc__law_read, od__law_read, .func (PySem.W.fnOf "_law_read" "_law_read" (defArgs s__law_read) (defBody s__law_read) (defScope s__law_read) .none kV__law_read dc__law_read pm__law_read an__law_read (cd__law_read) ct__law_read), sl__law_read⟩)
    (c__law_read : PySem.W.codeIn K (cd__law_read) "_law_read" = true)
    (k__law_read : PySem.W.keepIn K (.ref f__law_read) = true)
    (a__law_text_right : PySem.W.nsIn K mainGlobals "_law_text_right" = some (some (.ref f__law_text_right)))
    (l__law_text_right : K.lookup f__law_text_right = some ⟨oc__law_text_right, od__law_text_right, .func (PySem.W.fnOf "_law_text_right" "_law_text_right" (defArgs s__law_text_right) (defBody s__law_text_right) (defScope s__law_text_right) .none kV__law_text_right dc__law_text_right pm__law_text_right an__law_text_right (.ref c) ct__law_text_right), sl__law_text_right⟩)
    (c__law_text_right : PySem.W.codeIn K (.ref c) "_law_text_right" = true)
    (k__law_text_right : PySem.W.keepIn K (.ref f__law_text_right) = true)
    (a_law : PySem.W.nsIn K mainGlobals "law" = some (some (.ref f_law)))
    (l_law : K.lookup f_law = some ⟨oc_law, od_law, .func (PySem.W.fnOf "law" "law" (defArgs s_law) (defBody s_law) (defScope s_law) .none kV_law dc_law pm_law an_law (cd_law) ct_law), sl_law⟩)
    (c_law : PySem.W.codeIn K (cd_law) "law" = true)
    (k_law : PySem.W.keepIn K (.ref f_law) = true)
    (ch : PySem.W.codeHdIn K c Pt = true)
    (nP : K.lookup Pt = none)
    {n : Nat} : LawAtS l w K L2.CX0 12 n "_law_script" mg fa h := by
  have T : Txt K mg := ⟨PySem.W.mg_none_of X G t_isinstance, PySem.W.mg_none_of X G t_int, PySem.W.mg_none_of X G t_bool, PySem.W.mg_none_of X G t_str, PySem.W.mg_none_of X G t_tuple, PySem.W.mg_none_of X G t_list, PySem.W.mg_none_of X G t_dict, PySem.W.mg_none_of X G t_set, PySem.W.mg_none_of X G t_len, PySem.W.mg_none_of X G t_all, PySem.W.mg_none_of X G t_max, PySem.W.mg_none_of X G t_abs, PySem.W.mg_none_of X G t_range, PySem.W.mg_none_of X G t_sorted, PySem.W.mg_none_of X G t_enumerate, ⟨_, PySem.W.mg_of X G t_MOST_CELLS, r_MOST_CELLS⟩, ⟨_, PySem.W.mg_of X G t_MOST_KINDS, r_MOST_KINDS⟩, ⟨_, PySem.W.mg_of X G t_MOST_READS, r_MOST_READS⟩, ⟨_, PySem.W.mg_of X G t_MOST_DEEDS, r_MOST_DEEDS⟩, ⟨_, PySem.W.mg_of X G t_MOST_STEPS, r_MOST_STEPS⟩, ⟨_, PySem.W.mg_of X G t_MOST_FIGURES, r_MOST_FIGURES⟩, ⟨_, PySem.W.mg_of X G t_DO, r_DO⟩, ⟨_, PySem.W.mg_of X G t_LAY, r_LAY⟩, ⟨_, PySem.W.mg_of X G t_NOTHING, r_NOTHING⟩, ⟨_, PySem.W.mg_of X G t_FIGURES, r_FIGURES⟩⟩
  have C : Cl K mg ⟨bt, bb, nj, nr, pe, tb, hs⟩ := {
    x_NoJournal := ⟨⟨_, _, _, _, eb, ei_nj⟩, PySem.W.mg_of X G g_nj, kp_nj, ex_nj, ty_nj⟩
    x_NoRun := ⟨⟨_, _, _, _, eb, ei_nr⟩, PySem.W.mg_of X G g_nr, kp_nr, ex_nr, ty_nr⟩
    o_BadText := ⟨⟨_, _, _, _, _, _, _, _, _, _, _, _, _, _, _, x_bt, rv_bt⟩, sa_bt, ex_bt, ty_bt, kp_bt⟩
    o_BadTable := ⟨⟨_, _, _, _, _, _, _, _, _, _, _, _, _, _, _, x_bb, rv_bb⟩, sa_bb, ex_bb, ty_bb, kp_bb⟩
    n_line := n_bt_line
    n_part := n_bb_part
    n_at := n_bb_at
    m_BadText := PySem.W.mg_of X G g_bt
    m_BadTable := PySem.W.mg_of X G g_bb
    m_Table := PySem.W.mg_of X G g_tb
    m_History := PySem.W.mg_of X G g_hs
    m_PlateError := PySem.W.mg_of X G g_pe
    c_Table := ⟨⟨pg_tb, hd_tb, po_tb, sa_tb⟩, ha_tb, hn_tb, tk_tb, mr_tb, by unfold PySem.W.kitOne; exact if_pos (beq_self_eq_true _)⟩
    c_History := ⟨pg_hs, hd_hs, po_hs, sa_hs⟩
    n_cells := n_tb_cells
    n_kinds := n_tb_kinds
    n_cw := n_hs_cells_written
    n_read := n_hs_read
    n_last := n_hs_last
    k_Table := ⟨mk_tb, kp_tb, fun f e => by rw [a_Table] at e; cases e; exact i_Table⟩
    k_History := ⟨mk_hs, kp_hs, fun f e => by rw [a_History] at e; cases e; exact i_History⟩
    t_BadText := fun f e => by rw [a_BadText] at e; cases e; exact i_BadText
    t_BadTable := fun f e => by rw [a_BadTable] at e; cases e; exact i_BadTable }
  have CE : ClE K ⟨bt, bb, nj, nr, pe, tb, hs⟩ := ⟨⟨ga_bt, gg_bt, ex_bt, hd_bt⟩, ⟨ga_bb, gg_bb, ex_bb, hd_bb⟩, exm_any ex_bt ic_bt ty_bt s_bt_bt, exm_any ex_bt ic_bt ty_bt s_bb_bt, exm_any ex_bb ic_bb ty_bb s_bb_bb, exm_any ex_bt ic_bt ty_bt s_nj_bt, exm_any ex_bb ic_bb ty_bb s_nj_bb, exm_any ex_nj ic_nj ty_nj s_nj_nj, exm_any ex_bt ic_bt ty_bt s_nr_bt, exm_any ex_bb ic_bb ty_bb s_nr_bb, exm_any ex_nj ic_nj ty_nj s_nr_nj, exm_any ex_nr ic_nr ty_nr s_nr_nr⟩
  have D_is_integer := dn_mk (st := s_is_integer) (ps := p_is_integer) X G a_is_integer l_is_integer c_is_integer k_is_integer (fun _ _ _ _ _ _ us hl => match us, hl with | [_], _ => rfl)
  have D_is_within := dn_mk (st := s_is_within) (ps := p_is_within) X G a_is_within l_is_within c_is_within k_is_within (fun _ _ _ _ _ _ us hl => match us, hl with | [_, _, _], _ => rfl)
  have D_is_pair := dn_mk (st := s_is_pair) (ps := p_is_pair) X G a_is_pair l_is_pair c_is_pair k_is_pair (fun _ _ _ _ _ _ us hl => match us, hl with | [_], _ => rfl)
  have D_is_lot := dn_mk (st := s_is_lot) (ps := p_is_lot) X G a_is_lot l_is_lot c_is_lot k_is_lot (fun _ _ _ _ _ _ us hl => match us, hl with | [_, _, _], _ => rfl)
  have D_is_kind := dn_mk (st := s_is_kind) (ps := p_is_kind) X G a_is_kind l_is_kind c_is_kind k_is_kind (fun _ _ _ _ _ _ us hl => match us, hl with | [_, _], _ => rfl)
  have D_number_of := dn_mk (st := s_number_of) (ps := p_number_of) X G a_number_of l_number_of c_number_of k_number_of (fun _ _ _ _ _ _ us hl => match us, hl with | [_], _ => rfl)
  have D_numbers_of := dn_mk (st := s_numbers_of) (ps := p_numbers_of) X G a_numbers_of l_numbers_of c_numbers_of k_numbers_of (fun _ _ _ _ _ _ us hl => match us, hl with | [_], _ => rfl)
  have D__law_number_of := dn_mk (st := s__law_number_of) (ps := p__law_number_of) X G a__law_number_of l__law_number_of c__law_number_of k__law_number_of (fun _ _ _ _ _ _ us hl => match us, hl with | [_], _ => rfl)
  have D__law_numbers_of := dn_mk (st := s__law_numbers_of) (ps := p__law_numbers_of) X G a__law_numbers_of l__law_numbers_of c__law_numbers_of k__law_numbers_of (fun _ _ _ _ _ _ us hl => match us, hl with | [_], _ => rfl)
  have D_cells_of := dn_mk (st := s_cells_of) (ps := p_cells_of) X G a_cells_of l_cells_of c_cells_of k_cells_of (fun _ _ _ _ _ _ us hl => match us, hl with | [_], _ => rfl)
  have D_kind_of := dn_mk (st := s_kind_of) (ps := p_kind_of) X G a_kind_of l_kind_of c_kind_of k_kind_of (fun _ _ _ _ _ _ us hl => match us, hl with | [_], _ => rfl)
  have D_BadText : In K "BadText.__init__" bt s_BadText___init__ p_BadText___init__ := in_mk a_BadText l_BadText c_BadText k_BadText (fun _ _ _ _ _ _ us hl => match us, hl with | [_, _], _ => rfl)
  have D_BadTable : In K "BadTable.__init__" bb s_BadTable___init__ p_BadTable___init__ := in_mk a_BadTable l_BadTable c_BadTable k_BadTable (fun _ _ _ _ _ _ us hl => match us, hl with | [_, _, _], _ => rfl)
  have D_Table : In K "Table.__init__" tb s_Table___init__ p_Table___init__ := in_mk a_Table l_Table c_Table k_Table (fun _ _ _ _ _ _ us hl => match us, hl with | [_, _, _], _ => rfl)
  have D_is_journal := dn_mk (st := s_is_journal) (ps := p_is_journal) X G a_is_journal l_is_journal c_is_journal k_is_journal (fun _ _ _ _ _ _ us hl => match us, hl with | [_, _], _ => rfl)
  have D_begin_of := dn_mk (st := s_begin_of) (ps := p_begin_of) X G a_begin_of l_begin_of c_begin_of k_begin_of (fun _ _ _ _ _ _ us hl => match us, hl with | [_], _ => rfl)
  have D_all_fresh := dn_mk (st := s_all_fresh) (ps := p_all_fresh) X G a_all_fresh l_all_fresh c_all_fresh k_all_fresh (fun _ _ _ _ _ _ us hl => match us, hl with | [_], _ => rfl)
  have D_History : In K "History.__init__" hs s_History___init__ p_History___init__ := in_mk a_History l_History c_History k_History (fun _ _ _ _ _ _ us hl => match us, hl with | [_, _, _], _ => rfl)
  have D_closure := dn_mk (st := s_closure) (ps := p_closure) X G a_closure l_closure c_closure k_closure (fun _ _ _ _ _ _ us hl => match us, hl with | [_, _], _ => rfl)
  have D_is_all_there := dn_mk (st := s_is_all_there) (ps := p_is_all_there) X G a_is_all_there l_is_all_there c_is_all_there k_is_all_there (fun _ _ _ _ _ _ us hl => match us, hl with | [_, _], _ => rfl)
  have D_laid := dn_mk (st := s_laid) (ps := p_laid) X G a_laid l_laid c_laid k_laid (fun _ _ _ _ _ _ us hl => match us, hl with | [_, _, _], _ => rfl)
  have D_is_step := dn_mk (st := s_is_step) (ps := p_is_step) X G a_is_step l_is_step c_is_step k_is_step (fun _ _ _ _ _ _ us hl => match us, hl with | [_, _], _ => rfl)
  have D_led_by := dn_mk (st := s_led_by) (ps := p_led_by) X G a_led_by l_led_by c_led_by k_led_by (fun _ _ _ _ _ _ us hl => match us, hl with | [_, _], _ => rfl)
  have D_behind_run := dn_mk (st := s_behind_run) (ps := p_behind_run) X G a_behind_run l_behind_run c_behind_run k_behind_run (fun _ _ _ _ _ _ us hl => match us, hl with | [_, _], _ => rfl)
  have D_is_run := dn_mk (st := s_is_run) (ps := p_is_run) X G a_is_run l_is_run c_is_run k_is_run (fun _ _ _ _ _ _ us hl => match us, hl with | [_, _], _ => rfl)
  have D_check_string := dn_mk (st := s_check_string) (ps := p_check_string) X G a_check_string l_check_string c_check_string k_check_string (fun _ _ _ _ _ _ us hl => match us, hl with | [_], _ => rfl)
  have D_words_of := dn_mk (st := s_words_of) (ps := p_words_of) X G a_words_of l_words_of c_words_of k_words_of (fun _ _ _ _ _ _ us hl => match us, hl with | [_], _ => rfl)
  have D_read_journal := dn_mk (st := s_read_journal) (ps := p_read_journal) X G a_read_journal l_read_journal c_read_journal k_read_journal (fun _ _ _ _ _ _ us hl => match us, hl with | [_, _], _ => rfl)
  have D_step_of := dn_mk (st := s_step_of) (ps := p_step_of) X G a_step_of l_step_of c_step_of k_step_of (fun _ _ _ _ _ _ us hl => match us, hl with | [_], _ => rfl)
  have D_read_run := dn_mk (st := s_read_run) (ps := p_read_run) X G a_read_run l_read_run c_read_run k_read_run (fun _ _ _ _ _ _ us hl => match us, hl with | [_, _], _ => rfl)
  have D_read_table := dn_mk (st := s_read_table) (ps := p_read_table) X G a_read_table l_read_table c_read_table k_read_table (fun _ _ _ _ _ _ us hl => match us, hl with | [_], _ => rfl)
  have D__law_draw := dn_mk (st := s__law_draw) (ps := p__law_draw) X G a__law_draw l__law_draw c__law_draw k__law_draw (fun _ _ _ _ _ _ us hl => match us, hl with | [_, _], _ => rfl)
  have D__law_pool := dn_mk (st := s__law_pool) (ps := p__law_pool) X G a__law_pool l__law_pool c__law_pool k__law_pool (fun _ _ _ _ _ _ us hl => match us, hl with | [_], _ => rfl)
  have D__law_pick := dn_mk (st := s__law_pick) (ps := p__law_pick) X G a__law_pick l__law_pick c__law_pick k__law_pick (fun _ _ _ _ _ _ us hl => match us, hl with | [_, _], _ => rfl)
  have D__law_is_number := dn_mk (st := s__law_is_number) (ps := p__law_is_number) X G a__law_is_number l__law_is_number c__law_is_number k__law_is_number (fun _ _ _ _ _ _ us hl => match us, hl with | [_, _, _], _ => rfl)
  have D__law_fresh := dn_mk (st := s__law_fresh) (ps := p__law_fresh) X G a__law_fresh l__law_fresh c__law_fresh k__law_fresh (fun _ _ _ _ _ _ us hl => match us, hl with | [_], _ => rfl)
  have D__law_made := dn_mk (st := s__law_made) (ps := p__law_made) X G a__law_made l__law_made c__law_made k__law_made (fun _ _ _ _ _ _ us hl => match us, hl with | [_], _ => rfl)
  have D__law_is_journal := dn_mk (st := s__law_is_journal) (ps := p__law_is_journal) X G a__law_is_journal l__law_is_journal c__law_is_journal k__law_is_journal (fun _ _ _ _ _ _ us hl => match us, hl with | [_, _], _ => rfl)
  have D__law_journal := dn_mk (st := s__law_journal) (ps := p__law_journal) X G a__law_journal l__law_journal c__law_journal k__law_journal (fun _ _ _ _ _ _ us hl => match us, hl with | [_, _, _], _ => rfl)
  have D__law_reads := dn_mk (st := s__law_reads) (ps := p__law_reads) X G a__law_reads l__law_reads c__law_reads k__law_reads (fun _ _ _ _ _ _ us hl => match us, hl with | [_, _, _], _ => rfl)
  have D__law_mixed := dn_mk (st := s__law_mixed) (ps := p__law_mixed) X G a__law_mixed l__law_mixed c__law_mixed k__law_mixed (fun _ _ _ _ _ _ us hl => match us, hl with | [_, _], _ => rfl)
  have D__law_spec := dn_mk (st := s__law_spec) (ps := p__law_spec) X G a__law_spec l__law_spec c__law_spec k__law_spec (fun _ _ _ _ _ _ us hl => match us, hl with | [_, _], _ => rfl)
  have D__law_story := dn_mk (st := s__law_story) (ps := p__law_story) X G a__law_story l__law_story c__law_story k__law_story (fun _ _ _ _ _ _ us hl => match us, hl with | [_, _], _ => rfl)
  have D__law_is_there := dn_mk (st := s__law_is_there) (ps := p__law_is_there) X G a__law_is_there l__law_is_there c__law_is_there k__law_is_there (fun _ _ _ _ _ _ us hl => match us, hl with | [_, _], _ => rfl)
  have D__law_laid := dn_mk (st := s__law_laid) (ps := p__law_laid) X G a__law_laid l__law_laid c__law_laid k__law_laid (fun _ _ _ _ _ _ us hl => match us, hl with | [_, _, _], _ => rfl)
  have D__law_run_due := dn_mk (st := s__law_run_due) (ps := p__law_run_due) X G a__law_run_due l__law_run_due c__law_run_due k__law_run_due (fun _ _ _ _ _ _ us hl => match us, hl with | [_, _], _ => rfl)
  have D__law_drawn_run := dn_mk (st := s__law_drawn_run) (ps := p__law_drawn_run) X G a__law_drawn_run l__law_drawn_run c__law_drawn_run k__law_drawn_run (fun _ _ _ _ _ _ us hl => match us, hl with | [_, _, _], _ => rfl)
  have D__law_line := dn_mk (st := s__law_line) (ps := p__law_line) X G a__law_line l__law_line c__law_line k__law_line (fun _ _ _ _ _ _ us hl => match us, hl with | [_], _ => rfl)
  have D__law_joined := dn_mk (st := s__law_joined) (ps := p__law_joined) X G a__law_joined l__law_joined c__law_joined k__law_joined (fun _ _ _ _ _ _ us hl => match us, hl with | [_], _ => rfl)
  have D__law_run_text := dn_mk (st := s__law_run_text) (ps := p__law_run_text) X G a__law_run_text l__law_run_text c__law_run_text k__law_run_text (fun _ _ _ _ _ _ us hl => match us, hl with | [_], _ => rfl)
  have D__law_table_text := dn_mk (st := s__law_table_text) (ps := p__law_table_text) X G a__law_table_text l__law_table_text c__law_table_text k__law_table_text (fun _ _ _ _ _ _ us hl => match us, hl with | [_], _ => rfl)
  have D__law_bent_text := dn_mk (st := s__law_bent_text) (ps := p__law_bent_text) X G a__law_bent_text l__law_bent_text c__law_bent_text k__law_bent_text (fun _ _ _ _ _ _ us hl => match us, hl with | [_, _, _], _ => rfl)
  have D__law_deep := dn_mk (st := s__law_deep) (ps := p__law_deep) X G a__law_deep l__law_deep c__law_deep k__law_deep (fun _ _ _ _ _ _ us hl => match us, hl with | [], _ => rfl)
  have D__law_journal_due := dn_mk (st := s__law_journal_due) (ps := p__law_journal_due) X G a__law_journal_due l__law_journal_due c__law_journal_due k__law_journal_due (fun _ _ _ _ _ _ us hl => match us, hl with | [_, _], _ => rfl)
  have D__law_run_text_due := dn_mk (st := s__law_run_text_due) (ps := p__law_run_text_due) X G a__law_run_text_due l__law_run_text_due c__law_run_text_due k__law_run_text_due (fun _ _ _ _ _ _ us hl => match us, hl with | [_, _], _ => rfl)
  have D__law_table_due := dn_mk (st := s__law_table_due) (ps := p__law_table_due) X G a__law_table_due l__law_table_due c__law_table_due k__law_table_due (fun _ _ _ _ _ _ us hl => match us, hl with | [_], _ => rfl)
  have D__law_is := dn_mk (st := s__law_is) (ps := p__law_is) X G a__law_is l__law_is c__law_is k__law_is (fun _ _ _ _ _ _ us hl => match us, hl with | [_, _], _ => rfl)
  have R := dnc_mk (st := s__law_read) (ps := p__law_read) X G a__law_read l__law_read c__law_read k__law_read (fun _ _ _ _ _ _ us hl => match us, hl with | [_], _ => rfl)
  have D__law_text_right := dnc_mk (st := s__law_text_right) (ps := p__law_text_right) X G a__law_text_right l__law_text_right c__law_text_right k__law_text_right (fun _ _ _ _ _ _ us hl => match us, hl with | [_, _, _, _], _ => rfl)
  have FL := fun_mk (st := s_law) l_law c_law k_law
  have e := hfa.symm.trans (PySem.W.mg_of X G a_law)
  cases e
  refine ⟨PySem.W.fnOf "law" "law" (defArgs s_law) (defBody s_law) (defScope s_law) .none kV_law dc_law pm_law an_law cd_law ct_law, [(c, Pt)], spLaw K Pt, fun p hp => by rw [List.mem_singleton.mp hp]; exact hT, fun p hp => by rw [List.mem_singleton.mp hp]; exact nP, fun p hp => by rw [List.mem_singleton.mp hp]; exact PySem.W.codeHd_of_K X ch, fun s u => .of_eq rfl, fun H a ns _ _ hH hS => ⟨a, ns, rfl, hS, hH _ (List.mem_singleton.mpr rfl), fun _ => rfl⟩, fun base _ _ hB => ?_⟩
  exact all_ok (d := ⟨bt, bb, nj, nr, pe, tb, hs⟩) T C CE hst D_is_integer D_is_within D_is_pair D_is_lot D_is_kind D_number_of D_numbers_of D__law_number_of D__law_numbers_of D_cells_of D_kind_of D_BadText D_BadTable D_Table D_is_journal D_begin_of D_all_fresh D_History D_closure D_is_all_there D_laid D_is_step D_led_by D_behind_run D_is_run D_check_string D_words_of D_read_journal D_step_of D_read_run D_read_table D__law_draw D__law_pool D__law_pick D__law_is_number D__law_fresh D__law_made D__law_is_journal D__law_journal D__law_reads D__law_mixed D__law_spec D__law_story D__law_is_there D__law_laid D__law_run_due D__law_drawn_run D__law_line D__law_joined D__law_run_text D__law_table_text D__law_bent_text D__law_deep D__law_journal_due D__law_run_text_due D__law_table_due D__law_is R D__law_text_right FL (hB _ (List.mem_singleton.mpr rfl))
end K28
open PySem PySem.W PyProof.Rows in
set_option Elab.async false in
set_option maxRecDepth 100000 in
set_option maxHeartbeats 0 in
theorem PySem.Challenge.cw_laidplates_k28_whole_texts_spoiled_holds : PySem.Challenge.rw_laidplates_k28_whole_texts_spoiled.Holds := by
  w_on; o_law; k_head; (case hw => w_witness2)
  k_fill
  refine LamX.walk_ofTs (l := PySem.Challenge.rw_laidplates_k28_whole_texts_spoiled) (k := 12) (CX := fun _ => L2.CX0) (x := "_law_script") rfl (by decide +kernel) rfl ⟨rfl, by decide, by decide⟩ (fun w h Y => PySem.W.km_in_of Y) ?F (fun _ _ _ _ _ z => z)
  case F =>
    intro w mg fa h Y KX G hmg
    refine' K28.fin_mk KX G hmg (PySem.W.km_tabs_of Y _ (List.mem_singleton.mpr rfl)) ?t_isinstance ?t_int ?t_bool ?t_str ?t_tuple ?t_list ?t_dict ?t_set ?t_len ?t_all ?t_max ?t_abs ?t_range ?t_sorted ?t_enumerate ?t_MOST_CELLS ?r_MOST_CELLS ?t_MOST_KINDS ?r_MOST_KINDS ?t_MOST_READS ?r_MOST_READS ?t_MOST_DEEDS ?r_MOST_DEEDS ?t_MOST_STEPS ?r_MOST_STEPS ?t_MOST_FIGURES ?r_MOST_FIGURES ?t_DO ?r_DO ?t_LAY ?r_LAY ?t_NOTHING ?r_NOTHING ?t_FIGURES ?r_FIGURES ?g_bt ?g_bb ?g_nj ?g_nr ?g_pe ?g_tb ?g_hs ?x_bt ?rv_bt ?ga_bt ?gg_bt ?x_bb ?rv_bb ?ga_bb ?gg_bb ?sa_bt ?hd_bt ?sa_bb ?hd_bb ?sa_tb ?hd_tb ?sa_hs ?hd_hs ?ex_bt ?ty_bt ?ic_bt ?ex_bb ?ty_bb ?ic_bb ?ex_nj ?ty_nj ?ic_nj ?ex_nr ?ty_nr ?ic_nr ?kp_bt ?kp_bb ?kp_nj ?kp_nr ?kp_tb ?kp_hs ?n_bt_line ?n_bb_part ?n_bb_at ?n_tb_cells ?n_tb_kinds ?n_hs_cells_written ?n_hs_read ?n_hs_last ?pg_tb ?po_tb ?mk_tb ?pg_hs ?po_hs ?mk_hs ?ha_tb ?hn_tb ?tk_tb ?mr_tb ?hst ?s_bt_bt ?s_bb_bt ?s_bb_bb ?s_nj_bt ?s_nj_bb ?s_nj_nj ?s_nr_bt ?s_nr_bb ?s_nr_nj ?s_nr_nr ?eb ?ei_nj ?ei_nr ?a_is_integer ?l_is_integer ?c_is_integer ?k_is_integer ?a_is_within ?l_is_within ?c_is_within ?k_is_within ?a_is_pair ?l_is_pair ?c_is_pair ?k_is_pair ?a_is_lot ?l_is_lot ?c_is_lot ?k_is_lot ?a_is_kind ?l_is_kind ?c_is_kind ?k_is_kind ?a_number_of ?l_number_of ?c_number_of ?k_number_of ?a_numbers_of ?l_numbers_of ?c_numbers_of ?k_numbers_of ?a__law_number_of ?l__law_number_of ?c__law_number_of ?k__law_number_of ?a__law_numbers_of ?l__law_numbers_of ?c__law_numbers_of ?k__law_numbers_of ?a_cells_of ?l_cells_of ?c_cells_of ?k_cells_of ?a_kind_of ?l_kind_of ?c_kind_of ?k_kind_of ?a_BadText ?l_BadText ?c_BadText ?i_BadText ?k_BadText ?a_BadTable ?l_BadTable ?c_BadTable ?i_BadTable ?k_BadTable ?a_Table ?l_Table ?c_Table ?i_Table ?k_Table ?a_is_journal ?l_is_journal ?c_is_journal ?k_is_journal ?a_begin_of ?l_begin_of ?c_begin_of ?k_begin_of ?a_all_fresh ?l_all_fresh ?c_all_fresh ?k_all_fresh ?a_History ?l_History ?c_History ?i_History ?k_History ?a_closure ?l_closure ?c_closure ?k_closure ?a_is_all_there ?l_is_all_there ?c_is_all_there ?k_is_all_there ?a_laid ?l_laid ?c_laid ?k_laid ?a_is_step ?l_is_step ?c_is_step ?k_is_step ?a_led_by ?l_led_by ?c_led_by ?k_led_by ?a_behind_run ?l_behind_run ?c_behind_run ?k_behind_run ?a_is_run ?l_is_run ?c_is_run ?k_is_run ?a_check_string ?l_check_string ?c_check_string ?k_check_string ?a_words_of ?l_words_of ?c_words_of ?k_words_of ?a_read_journal ?l_read_journal ?c_read_journal ?k_read_journal ?a_step_of ?l_step_of ?c_step_of ?k_step_of ?a_read_run ?l_read_run ?c_read_run ?k_read_run ?a_read_table ?l_read_table ?c_read_table ?k_read_table ?a__law_draw ?l__law_draw ?c__law_draw ?k__law_draw ?a__law_pool ?l__law_pool ?c__law_pool ?k__law_pool ?a__law_pick ?l__law_pick ?c__law_pick ?k__law_pick ?a__law_is_number ?l__law_is_number ?c__law_is_number ?k__law_is_number ?a__law_fresh ?l__law_fresh ?c__law_fresh ?k__law_fresh ?a__law_made ?l__law_made ?c__law_made ?k__law_made ?a__law_is_journal ?l__law_is_journal ?c__law_is_journal ?k__law_is_journal ?a__law_journal ?l__law_journal ?c__law_journal ?k__law_journal ?a__law_reads ?l__law_reads ?c__law_reads ?k__law_reads ?a__law_mixed ?l__law_mixed ?c__law_mixed ?k__law_mixed ?a__law_spec ?l__law_spec ?c__law_spec ?k__law_spec ?a__law_story ?l__law_story ?c__law_story ?k__law_story ?a__law_is_there ?l__law_is_there ?c__law_is_there ?k__law_is_there ?a__law_laid ?l__law_laid ?c__law_laid ?k__law_laid ?a__law_run_due ?l__law_run_due ?c__law_run_due ?k__law_run_due ?a__law_drawn_run ?l__law_drawn_run ?c__law_drawn_run ?k__law_drawn_run ?a__law_line ?l__law_line ?c__law_line ?k__law_line ?a__law_joined ?l__law_joined ?c__law_joined ?k__law_joined ?a__law_run_text ?l__law_run_text ?c__law_run_text ?k__law_run_text ?a__law_table_text ?l__law_table_text ?c__law_table_text ?k__law_table_text ?a__law_bent_text ?l__law_bent_text ?c__law_bent_text ?k__law_bent_text ?a__law_deep ?l__law_deep ?c__law_deep ?k__law_deep ?a__law_journal_due ?l__law_journal_due ?c__law_journal_due ?k__law_journal_due ?a__law_run_text_due ?l__law_run_text_due ?c__law_run_text_due ?k__law_run_text_due ?a__law_table_due ?l__law_table_due ?c__law_table_due ?k__law_table_due ?a__law_is ?l__law_is ?c__law_is ?k__law_is ?a__law_read ?l__law_read ?c__law_read ?k__law_read ?a__law_text_right ?l__law_text_right ?c__law_text_right ?k__law_text_right ?a_law ?l_law ?c_law ?k_law ?ch ?nP
    (case t_isinstance => k_is)
    (case t_int => k_is)
    (case t_bool => k_is)
    (case t_str => k_is)
    (case t_tuple => k_is)
    (case t_list => k_is)
    (case t_dict => k_is)
    (case t_set => k_is)
    (case t_len => k_is)
    (case t_all => k_is)
    (case t_max => k_is)
    (case t_abs => k_is)
    (case t_range => k_is)
    (case t_sorted => k_is)
    (case t_enumerate => k_is)
    (case t_MOST_CELLS => k_is)
    (case r_MOST_CELLS => exact ⟨_, rfl⟩)
    (case t_MOST_KINDS => k_is)
    (case r_MOST_KINDS => exact ⟨_, rfl⟩)
    (case t_MOST_READS => k_is)
    (case r_MOST_READS => exact ⟨_, rfl⟩)
    (case t_MOST_DEEDS => k_is)
    (case r_MOST_DEEDS => exact ⟨_, rfl⟩)
    (case t_MOST_STEPS => k_is)
    (case r_MOST_STEPS => exact ⟨_, rfl⟩)
    (case t_MOST_FIGURES => k_is)
    (case r_MOST_FIGURES => exact ⟨_, rfl⟩)
    (case t_DO => k_is)
    (case r_DO => exact ⟨_, rfl⟩)
    (case t_LAY => k_is)
    (case r_LAY => exact ⟨_, rfl⟩)
    (case t_NOTHING => k_is)
    (case r_NOTHING => exact ⟨_, rfl⟩)
    (case t_FIGURES => k_is)
    (case r_FIGURES => exact ⟨_, rfl⟩)
    (case g_bt => k_is)
    (case g_bb => k_is)
    (case g_nj => k_is)
    (case g_nr => k_is)
    (case g_pe => k_is)
    (case g_tb => k_is)
    (case g_hs => k_is)
    (case x_bt => k_is)
    (case rv_bt => first | decide +kernel | rfl)
    (case ga_bt => k_is)
    (case gg_bt => k_is)
    (case x_bb => k_is)
    (case rv_bb => first | decide +kernel | rfl)
    (case ga_bb => k_is)
    (case gg_bb => k_is)
    (case sa_bt => k_is)
    (case hd_bt => k_is)
    (case sa_bb => k_is)
    (case hd_bb => k_is)
    (case sa_tb => k_is)
    (case hd_tb => k_is)
    (case sa_hs => k_is)
    (case hd_hs => k_is)
    (case ex_bt => k_is)
    (case ty_bt => k_is)
    (case ic_bt => k_is)
    (case ex_bb => k_is)
    (case ty_bb => k_is)
    (case ic_bb => k_is)
    (case ex_nj => k_is)
    (case ty_nj => k_is)
    (case ic_nj => k_is)
    (case ex_nr => k_is)
    (case ty_nr => k_is)
    (case ic_nr => k_is)
    (case kp_bt => k_is)
    (case kp_bb => k_is)
    (case kp_nj => k_is)
    (case kp_nr => k_is)
    (case kp_tb => k_is)
    (case kp_hs => k_is)
    (case n_bt_line => k_is)
    (case n_bb_part => k_is)
    (case n_bb_at => k_is)
    (case n_tb_cells => k_is)
    (case n_tb_kinds => k_is)
    (case n_hs_cells_written => k_is)
    (case n_hs_read => k_is)
    (case n_hs_last => k_is)
    (case pg_tb => k_is)
    (case po_tb => k_is)
    (case mk_tb => k_is)
    (case pg_hs => k_is)
    (case po_hs => k_is)
    (case mk_hs => k_is)
    (case ha_tb => k_is)
    (case hn_tb => k_is)
    (case tk_tb => k_is)
    (case mr_tb => k_is)
    (case hst => first | kit_is | kernel_rfl | rfl)
    (case s_bt_bt => k_is)
    (case s_bb_bt => k_is)
    (case s_bb_bb => k_is)
    (case s_nj_bt => k_is)
    (case s_nj_bb => k_is)
    (case s_nj_nj => k_is)
    (case s_nr_bt => k_is)
    (case s_nr_bb => k_is)
    (case s_nr_nj => k_is)
    (case s_nr_nr => k_is)
    (case eb => exact PySem.F.excBase_ValueError)
    (case ei_nj => k_exc)
    (case ei_nr => k_exc)
    (case a_is_integer => k_is)
    (case l_is_integer => k_is)
    (case c_is_integer => k_is)
    (case k_is_integer => k_is)
    (case a_is_within => k_is)
    (case l_is_within => k_is)
    (case c_is_within => k_is)
    (case k_is_within => k_is)
    (case a_is_pair => k_is)
    (case l_is_pair => k_is)
    (case c_is_pair => k_is)
    (case k_is_pair => k_is)
    (case a_is_lot => k_is)
    (case l_is_lot => k_is)
    (case c_is_lot => k_is)
    (case k_is_lot => k_is)
    (case a_is_kind => k_is)
    (case l_is_kind => k_is)
    (case c_is_kind => k_is)
    (case k_is_kind => k_is)
    (case a_number_of => k_is)
    (case l_number_of => k_is)
    (case c_number_of => k_is)
    (case k_number_of => k_is)
    (case a_numbers_of => k_is)
    (case l_numbers_of => k_is)
    (case c_numbers_of => k_is)
    (case k_numbers_of => k_is)
    (case a__law_number_of => k_is)
    (case l__law_number_of => k_is)
    (case c__law_number_of => k_is)
    (case k__law_number_of => k_is)
    (case a__law_numbers_of => k_is)
    (case l__law_numbers_of => k_is)
    (case c__law_numbers_of => k_is)
    (case k__law_numbers_of => k_is)
    (case a_cells_of => k_is)
    (case l_cells_of => k_is)
    (case c_cells_of => k_is)
    (case k_cells_of => k_is)
    (case a_kind_of => k_is)
    (case l_kind_of => k_is)
    (case c_kind_of => k_is)
    (case k_kind_of => k_is)
    (case a_BadText => k_is)
    (case l_BadText => k_is)
    (case c_BadText => k_is)
    (case i_BadText => k_is)
    (case k_BadText => k_is)
    (case a_BadTable => k_is)
    (case l_BadTable => k_is)
    (case c_BadTable => k_is)
    (case i_BadTable => k_is)
    (case k_BadTable => k_is)
    (case a_Table => k_is)
    (case l_Table => k_is)
    (case c_Table => k_is)
    (case i_Table => k_is)
    (case k_Table => k_is)
    (case a_is_journal => k_is)
    (case l_is_journal => k_is)
    (case c_is_journal => k_is)
    (case k_is_journal => k_is)
    (case a_begin_of => k_is)
    (case l_begin_of => k_is)
    (case c_begin_of => k_is)
    (case k_begin_of => k_is)
    (case a_all_fresh => k_is)
    (case l_all_fresh => k_is)
    (case c_all_fresh => k_is)
    (case k_all_fresh => k_is)
    (case a_History => k_is)
    (case l_History => k_is)
    (case c_History => k_is)
    (case i_History => k_is)
    (case k_History => k_is)
    (case a_closure => k_is)
    (case l_closure => k_is)
    (case c_closure => k_is)
    (case k_closure => k_is)
    (case a_is_all_there => k_is)
    (case l_is_all_there => k_is)
    (case c_is_all_there => k_is)
    (case k_is_all_there => k_is)
    (case a_laid => k_is)
    (case l_laid => k_is)
    (case c_laid => k_is)
    (case k_laid => k_is)
    (case a_is_step => k_is)
    (case l_is_step => k_is)
    (case c_is_step => k_is)
    (case k_is_step => k_is)
    (case a_led_by => k_is)
    (case l_led_by => k_is)
    (case c_led_by => k_is)
    (case k_led_by => k_is)
    (case a_behind_run => k_is)
    (case l_behind_run => k_is)
    (case c_behind_run => k_is)
    (case k_behind_run => k_is)
    (case a_is_run => k_is)
    (case l_is_run => k_is)
    (case c_is_run => k_is)
    (case k_is_run => k_is)
    (case a_check_string => k_is)
    (case l_check_string => k_is)
    (case c_check_string => k_is)
    (case k_check_string => k_is)
    (case a_words_of => k_is)
    (case l_words_of => k_is)
    (case c_words_of => k_is)
    (case k_words_of => k_is)
    (case a_read_journal => k_is)
    (case l_read_journal => k_is)
    (case c_read_journal => k_is)
    (case k_read_journal => k_is)
    (case a_step_of => k_is)
    (case l_step_of => k_is)
    (case c_step_of => k_is)
    (case k_step_of => k_is)
    (case a_read_run => k_is)
    (case l_read_run => k_is)
    (case c_read_run => k_is)
    (case k_read_run => k_is)
    (case a_read_table => k_is)
    (case l_read_table => k_is)
    (case c_read_table => k_is)
    (case k_read_table => k_is)
    (case a__law_draw => k_is)
    (case l__law_draw => k_is)
    (case c__law_draw => k_is)
    (case k__law_draw => k_is)
    (case a__law_pool => k_is)
    (case l__law_pool => k_is)
    (case c__law_pool => k_is)
    (case k__law_pool => k_is)
    (case a__law_pick => k_is)
    (case l__law_pick => k_is)
    (case c__law_pick => k_is)
    (case k__law_pick => k_is)
    (case a__law_is_number => k_is)
    (case l__law_is_number => k_is)
    (case c__law_is_number => k_is)
    (case k__law_is_number => k_is)
    (case a__law_fresh => k_is)
    (case l__law_fresh => k_is)
    (case c__law_fresh => k_is)
    (case k__law_fresh => k_is)
    (case a__law_made => k_is)
    (case l__law_made => k_is)
    (case c__law_made => k_is)
    (case k__law_made => k_is)
    (case a__law_is_journal => k_is)
    (case l__law_is_journal => k_is)
    (case c__law_is_journal => k_is)
    (case k__law_is_journal => k_is)
    (case a__law_journal => k_is)
    (case l__law_journal => k_is)
    (case c__law_journal => k_is)
    (case k__law_journal => k_is)
    (case a__law_reads => k_is)
    (case l__law_reads => k_is)
    (case c__law_reads => k_is)
    (case k__law_reads => k_is)
    (case a__law_mixed => k_is)
    (case l__law_mixed => k_is)
    (case c__law_mixed => k_is)
    (case k__law_mixed => k_is)
    (case a__law_spec => k_is)
    (case l__law_spec => k_is)
    (case c__law_spec => k_is)
    (case k__law_spec => k_is)
    (case a__law_story => k_is)
    (case l__law_story => k_is)
    (case c__law_story => k_is)
    (case k__law_story => k_is)
    (case a__law_is_there => k_is)
    (case l__law_is_there => k_is)
    (case c__law_is_there => k_is)
    (case k__law_is_there => k_is)
    (case a__law_laid => k_is)
    (case l__law_laid => k_is)
    (case c__law_laid => k_is)
    (case k__law_laid => k_is)
    (case a__law_run_due => k_is)
    (case l__law_run_due => k_is)
    (case c__law_run_due => k_is)
    (case k__law_run_due => k_is)
    (case a__law_drawn_run => k_is)
    (case l__law_drawn_run => k_is)
    (case c__law_drawn_run => k_is)
    (case k__law_drawn_run => k_is)
    (case a__law_line => k_is)
    (case l__law_line => k_is)
    (case c__law_line => k_is)
    (case k__law_line => k_is)
    (case a__law_joined => k_is)
    (case l__law_joined => k_is)
    (case c__law_joined => k_is)
    (case k__law_joined => k_is)
    (case a__law_run_text => k_is)
    (case l__law_run_text => k_is)
    (case c__law_run_text => k_is)
    (case k__law_run_text => k_is)
    (case a__law_table_text => k_is)
    (case l__law_table_text => k_is)
    (case c__law_table_text => k_is)
    (case k__law_table_text => k_is)
    (case a__law_bent_text => k_is)
    (case l__law_bent_text => k_is)
    (case c__law_bent_text => k_is)
    (case k__law_bent_text => k_is)
    (case a__law_deep => k_is)
    (case l__law_deep => k_is)
    (case c__law_deep => k_is)
    (case k__law_deep => k_is)
    (case a__law_journal_due => k_is)
    (case l__law_journal_due => k_is)
    (case c__law_journal_due => k_is)
    (case k__law_journal_due => k_is)
    (case a__law_run_text_due => k_is)
    (case l__law_run_text_due => k_is)
    (case c__law_run_text_due => k_is)
    (case k__law_run_text_due => k_is)
    (case a__law_table_due => k_is)
    (case l__law_table_due => k_is)
    (case c__law_table_due => k_is)
    (case k__law_table_due => k_is)
    (case a__law_is => k_is)
    (case l__law_is => k_is)
    (case c__law_is => k_is)
    (case k__law_is => k_is)
    (case a__law_read => k_is)
    (case l__law_read => k_is)
    (case c__law_read => k_is)
    (case k__law_read => k_is)
    (case a__law_text_right => k_is)
    (case l__law_text_right => k_is)
    (case c__law_text_right => k_is)
    (case k__law_text_right => k_is)
    (case a_law => k_is)
    (case l_law => k_is)
    (case c_law => k_is)
    (case k_law => k_is)
    (case ch => first | kernel_rfl | rfl)
    (case nP => first | kernel_rfl | rfl)
