import PyProof.Rows.All
import Wide.All
import OpenK.AllK
import Wide.FinOn
import HandS.ForMost
import HandS.Wide
import HandS.IsInst
import HandS.Zip
import HandS.SetTxt0
import HandS.Strs
import HandS.Style
import HandS.Evl
import PyProof.Rows.SortStr
import PyProof.Rows.SetFrom
import HandS.SetFor
import KE.KxText
import HandS.Dict
import HandS.More
import HandS.DictTup
import HandS.SetKeys
import HandS.Deep
import KE.DataEq
import HandS.TryOnly
import HandS.ExcInit
import HandS.ExcField
import HandS.WordsExc
import HandS.TryMany
import HandS.Star
import PySem.Challenge.RW_waitwords_k26_rules_of_flat_kinds
set_option Elab.async false
set_option linter.all false
set_option maxRecDepth 100000
set_option maxHeartbeats 4000000
namespace Ww
open PySem PySem.Spec PyProof.Rows L2

/-! ### calls by keywords alone -/
/-- how the keywords' values come to the parameters -/
structure KB0 (K : PySem.W.Frag) (fd : FuncData) (ps ks : List Str) (g : List Value → List Value) (gV : List V → List V) : Prop where
  to : ∀ (s : Shared) (ws : List Value), ws.length = ks.length → BindsTo s fd ⟨[], ks.zip ws⟩ (ps.zip (g ws))
  rel : ∀ {zs : List V} {ws : List Value}, Vals zs ws → Vals (gV zs) (g ws)
section
variable {X : Cx} {CX : CXT} {k : Nat} {f : Addr} {fd : FuncData} {ps ks : List Str} {sp : Sp} {E : XK} {x : Str} {p pos : Pos} {kws : List Keyword} {tk : TA} {g : List Value → List Value} {gV : List V → List V}
def tCallQ (n : Nat) (sp : Sp) (gV : List V → List V) (E : XK) (tk : TA) : TE := fun σ H Q => tk σ H fun zs H2 => zs.length = n ∧ sp (gV zs) H2 Q E
theorem pe_callQ (F : FnOk X.prog X.w X.K X.mg X.base CX k f fd ps sp) (hr : Room k X.A) (hg : Gl X x) (hm : X.mg x = some (.ref f)) (hk : PySem.W.keepIn X.K (.ref f) = true) (hb : KB0 X.K fd ps ks g gV) (hx : Passes CX X E)
    (hkw : PK X kws tk) (hall : (backToKw pos (keywordEach kws X.env)).all (·.1.isSome) = true := by rfl) (hks : (backToKw pos (keywordEach kws X.env)).filterMap (·.1) = ks := by rfl)
    (hdb : (x == ("__debug__" : Str)) = false := by decide)
    (hpl : ((backTo pos (starEach [] X.env)).any (·.1) || (backToKw pos (keywordEach kws X.env)).any (·.1.isNone)) = false := by rfl) :
    PE X (.Call (.Name x p) [] kws pos) (tCallQ ks.length sp gV E tk) := by
  refine ⟨fun pins s σ H Q I h => ?_⟩
  refine wpAny_Call_Name_kw (ld_glob I hg hm ?_ hdb)
  refine PySem.W.callWith_KW0 (h₀ := X.base) I.ok.mod.kin hk hall (thn (hkw.run pos pins s σ H _ I h) fun ws s2 ⟨zs, H2, I2, rz, hl, q2⟩ => ⟨I2.kIn, ?_⟩) hpl
  rw [hks]
  refine wpAny_call (codeAny_mono (F.run X.A X.stack s2 H2 ⟨[], ks.zip ws⟩ (g ws) (gV zs) Q E hr I2.env0 (hb.to s2 ws (rz.length.symm.trans hl)) (hb.rel rz) q2) fun r s' hq => ?_)
  match r, hq with
  | .error e, hq => exact hx pins σ H2 s2 e s' I2 hq
  | .ok (.ret u), hq => exact I2.after hq
  | .ok .next, hq => exact hq.elim
  | .ok .brk, hq => exact hq.elim
  | .ok .cont, hq => exact hq.elim
/-- one keyword, the def's one parameter -/
theorem kb_one {K : PySem.W.Frag} {x qual y : Str} {st : Stmt} {f : Addr} {fd : FuncData} (F : Fun K x qual st f fd)
    (h : ∀ (kV doc pm : Value) (an : Option Addr) (cdv ct u : Value), bindArgs (PySem.W.fnOf x qual (defArgs st) (defBody st) (defScope st) .none kV doc pm an cdv ct) ⟨[], [(y, u)]⟩ = pure [(y, u)]) :
    KB0 K fd [y] [y] (fun ws => ws) (fun zs => zs) := by
  obtain ⟨oc, od, kV, doc, pm, an, cdv, ct, osl, rfl, lk, hcd⟩ := F.ex
  refine ⟨fun s ws hl => ?_, fun r => r⟩
  match ws, hl with
  | [u], _ => exact .of_eq (h kV doc pm an cdv ct u)
end

/-! ### heaps -/
theorem same_new {H : Hp} {p : Addr} (h : H p = none) (o : HO) : Same H (upd H p o) := fun b u q => by
  rw [upd_ne (ne_of_none q h)]
  exact q
theorem Same.at {H H' : Hp} {a : Addr} {o : HO} (e : Same H H') (h : H a = some o) : H' a = some o := e a o h
/-- the tuples stand -/
def Tps (H H' : Hp) : Prop := ∀ b xs, H b = some (.tup xs) → H' b = some (.tup xs)
theorem Tps.refl (H : Hp) : Tps H H := fun _ _ h => h
theorem Tps.trans {H H1 H2 : Hp} (a : Tps H H1) (b : Tps H1 H2) : Tps H H2 := fun c o h => b c o (a c o h)
theorem Tps.of {H H' : Hp} (e : Same H H') : Tps H H' := fun b xs h => e b _ h
theorem Tps.lst {H : Hp} {a : Addr} {xs : List V} {o : HO} (h : H a = some (.lst xs)) : Tps H (upd H a o) := fun b ys q => by
  rw [upd_ne (ne_of q h (fun z => by cases z))]
  exact q
theorem Tps.new {H : Hp} {a : Addr} {o : HO} (h : H a = none) : Tps H (upd H a o) := .of (same_new h o)
/-- all but a stands -/
def But (a : Addr) (H H' : Hp) : Prop := ∀ b o, b ≠ a → H b = some o → H' b = some o
theorem But.refl (a : Addr) (H : Hp) : But a H H := fun _ _ _ h => h
theorem But.trans {a : Addr} {H H1 H2 : Hp} (x : But a H H1) (y : But a H1 H2) : But a H H2 := fun c o n h => y c o n (x c o n h)
theorem But.of {a : Addr} {H H' : Hp} (e : Same H H') : But a H H' := fun b o _ h => e b o h
theorem But.upd {a : Addr} {H : Hp} {o : HO} : But a H (upd H a o) := fun b u n h => by
  rw [upd_ne n]
  exact h
theorem But.new {a p : Addr} {H : Hp} {o : HO} (h : H p = none) : But a H (L2.upd H p o) := .of (same_new h o)
theorem But.tps {a : Addr} {H H' : Hp} {xs : List V} (e : But a H H') (h : H a = some (.lst xs)) : Tps H H' := fun b ys q => e b _ (ne_of q h (fun z => by cases z)) q
/-- what H does not know is not told of H' either, if H' is behind it: backwards -/
theorem free_of {H H' : Hp} (e : Same H H') {l : Addr} (h : H' l = none) : H l = none := e.free h

/-! ### kinds -/
inductive Kd where
  | pl (s : Str)
  | nd (f : Str) (a b : Kd)
def KAt (H : Hp) : V → Kd → Prop
  | v, .pl s => ∃ p, v = .ref p ∧ H p = some (.tup [.str "plain", .str s])
  | v, .nd f a b => ∃ p x y, v = .ref p ∧ H p = some (.tup [.str f, x, y]) ∧ KAt H x a ∧ KAt H y b
theorem KAt.mono {H H' : Hp} (e : Tps H H') : ∀ {k : Kd} {v : V}, KAt H v k → KAt H' v k
  | .pl _, _, ⟨p, q, h⟩ => ⟨p, q, e _ _ h⟩
  | .nd _ _ _, _, ⟨p, x, y, q, h, h1, h2⟩ => ⟨p, x, y, q, e _ _ h, KAt.mono e h1, KAt.mono e h2⟩
/-- a letter from a to z -/
def Let (s : Str) : Prop := ∃ c : Nat, s = ⟨#[c]⟩ ∧ 97 ≤ c ∧ c ≤ 122
def Form (f : Str) : Prop := f = "behind" ∨ f = "ahead" ∨ f = "with"
def Kd.ok : Kd → Prop
  | .pl s => Let s
  | .nd f a b => Form f ∧ a.ok ∧ b.ok
def Kd.deep : Kd → Nat
  | .pl _ => 1
  | .nd _ a b => 1 + max a.deep b.deep
def Kd.letters : Kd → List Str
  | .pl s => [s]
  | .nd _ a b => a.letters ++ b.letters
def Kd.single : Kd → Bool
  | .pl _ => true
  | .nd f a b => !decide (f = "with") && (a.single && b.single)
theorem Kd.deep_pos : ∀ k : Kd, 1 ≤ k.deep
  | .pl _ => Nat.le_refl 1
  | .nd _ a b => by show 1 ≤ 1 + max a.deep b.deep; omega
theorem Kd.letters_pos : ∀ k : Kd, 1 ≤ k.letters.length
  | .pl _ => Nat.le_refl 1
  | .nd _ a b => by
    show 1 ≤ (a.letters ++ b.letters).length
    have := Kd.letters_pos a
    rw [List.length_append]
    omega
/-- as data -/
def Kd.dat : Kd → PyData
  | .pl s => .tuple [.str "plain", .str s]
  | .nd f a b => .tuple [.str f, a.dat, b.dat]
theorem KAt.dp {K : PySem.W.Frag} {H : Hp} : ∀ {k : Kd} {v : V}, KAt H v k → Dp K H v k.dat
  | .pl _, _, ⟨p, q, h⟩ => by
    subst q
    exact .tup (SqT.of h) (.cons (.str _) (.cons (.str _) .nil))
  | .nd _ _ _, _, ⟨p, x, y, q, h, h1, h2⟩ => by
    subst q
    exact .tup (SqT.of h) (.cons (.str _) (.cons h1.dp (.cons h2.dp .nil)))

/-! ### data -/
mutual
theorem dp_same {K : PySem.W.Frag} {H H' : Hp} (e : Same H H') : ∀ {d : PyData} {v : V}, Dp K H v d → Dp K H' v d
  | .none, _, h => by
    cases h
    exact .non
  | .bool _, _, h => by
    cases h
    exact .bl _
  | .int _, _, h => by
    cases h
    exact .int _
  | .str _, _, h => by
    cases h
    exact .str _
  | .list _, _, h => by
    cases h with
    | lst hs ha => exact .lst (e.seq hs) (dps_same e ha)
  | .tuple _, _, h => by
    cases h with
    | tup hs ha => exact .tup (Evl.ex_t e hs) (dps_same e ha)
  | .dict _, _, h => by cases h
theorem dps_same {K : PySem.W.Frag} {H H' : Hp} (e : Same H H') : ∀ {ds : List PyData} {vs : List V}, DpAll K H vs ds → DpAll K H' vs ds
  | [], _, h => by
    cases h
    exact .nil
  | _ :: _, _, h => by
    cases h with
    | cons h1 h2 => exact .cons (dp_same e h1) (dps_same e h2)
end
end Ww

namespace Ww
open PySem PySem.Spec PyProof.Rows L2 PySem.Froz

/-! ### texts in strict order -/
/-- a is xs without doubles, ascending -/
structure Srt (xs a : List Str) : Prop where
  up : a.Pairwise fun x y => x.cps.toList < y.cps.toList
  mem : ∀ k, k ∈ a ↔ k ∈ xs
theorem str_ext {x y : Str} (h : x.cps.toList = y.cps.toList) : x = y := by
  cases x with
  | mk a =>
    cases y with
    | mk b =>
      have e : a = b := Array.ext' h
      rw [e]
theorem up_unique {α : Type} {R : α → α → Prop} (irr : ∀ x, ¬ R x x) (asy : ∀ x y, R x y → ¬ R y x) : ∀ {a b : List α}, a.Pairwise R → b.Pairwise R → (∀ k, k ∈ a ↔ k ∈ b) → a = b
  | [], [], _, _, _ => rfl
  | [], y :: b, _, _, m => absurd ((m y).2 List.mem_cons_self) (by simp)
  | x :: a, [], _, _, m => absurd ((m x).1 List.mem_cons_self) (by simp)
  | x :: a, y :: b, ha, hb, m => by
    obtain ⟨a1, a2⟩ := List.pairwise_cons.mp ha
    obtain ⟨b1, b2⟩ := List.pairwise_cons.mp hb
    have e : x = y := by
      rcases List.mem_cons.mp ((m x).1 List.mem_cons_self) with e | hx
      · exact e
      · rcases List.mem_cons.mp ((m y).2 List.mem_cons_self) with e | hy
        · exact e.symm
        · exact absurd (a1 y hy) (asy _ _ (b1 x hx))
    subst e
    congr 1
    refine up_unique irr asy a2 b2 fun k => ⟨fun hk => ?_, fun hk => ?_⟩
    · rcases List.mem_cons.mp ((m k).1 (List.mem_cons_of_mem _ hk)) with e | h
      · subst e
        exact absurd (a1 _ hk) (irr _)
      · exact h
    · rcases List.mem_cons.mp ((m k).2 (List.mem_cons_of_mem _ hk)) with e | h
      · subst e
        exact absurd (b1 _ hk) (irr _)
      · exact h
theorem lt_irr (x : List Nat) : ¬ x < x := List.lt_irrefl x
theorem Srt.eq {xs a b : List Str} (h : Srt xs a) (k : Srt xs b) : a = b :=
  up_unique (R := fun x y : Str => x.cps.toList < y.cps.toList) (fun x => lt_irr _) (fun x y h1 h2 => List.lt_asymm h1 h2) h.up k.up fun z => (h.mem z).trans (k.mem z).symm
theorem Srt.same {xs ys a : List Str} (h : Srt xs a) (e : ∀ k, k ∈ xs ↔ k ∈ ys) : Srt ys a := ⟨h.up, fun k => (h.mem k).trans (e k)⟩
theorem Srt.nodup {xs a : List Str} (h : Srt xs a) : a.Nodup := h.up.imp fun {x y} q e => by
  subst e
  exact lt_irr _ q
theorem rises {p : Str} : ∀ {l : List Str}, risingS p l = true → (p :: l).Pairwise fun x y => ¬ y.cps.toList < x.cps.toList
  | [], _ => List.pairwise_singleton _ _
  | x :: r, h => by
    unfold risingS at h
    rw [Bool.and_eq_true] at h
    have h1 : ¬ x.cps.toList < p.cps.toList := by
      have z := h.1
      rw [ltCps_eq] at z
      simpa using z
    have ih := rises h.2
    refine List.pairwise_cons.mpr ⟨fun y hy => ?_, ih⟩
    rcases List.mem_cons.mp hy with e | hy
    · subst e
      exact h1
    · have h2 := (List.pairwise_cons.mp ih).1 y hy
      exact List.not_lt.mpr (List.le_trans (List.not_lt.mp h1) (List.not_lt.mp h2))
theorem srt_of {xs a : List Str} (hs : sortedS a = true) (nd : a.Nodup) (m : ∀ k, k ∈ a ↔ k ∈ xs) : Srt xs a := by
  refine ⟨?_, m⟩
  have h : a.Pairwise fun x y => ¬ y.cps.toList < x.cps.toList := by
    cases a with
    | nil => exact List.Pairwise.nil
    | cons p l => exact rises hs
  refine (List.pairwise_iff_getElem.mpr fun i j hi hj hij => ?_)
  have h1 := List.pairwise_iff_getElem.mp h i j hi hj hij
  have h2 : a[i] ≠ a[j] := List.pairwise_iff_getElem.mp nd i j hi hj hij
  rcases Decidable.em (a[i].cps.toList < a[j].cps.toList) with z | z
  · exact z
  · exact absurd (str_ext (List.le_antisymm (List.not_lt.mp h1) (List.not_lt.mp z))) h2

/-! ### a set of texts -/
/-- the set at a holds the texts l (each once, in some order); it can be walked -/
def SetS (P : Program) (w : World) (h : Heap) (a : Addr) (l : List Str) : Prop :=
  ∃ D : SD, h.get? a = some (sObj "set" D) ∧ TxOk P w D l ∧ l.Nodup ∧ Ris D.2.2.place.toList ∧ (w.params.followText "set-order" = true ∨ D.2.2.led = true)
section
variable {P : Program} {w : World} {h h' : Heap} {a : Addr} {l : List Str}
theorem SetS.at (R : SetS P w h a l) (k : ∀ o, h.get? a = some o → h'.get? a = some o) : SetS P w h' a l := by
  obtain ⟨D, ho, r⟩ := R
  exact ⟨D, k _ ho, r⟩
theorem SetS.lt (R : SetS P w h a l) : a < h.objs.size := by
  obtain ⟨D, ho, _⟩ := R
  exact Heap.lt_size ho
theorem fresh_ris (led : Bool) : Ris (SetTable.fresh 0 0 led).place.toList := List.Pairwise.nil
theorem tail_ris {ep : Nat} {es : Array (Int × Value)} {t : SetTable} {d : Bool} (r : Ris t.place.toList) : Ris (tailTx ep es t d).2.2.place.toList := by
  unfold tailTx
  split
  · exact relayAll_ris _ _ _
  · exact r
theorem tail_led {ep : Nat} {es : Array (Int × Value)} {t : SetTable} {d : Bool} : (tailTx ep es t d).2.2.led = t.led := by
  unfold tailTx
  split
  · exact relayAll_led _ _ _
  · rfl
theorem off_ris {t : SetTable} (r : Ris t.place.toList) : Ris (if t.plain = true then { t with plain := false } else t).place.toList := by
  split <;> exact r
theorem off_led {t : SetTable} : (if t.plain = true then { t with plain := false } else t).led = t.led := by
  split <;> rfl
theorem add_ris {D : SD} {hs : Int} {v : Value} (r : Ris D.2.2.place.toList) : Ris (addTx hs v D).2.2.place.toList :=
  tail_ris (off_ris (layNew_ris D.2.2 D.1 hs v r))
theorem add_led {D : SD} {hs : Int} {v : Value} : (addTx hs v D).2.2.led = D.2.2.led :=
  tail_led.trans (off_led.trans (layNew_led D.2.2 D.1 hs v))
end
section
variable {P : Program} {w : World} {A : Around} {E : Value → Shared → Prop} {s : Shared} {a : Addr} {l : List Str}
/-- a text that the set holds, added once more -/
theorem add_old {D : SD} {k : Str} {u : Tok} {Q : Bool → Shared → Prop} (ho : s.heap.get? a = some (sObj "set" D)) (F : TxOk P w D l) (hk : k ∈ l) (hb : l.length < scanBound) (h : Q false s) :
    wpAny (model P w) A (setAddHashed a (.str k u) (hashStr w k)) Q E s := by
  obtain ⟨es, ep, t⟩ := D
  have hd : (sObj "set" (es, ep, t)).data = .set es ep t := rfl
  have hf : t.fits es.size = true := F.fit
  have hel : ElemsOf (strKind P w) es.toList := F.el
  have hb0 : es.size < scanBound := by
    have := F.sz
    simp only at this
    omega
  have hkey : (strKind P w).is k (.str k u) = true := is_str k u
  unfold setAddHashed setAddHashedIn
  refine wpAny_holding (wpAny_bind (wpAny_setState_of ho hd hf ?_))
  dsimp only
  rw [byScan_of rfl hb0 hel]
  simp only [↓reduceIte]
  unfold setAddByScan
  refine wpAny_bind (wpAny_bind (wpAny_rule (wpAny_bind (wpAny_setScan_of (knd := strKind P w) (k := k) hkey ho hd hf hel ?_))))
  cases hfi : List.findIdx? (fun e => (strKind P w).is k e.2) es.toList with
  | some j =>
    dsimp only
    exact wpAny_pure (wpAny_pure h)
  | none =>
    obtain ⟨e, he, q⟩ := (F.mem k).mp hk
    have c := List.findIdx?_eq_none_iff.mp hfi e he
    rw [q] at c
    cases c
theorem setS_add {k : Str} {u : Tok} {Q : Bool → Shared → Prop} (R : SetS P w s.heap a l) (hb : l.length + 1 < scanBound)
    (h : ∀ (h' : Heap) (b : Bool), Heap.SameBut a s.heap h' → SetS P w h' a (if k ∈ l then l else k :: l) → Q b { s with heap := h' }) :
    wpAny (model P w) A (setAddHashed a (.str k u) (hashStr w k)) Q E s := by
  obtain ⟨D, ho, F, nd, r, hl⟩ := R
  by_cases hk : k ∈ l
  · refine add_old ho F hk (by omega) ?_
    have q := h s.heap false (Heap.SameBut.refl a s.heap)
    rw [if_pos hk] at q
    exact q ⟨D, ho, F, nd, r, hl⟩
  · refine add_x ho F hk hb ?_
    have q := h _ true (Heap.SameBut.update s.heap a (fun _ => sObj "set" (addTx (hashStr w k) (.str k u) D)))
    rw [if_neg hk] at q
    exact q ⟨_, get_upd _ ho rfl, add_ok u F, List.nodup_cons.mpr ⟨hk, nd⟩, add_ris r, hl.imp id fun z => by rw [add_led]; exact z⟩
end
/-- what set(xs) holds -/
def dedup : List Str → List Str → List Str
  | l, [] => l
  | l, k :: r => dedup (if k ∈ l then l else k :: l) r
theorem mem_dedup : ∀ (xs l : List Str) (k : Str), k ∈ dedup l xs ↔ k ∈ l ∨ k ∈ xs
  | [], l, k => by simp [dedup]
  | x :: r, l, k => by
    unfold dedup
    rw [mem_dedup r]
    by_cases hx : x ∈ l
    · rw [if_pos hx, List.mem_cons]
      constructor
      · rintro (z | z)
        · exact .inl z
        · exact .inr (.inr z)
      · rintro (z | z | z)
        · exact .inl z
        · exact .inl (z ▸ hx)
        · exact .inr z
    · rw [if_neg hx, List.mem_cons, List.mem_cons]
      constructor
      · rintro ((z | z) | z)
        · exact .inr (.inl z)
        · exact .inl z
        · exact .inr (.inr z)
      · rintro (z | z | z)
        · exact .inl (.inr z)
        · exact .inl (.inl z)
        · exact .inr z
theorem dedup_len : ∀ (xs l : List Str), (dedup l xs).length ≤ l.length + xs.length
  | [], l => Nat.le_refl _
  | x :: r, l => by
    unfold dedup
    have h := dedup_len r (if x ∈ l then l else x :: l)
    have h2 : (if x ∈ l then l else x :: l).length ≤ l.length + 1 := by split <;> simp
    rw [List.length_cons]
    omega
theorem dedup_more (xs : List Str) : ∀ (l : List Str) (i : Nat) (x : Str), xs[i]? = some x → dedup l (xs.take (i + 1)) = (if x ∈ dedup l (xs.take i) then dedup l (xs.take i) else x :: dedup l (xs.take i)) := by
  induction xs with
  | nil => intro l i x h; simp at h
  | cons y r ih =>
    intro l i x h
    cases i with
    | zero =>
      have e : y = x := by simpa using h
      subst e
      rfl
    | succ i =>
      have h' : r[i]? = some x := by simpa using h
      show dedup (if y ∈ l then l else y :: l) (r.take (i + 1)) = _
      rw [ih _ i x h']
      rfl
end Ww

namespace Ww
open PySem PySem.Spec PyProof.Rows L2 PySem.Froz
theorem strs_ix : ∀ {us : List Value} {xs : List Str}, StrsAre us xs → ∀ (i : Nat) (v : Value), us[i]? = some v → ∃ k t, xs[i]? = some k ∧ v = .str k t
  | _, _, .nil, i, v, h => by simp at h
  | _, _, .cons y t _, 0, v, h => ⟨y, t, rfl, by simpa using h.symm⟩
  | _, _, .cons _ _ hr, i + 1, v, h => by
    obtain ⟨k, t, a, b⟩ := strs_ix hr i v (by simpa using h)
    exact ⟨k, t, by simpa using a, b⟩
theorem strs_len {us : List Value} {xs : List Str} (h : StrsAre us xs) : us.length = xs.length := by
  induction h with
  | nil => rfl
  | cons y t _ ih => rw [List.length_cons, List.length_cons, ih]
section
variable {P : Program} {w : World} {A : Around} {E : Value → Shared → Prop} {s : Shared}
theorem loop_strs {I : Addr} {fp wr : List Addr} {G : Array GenState → Array GenState → Prop} {n : Nat} {Pv : Nat → Value → Prop} {St : Nat → Shared → Prop} {R : Result → Shared → Prop}
    (W : WalksS P w A.in1 I fp wr G n Pv St) (S : Addr) (hf : S ∉ fp) (xs : List Str) (hn : n = xs.length) (hb : xs.length + 1 < scanBound)
    (hv : ∀ i v, Pv i v → ∃ k t, xs[i]? = some k ∧ v = .str k t) : ∀ (m i : Nat) (s : Shared), n - i = m → i ≤ n → St i s → SetS P w s.heap S (dedup [] (xs.take i)) →
      (∀ s', Moved (S :: wr) G s s' → SetS P w s'.heap S (dedup [] xs) → R (.ok (.ret .none)) s') →
      codeAny (model P w) A (.builtin "set.update.loop" ⟨[.ref S, .ref I], []⟩) R s := by
  have nw : S ∉ wr := fun z => hf (W.sub _ z)
  have up : ∀ b ∈ wr, b ∈ S :: wr := fun b z => List.mem_cons_of_mem _ z
  intro m
  induction m with
  | zero =>
    intro i s em hi st hS hR
    obtain rfl : i = n := by omega
    refine codeAny_builtin PyProof.Rows.F.entry_set_update_loop ?_
    rw [Around.under_plainId PyProof.Rows.F.plain_set_update_loop _]
    show wpAny _ A.in1 (pyNext (.ref I) >>= _) _ _ s
    refine wpAny_bind (W.done s _ _ st fun s' mv => ?_)
    show wpAny _ A.in1 (ret Value.none) _ _ s'
    rw [List.take_of_length_le (by omega)] at hS
    exact wpAny_pure (hR s' (mv.mono up) (hS.at fun o e => mv.heap S o nw e))
  | succ m ih =>
    intro i s em hi st hS hR
    have lt : i < n := by omega
    refine codeAny_builtin PyProof.Rows.F.entry_set_update_loop ?_
    rw [Around.under_plainId PyProof.Rows.F.plain_set_update_loop _]
    show wpAny _ A.in1 (pyNext (.ref I) >>= _) _ _ s
    refine wpAny_bind (W.item i s _ _ lt st fun v s1 hP st1 mv => ?_)
    obtain ⟨k, t, ek, rfl⟩ := hv i v hP
    have h1 : SetS P w s1.heap S (dedup [] (xs.take i)) := hS.at fun o e => mv.heap S o nw e
    have room : (dedup [] (xs.take i)).length + 1 < scanBound := by
      have q := dedup_len (xs.take i) []
      rw [List.length_take] at q
      simp only [List.length_nil] at q
      omega
    show wpAny _ A.in1 (holding [Value.str k t] (setAdd S (.str k t)) >>= _) _ _ s1
    refine wpAny_bind (wpAny_holding ?_)
    unfold setAdd
    refine wpAny_holding (wpAny_bind ((strKind P w).pyHash (k := k) (is_str k t) ?_))
    refine setS_add (s := { s1 with toks := s1.toks + 1 }) h1 room fun h' b sb h2 => ?_
    rw [← dedup_more xs [] i k ek] at h2
    refine wpAny_pure ⟨plainId_quiet PyProof.Rows.F.plain_set_update_loop _, ih (i + 1) _ (by omega) lt (W.frame _ s1 _ _ st1 (Nat.le_succ _) fun c hc o e => ?_) h2 fun s2 mv2 h3 => ?_⟩
    · exact (sb.2 c fun z => hf (z ▸ hc)).trans e
    · refine hR s2 (Moved.trans W.gtrans ((mv.mono up).then_heap (Nat.le_succ _) fun c o hc e => ?_) mv2) h3
      exact (sb.2 c fun z => hc (z ▸ List.mem_cons_self)).trans e
theorem setS_nil {h : Heap} {a : Addr} (ho : h.get? a = some { cls := .type "set", dict := none, data := .set #[] 0 (.fresh 0 0 (!w.params.followText "set-order")) }) : SetS P w h a [] :=
  ⟨(#[], 0, .fresh 0 0 (!w.params.followText "set-order")), ho, TxOk.nil rfl, List.nodup_nil, fresh_ris _, by
    cases w.params.followText "set-order"
    · exact .inr rfl
    · exact .inl rfl⟩
set_option maxHeartbeats 8000000 in
/-- set(a list of texts) -/
theorem call_set_strs {l : Addr} {items : Array Value} (xs : List Str) {Q : Value → Shared → Prop} (hh : A.handled = none) (hl : s.heap.IsList l items) (hit : StrsAre items.toList xs) (hb : xs.length + 1 < scanBound)
    (h : ∀ (h' : Heap) (tk : Nat), SetS P w h' s.heap.objs.size (dedup [] xs) → (∀ b o, s.heap.get? b = some o → h'.get? b = some o) → Q (.ref s.heap.objs.size) { s with heap := h', toks := tk }) :
    wpAny (model P w) A (call (.type "set") [.ref l]) Q E s := by
  have size : items.size = xs.length := by
    rw [← Array.length_toList]
    exact strs_len hit
  obtain ⟨c, tl, hmro⟩ := PySem.F.called_set.mro
  have hmade := PySem.F.called_set.made
  have hsub := PySem.F.called_set.sub
  refine wpAny_call (codeAny_of_tree ?_)
  show wpAny _ _ (callAny (.type "set") _) _ _ _
  refine wpAny_pure ⟨Code.quiet_builtin _ (by decide +kernel), codeAny_builtin PySem.F.entry_type_call ?_⟩
  rw [Around.under_plain (weight_type_call_type "set" [.ref l] []) rfl]
  have h1 := PySem.F.called_set.notType
  have h2 := PySem.F.called_set.canCreate
  have hct := PySem.F.typeCall_set_1 (.ref l)
  repeat (any_goals (first | assumption | wp_step))
  refine codeAny_mono (code_set_led1 (.ref l) (E := E) (Q₁ := fun obj s₁ => obj = .ref s.heap.objs.size ∧ s₁ = { s with heap := s.heap.push { cls := .type "set", dict := none, data := .set #[] 0 (.fresh 0 0 (!w.params.followText "set-order")) } }) ⟨rfl, rfl⟩) fun r s₁ hr => ?_
  match r, hr with
  | .error e, hr => exact hr
  | .ok .next, hr => exact hr.elim
  | .ok .brk, hr => exact hr.elim
  | .ok .cont, hr => exact hr.elim
  | .ok (.ret obj), hr =>
    obtain ⟨rfl, rfl⟩ := hr
    have hS : (s.heap.push { cls := .type "set", dict := none, data := .set #[] 0 (.fresh 0 0 (!w.params.followText "set-order")) }).get? s.heap.objs.size = some { cls := .type "set", dict := none, data := .set #[] 0 (.fresh 0 0 (!w.params.followText "set-order")) } := Heap.get?_push_size _ rfl
    have hT : Shared.TypeIs { s with heap := s.heap.push { cls := .type "set", dict := none, data := .set #[] 0 (.fresh 0 0 (!w.params.followText "set-order")) } } (.ref s.heap.objs.size) "set" := ⟨_, hS, rfl⟩
    have hli := PySem.F.called_set.init.lookup
    have hbi := PySem.F.called_set.init.bind (.ref s.heap.objs.size)
    repeat (any_goals (first | assumption | wp_step))
    refine codeAny_mono (codeAny_call_builtin (R := wants (fun r s₂ => r = .none ∧ ∃ h' tk, s₂ = { s with heap := h', toks := tk } ∧ SetS P w h' s.heap.objs.size (dedup [] xs) ∧
        (∀ b o, s.heap.get? b = some o → h'.get? b = some o)) E) PySem.F.called_set.init.plain PySem.F.entry_set_init (PySem.check_set_init_1 hT ?_)) fun r₂ s₂ hr₂ => ?_
    · obtain ⟨⟨ocls, odict, odata, oslots⟩, hol, hcl, nl, hdl⟩ := hl
      simp only at hcl hdl
      subst hcl
      subst hdl
      have hol' : (s.heap.push { cls := .type "set", dict := none, data := .set #[] 0 (.fresh 0 0 (!w.params.followText "set-order")) }).get? l = some { cls := .type "list", dict := odict, data := .seq items nl, slots := oslots } := Heap.get?_push_of_some _ hol
      have hsls := PySem.F.sub_list_set
      have hslf := PySem.F.sub_list_frozenset
      have hne : (Value.type "list" == Value.type "dict") = false := by decide
      have hl1 : (s.heap.push { cls := .type "set", dict := none, data := .set #[] 0 (.fresh 0 0 (!w.params.followText "set-order")) }).IsList l items := ⟨_, hol', rfl, nl, rfl⟩
      unfold Builtin.«set.__init__» noKeywords Builtin.Frozenset.updateFrom
      generalize hPI : pyIter = PI
      wp_walk
      subst hPI
      refine wpAny_pyIter_list hl1 ?_
      refine wpAny_bind (wpAny_runValue ?_)
      have lS : l < s.heap.objs.size := Heap.lt_size hol
      have hh3 : A.in1.in1.in1.handled = none := by simp [hh]
      have hz : (s.heap.push { cls := .type "set", dict := none, data := .set #[] 0 (.fresh 0 0 (!w.params.followText "set-order")) }).objs.size = s.heap.objs.size + 1 := Heap.size_push ..
      have nI : l ≠ (s.heap.push { cls := .type "set", dict := none, data := .set #[] 0 (.fresh 0 0 (!w.params.followText "set-order")) }).objs.size := by
        rw [hz]
        exact Nat.ne_of_lt (Nat.lt_succ_of_lt lS)
      have nf : s.heap.objs.size ∉ [(s.heap.push { cls := .type "set", dict := none, data := .set #[] 0 (.fresh 0 0 (!w.params.followText "set-order")) }).objs.size, l] := by
        rw [hz]
        simp only [List.mem_cons, List.not_mem_nil, or_false, not_or]
        exact ⟨Nat.ne_of_lt (Nat.lt_succ_self _), Nat.ne_of_gt lS⟩
      refine loop_strs ((Walks.list hh3 _ l nI items).toS) s.heap.objs.size nf xs size hb (fun i v q => strs_ix hit i v (by rw [Array.getElem?_toList]; exact q)) (items.size - 0) 0 _ (by omega) (Nat.zero_le _)
        ⟨⟨_, Heap.get?_push_size _ rfl, rfl, rfl⟩, (hl1.push _)⟩ (setS_nil (Heap.get?_push_of_some _ hS)) ?_
      intro s' mv h3
      obtain ⟨h', g2, d', tk', os'⟩ := s'
      have eg : g2 = s.gens := mv.gens
      have ed : d' = s.drawn := mv.drawn
      have eo : os' = s.os := mv.os
      subst eg ed eo
      show wpAny _ _ _ _ _ _
      refine wpAny_pure ?_
      show wpAny _ _ (ret Value.none) _ _ _
      refine wpAny_pure ⟨rfl, h', tk', rfl, h3, fun b o e => ?_⟩
      have b0 : b < s.heap.objs.size := Heap.lt_size e
      refine mv.heap b o ?_ (Heap.get?_push_of_some _ (Heap.get?_push_of_some _ e))
      simp only [List.mem_cons, List.not_mem_nil, or_false, not_or]
      refine ⟨Nat.ne_of_lt b0, ?_⟩
      rw [hz]
      exact Nat.ne_of_lt (Nat.lt_succ_of_lt b0)
    · match r₂, hr₂ with
      | .error e, hr₂ => exact hr₂
      | .ok .next, hr₂ => exact hr₂.elim
      | .ok .brk, hr₂ => exact hr₂.elim
      | .ok .cont, hr₂ => exact hr₂.elim
      | .ok (.ret r), hr₂ =>
        obtain ⟨rfl, h', tk, rfl, h3, hk⟩ := hr₂
        repeat (any_goals (first | assumption | wp_step))
        exact h _ _ h3 hk
end
end Ww

namespace Ww
open PySem PySem.Spec PyProof.Rows L2 PySem.Froz
theorem ne_mem {α : Type} {l : List α} {k x : α} (hk : k ∈ l) (n : x ∉ l) : k ≠ x := fun e => by
  subst e
  exact n hk
theorem nd_perm {α : Type} [DecidableEq α] : ∀ {l m : List α}, l.Nodup → (∀ k ∈ l, k ∈ m) → m.length ≤ l.length → l.Perm m
  | [], m, _, _, h => by
    have e : m = [] := List.length_eq_zero_iff.mp (Nat.le_zero.mp h)
    rw [e]
  | x :: l, m, nd, sub, h => by
    obtain ⟨n1, n2⟩ := List.nodup_cons.mp nd
    have hx := sub x List.mem_cons_self
    have pm := List.perm_cons_erase hx
    have le := List.length_erase_of_mem hx
    have ih : l.Perm (m.erase x) := nd_perm n2 (fun k hk => (List.mem_erase_of_ne (ne_mem hk n1)).mpr (sub k (List.mem_cons_of_mem _ hk))) (by
      rw [List.length_cons] at h
      omega)
    exact (ih.cons x).trans pm.symm
theorem nd_len {α : Type} [DecidableEq α] : ∀ {l m : List α}, l.Nodup → (∀ k ∈ l, k ∈ m) → l.length ≤ m.length
  | [], m, _, _ => Nat.zero_le _
  | x :: l, m, nd, sub => by
    obtain ⟨n1, n2⟩ := List.nodup_cons.mp nd
    have hx := sub x List.mem_cons_self
    have le := List.length_erase_of_mem hx
    have pos : 0 < m.length := List.length_pos_of_mem hx
    have ih := nd_len (m := m.erase x) n2 fun k hk => (List.mem_erase_of_ne (ne_mem hk n1)).mpr (sub k (List.mem_cons_of_mem _ hk))
    rw [List.length_cons]
    omega
section
variable {P : Program} {w : World} {A : Around} {E : Value → Shared → Prop} {s : Shared}
/-- an entry of such a set is a text -/
theorem ent_str {D : SD} {l : List Str} (F : TxOk P w D l) : ∀ v ∈ D.1.toList.map (·.2), ∃ x t, v = Value.str x t := fun v hv => by
  obtain ⟨e, he, rfl⟩ := List.mem_map.mp hv
  obtain ⟨⟨k, h1, _⟩, _⟩ := F.el e he
  obtain ⟨t, q⟩ := Value.isStrOf_shape (x := k) (v := e.2) h1
  exact ⟨k, t, q⟩
theorem ent_perm {D : SD} {l : List Str} (F : TxOk P w D l) (nd : l.Nodup) : ((D.1.toList.map (·.2)).map strOf).Perm l := by
  have mem : ∀ k : Str, k ∈ (D.1.toList.map (·.2)).map strOf ↔ k ∈ l := fun k => by
    rw [F.mem k, List.mem_map]
    constructor
    · rintro ⟨v, hv, q⟩
      obtain ⟨x, t, e⟩ := ent_str F v hv
      obtain ⟨en, hen, e2⟩ := List.mem_map.mp hv
      refine ⟨en, hen, ?_⟩
      rw [e2, e]
      have : x = k := by rw [← q, e]; rfl
      rw [← this]
      exact is_str x t
    · rintro ⟨en, hen, q⟩
      refine ⟨en.2, List.mem_map_of_mem hen, ?_⟩
      obtain ⟨t, e⟩ := Value.isStrOf_shape (x := k) (v := en.2) q
      rw [e]
      rfl
  have len : ((D.1.toList.map (·.2)).map strOf).length = l.length := by
    rw [List.length_map, List.length_map, Array.length_toList]
    exact F.sz
  exact (nd_perm nd (fun k hk => (mem k).2 hk) (Nat.le_of_eq len)).symm
theorem sorted_setS {a : Addr} {l : List Str} {Q : Value → Shared → Prop} (R : SetS P w s.heap a l) (hh : A.handled = none) (h64 : l.length < 64)
    (hQ : ∀ s' p (out : Array Value) (c : Nat) (ss : List Str), (∀ b o, s.heap.get? b = some o → s'.heap.get? b = some o) → s'.gens = s.gens → s'.os = s.os → s.heap.objs.size ≤ p →
      s'.heap.get? p = some (seqObj "list" out c) → StrsAre out.toList ss → Srt l ss → Q (.ref p) s') : wpAny (model P w) A (call (.builtin "sorted") [.ref a]) Q E s := by
  obtain ⟨D, ho, F, nd, r, hl⟩ := R
  have hsz : D.1.size = l.length := F.sz
  refine Calls.call_function_entry kind_sorted plain_sorted entry_sorted (args_sorted1 _) ?_
  unfold Builtin.«sorted»
  refine wpAny_bind (m := checkCount "sorted" 1 1 _) (wpAny_pure ?_)
  refine wpAny_bind (collect_set (A := A.in1) (t := D.2.2) (es := D.1) (ep := D.2.1) hh ⟨_, ho, rfl, rfl⟩ F.fit (by rw [hsz]; unfold scanBound; omega) r hl fun s1 vs k1 z1 g1 o1 pm => ?_)
  have lv : vs.length = l.length := by rw [pm.length_eq, List.length_map, Array.length_toList, hsz]
  have hI : StrsAre vs (vs.map strOf) := strsAre_map vs fun v hv => ent_str F v (pm.mem_iff.mp hv)
  have pl : (vs.map strOf).Perm l := (pm.map strOf).trans (ent_perm F nd)
  refine wpAny_bind (wpAny_newList ?_ (by rw [lv, sizeLine_eq]; omega))
  have hoL : (s1.heap.push (seqObj "list" vs.toArray 0)).get? s1.heap.objs.size = some (seqObj "list" vs.toArray 0) := Heap.get?_push_size _ rfl
  refine wpAny_bind (wpAny_holding (wpAny_call_entry slot_list_sort ⟨_, hoL, rfl⟩ entry_list_sort (list_sort_treeK strKind_oneLt hoL hI.keysOf (fun v₁ v₂ rest e => keyKind_strs (by rw [← e]; exact hI)) (by rw [lv]; exact h64) fun st' hp hs => ⟨_, rfl, ?_⟩) (args_list_sort _)))
  obtain ⟨ss, a1, a2, a3⟩ := sorted_out_str hI hp hs
  obtain ⟨c, hc⟩ := sortedHeap_at (vs := vs) (out := (arrOf st').map (·.2)) hoL
  have pn : ss.Perm l := a2.trans pl
  refine wpAny_pure ⟨_, rfl, hQ _ s1.heap.objs.size _ c ss (fun b u e => ?_) g1 o1 z1 hc a1 (srt_of a3 (pn.nodup_iff.mpr nd) fun k => pn.mem_iff)⟩
  have q := k1 b u e
  have lt := Heap.lt_size q
  show (sortedHeap (s1.heap.push (seqObj "list" vs.toArray 0)) s1.heap.objs.size vs _).get? b = some u
  rw [sortedHeap_old (Nat.ne_of_lt lt) (by rw [size_push']; exact Nat.lt_succ_of_lt lt)]
  exact Heap.get?_push_of_some _ q
end
/-! ### over the layer -/
def SetSO (P : Program) (w : World) (a : Addr) (l : List Str) : HO := .ext fun h => SetS P w h a l
theorem setSO_new {P : Program} {w : World} {H : Hp} {h : Heap} {a : Addr} {l : List Str} (R : SetS P w h a l) : ObjOk P w H h a (SetSO P w a l) := by
  have ⟨D, ho, _⟩ := R
  exact ⟨R, ⟨_, ho⟩, fun h1 h2 p k => SetS.at p k⟩
theorem strsAre_vals : ∀ {ys : List Str} {us : List Value}, Vals (ys.map V.str) us → StrsAre us ys
  | [], _, .nil => .nil
  | y :: ys, _, .cons ⟨t, e⟩ r => by
    subst e
    exact .cons y t (strsAre_vals r)
theorem vals_strsAre : ∀ {ys : List Str} {us : List Value}, StrsAre us ys → Vals (ys.map V.str) us
  | _, _, .nil => .nil
  | _, _, .cons y t r => .cons ⟨t, rfl⟩ (vals_strsAre r)
section
variable {X : Cx}
/-- set(a list of texts) -/
def rSetS (K : PySem.W.Frag) (P : Program) (w : World) : List V → Hp → VK → Prop := fun vs H Q => ∃ (l : Addr) (xs : List Str), vs = [.ref l] ∧ SqL K H l (xs.map V.str) ∧ xs.length ≤ 1000 ∧
  ∀ p, H p = none → Q (.ref p) (upd H p (SetSO P w p (dedup [] xs)))
theorem cr_setS (hc : X.calm = true) : CallR X (.type "set") (rSetS X.K X.prog X.w) := by
  intro pins s σ H vs us Q I r h
  obtain ⟨l, xs, rfl, hl, hz, q⟩ := h
  rw [Vals.ref1 r]
  obtain ⟨its, rv, pl, _⟩ := I.list hl
  have hn : H s.heap.objs.size = none := I.hok.fresh (Nat.le_refl _)
  refine call_set_strs (P := X.prog) (w := X.w) xs (I.ok.hd hc) pl.isList (by simpa using strsAre_vals rv) (by unfold scanBound; omega) fun h' tk R k => ?_
  exact ⟨.ref s.heap.objs.size, _, I.laid (t' := tk) k (Nat.le_refl _) (setSO_new R), rfl, q _ hn⟩
/-- sorted(such a set) -/
def rSortS (P : Program) (w : World) : List V → Hp → VK → Prop := fun vs H Q => ∃ (a : Addr) (l : List Str), vs = [.ref a] ∧ H a = some (SetSO P w a l) ∧ l.length < 64 ∧
  ∀ (ss : List Str) (p : Addr), Srt l ss → H p = none → Q (.ref p) (upd H p (.lst (ss.map V.str)))
theorem cr_sortS (hc : X.calm = true) : CallR X (.builtin "sorted") (rSortS X.prog X.w) := by
  intro pins s σ H vs us Q I r h
  obtain ⟨a, l, rfl, ha, h64, q⟩ := h
  have R : SetS X.prog X.w s.heap a l := (I.hok a _ ha).1
  rw [Vals.ref1 r]
  refine sorted_setS R (I.ok.hd hc) h64 fun s' p out c ss k g o hp hg hS hR => ?_
  have lss : ss.length ≤ l.length := nd_len hR.nodup fun k hk => (hR.mem k).1 hk
  have hlen : (ss.map V.str).length ≤ sizeLine := by rw [List.length_map, sizeLine_eq]; omega
  have hn : H p = none := I.hok.fresh hp
  have J : Inv X pins σ (upd H p (.lst (ss.map V.str))) { s with heap := s'.heap, gens := s'.gens, drawn := s'.drawn, toks := s'.toks } :=
    I.call (ch := []) (Un.laid k hp hn) (I.hok.laid k hp ⟨hlen, out.toList, c, vals_strsAre hS, hg⟩) (by rw [g]; exact I.bare) (fun _ z => nomatch z)
  have e : s' = { s with heap := s'.heap, gens := s'.gens, drawn := s'.drawn, toks := s'.toks } := by
    cases s'
    cases s
    cases o
    rfl
  rw [e]
  exact ⟨.ref p, _, J, rfl, q ss p hR hn⟩
/-- both in one: sorted(set(e)) -/
theorem Srt.of_dedup {xs ss : List Str} (h : Srt (dedup [] xs) ss) : Srt xs ss := h.same fun k => by
  rw [mem_dedup]
  simp
end
end Ww

namespace Ww
open PySem PySem.Spec PyProof.Rows L2
theorem hu64 {A : Around} {k : Nat} (hr : Room k A) : A.units + 64 < cLine := by
  have := hr.un
  omega
theorem fn_none {P : Program} {w : World} {K : PySem.W.Frag} {mg : Str → Option Value} {base : Heap} {CX : CXT} {k : Nat} {f : Addr} {fd : FuncData} {ps : List Str} {sp : Sp} (h : ∀ vs H Q E, sp vs H Q E → False) :
    FnOk P w K mg base CX k f fd ps sp :=
  ⟨fun vs H Q E q => (h vs H Q E q).elim, fun A outer s H args us vs Q E _ _ _ _ q => (h vs H Q E q).elim⟩
theorem sz1 {n : Nat} (h : n ≤ 1000000) : n ≤ sizeLine := Nat.le_trans h (by decide)
theorem sz2 {n : Nat} (h : n < 1000000) : n < sizeLine := Nat.lt_of_lt_of_le h (by decide)
theorem bt {A B : Prop} {c : Bool} (hc : c = true) (h : A) : if c = true then A else B := by
  rw [if_pos hc]
  exact h
theorem bf {A B : Prop} {c : Bool} (hc : c = false) (h : B) : if c = true then A else B := by
  rw [if_neg (by rw [hc]; exact Bool.false_ne_true)]
  exact h
theorem bb {A B : Prop} {c : Bool} (h1 : c = true → A) (h2 : c = false → B) : if c = true then A else B := by
  cases c with
  | true => exact h1 rfl
  | false => exact h2 rfl
/-! ### letters -/
def isLet (s : Str) : Bool := match s.cps.toList with
  | [c] => decide (97 ≤ c ∧ c ≤ 122)
  | _ => false
theorem abc_mem (c : Nat) : (c ∈ (Str.ofString "abcdefghijklmnopqrstuvwxyz").cps.toList) ↔ (97 ≤ c ∧ c ≤ 122) := by
  have e : (Str.ofString "abcdefghijklmnopqrstuvwxyz").cps.toList = List.range' 97 26 := by decide +kernel
  rw [e, List.mem_range'_1]
  omega
theorem str_one {s : Str} (h : s.length = 1) : ∃ c, s = ⟨#[c]⟩ := by
  obtain ⟨a⟩ := s
  obtain ⟨l⟩ := a
  match l, h with
  | [c], _ => exact ⟨c, rfl⟩
theorem isLet_iff {s : Str} : isLet s = true ↔ Let s := by
  constructor
  · intro h
    obtain ⟨⟨l⟩⟩ := s
    match l, h with
    | [c], h =>
      have h' : decide (97 ≤ c ∧ c ≤ 122) = true := h
      have := of_decide_eq_true h'
      exact ⟨c, rfl, this.1, this.2⟩
  · rintro ⟨c, rfl, h1, h2⟩
    exact decide_eq_true ⟨h1, h2⟩
theorem isLet_one (c : Nat) : isLet ⟨#[c]⟩ = decide (97 ≤ c ∧ c ≤ 122) := rfl
theorem isLet_many {s : Str} (h : s.length ≠ 1) : isLet s = false := by
  obtain ⟨⟨l⟩⟩ := s
  match l, h with
  | [], _ => rfl
  | [c], h => exact absurd rfl h
  | _ :: _ :: _, _ => rfl
theorem plain_ne : ∀ {f : Str}, Form f → decide (V.str f = V.str "plain") = false := by
  rintro f (rfl | rfl | rfl) <;> decide +kernel
/-! ### the heap at a tuple -/
theorem at0 {x : V} {r : List V} : atI (x :: r) 0 = some x := by
  have := atI_nat (xs := x :: r) (j := 0) (v := x) rfl
  exact this
theorem at1 {x y : V} {r : List V} : atI (x :: y :: r) 1 = some y := by
  have := atI_nat (xs := x :: y :: r) (j := 1) (v := y) rfl
  exact this
theorem at2 {x y z : V} {r : List V} : atI (x :: y :: z :: r) 2 = some z := by
  have := atI_nat (xs := x :: y :: z :: r) (j := 2) (v := z) rfl
  exact this
theorem at3 {x y z u : V} {r : List V} : atI (x :: y :: z :: u :: r) 3 = some u := by
  have := atI_nat (xs := x :: y :: z :: u :: r) (j := 3) (v := u) rfl
  exact this
theorem at4 {x y z u t : V} {r : List V} : atI (x :: y :: z :: u :: t :: r) 4 = some t := by
  have := atI_nat (xs := x :: y :: z :: u :: t :: r) (j := 4) (v := t) rfl
  exact this
theorem ati {ns : List Int} {i : Nat} (h : i < ns.length) : ∃ x : Int, atI (ns.map V.int) ((0 : Int) + (i : Int)) = some (.int x) ∧ ns[i]? = some x := by
  refine ⟨ns[i], ?_, List.getElem?_eq_getElem h⟩
  rw [Int.zero_add]
  refine atI_nat ?_
  rw [List.getElem?_map, List.getElem?_eq_getElem h]
  rfl
theorem same_mut {H H' : Hp} {p : Addr} (e : Same H H') (h : H p = none) (o : HO) : Same H (upd H' p o) := fun a u q => by
  rw [upd_ne (ne_of_none q h)]
  exact e a u q
theorem Let.len {s : Str} (h : Let s) : s.length = 1 := by
  obtain ⟨c, rfl, _⟩ := h
  rfl
theorem Let.small {s : Str} (h : Let s) : s.length ≤ 1000000 := by
  rw [h.len]
  decide
theorem Kd.let_of : ∀ {k : Kd}, k.ok → ∀ s ∈ k.letters, Let s
  | .pl t, h, s, hs => by
    have e : s = t := by simpa [Kd.letters] using hs
    rw [e]
    exact h
  | .nd f a b, ⟨_, h1, h2⟩, s, hs => by
    rcases List.mem_append.mp (show s ∈ a.letters ++ b.letters from hs) with z | z
    · exact Kd.let_of h1 s z
    · exact Kd.let_of h2 s z
theorem sum_one : ∀ {l : List Str}, (∀ s ∈ l, s.length = 1) → (l.map (·.length)).sum = l.length
  | [], _ => rfl
  | x :: l, h => by
    rw [List.map_cons, List.sum_cons, h x List.mem_cons_self, sum_one fun s hs => h s (List.mem_cons_of_mem _ hs), List.length_cons]
    omega
theorem join_small {k : Kd} {ss : List Str} (h : Srt k.letters ss) (ok : k.ok) {n : Nat} (hz : k.letters.length ≤ n) (hn : n ≤ 1000 := by decide) : (ss.map (·.length)).sum + ss.length * (Str.ofString "").length ≤ 16777216 := by
  have e : (Str.ofString "").length = 0 := by decide +kernel
  have l1 : ss.length ≤ k.letters.length := nd_len h.nodup fun x hx => (h.mem x).1 hx
  rw [e, sum_one fun s hs => (k.let_of ok s ((h.mem s).1 hs)).len]
  omega
end Ww

namespace Ww
open PySem PySem.Spec PyProof.Rows L2
/-! ### types of data -/
theorem tyL {K : PySem.W.Frag} {H : Hp} {a : Addr} {xs : List V} (h : SqL K H a xs) : TyX K H (.ref a) (.type "list") := by
  rcases h with (h | ⟨o, h⟩) | ⟨o, its, n, hk, hc, _⟩
  · exact .base (.lst h)
  · exact .base (.frz h)
  · exact .kList hk hc
theorem tyT {K : PySem.W.Frag} {H : Hp} {a : Addr} {xs : List V} (h : SqT K H a xs) : TyX K H (.ref a) (.type "tuple") := by
  rcases h with (h | ⟨o, h⟩) | ⟨o, its, n, hk, hc, _⟩
  · exact .base (.tup h)
  · exact .fTuple h
  · exact .kTuple hk hc
/-- data of nesting below n, its lists short -/
def Gd : Nat → PyData → Prop
  | 0, _ => False
  | _ + 1, .none => True
  | _ + 1, .bool _ => True
  | _ + 1, .int _ => True
  | _ + 1, .str _ => True
  | n + 1, .list ds => ds.length ≤ 100000 ∧ ∀ d ∈ ds, Gd n d
  | n + 1, .tuple ds => ds.length ≤ 100000 ∧ ∀ d ∈ ds, Gd n d
  | _ + 1, .dict _ => False
theorem Gd.mono : ∀ {n m : Nat} {d : PyData}, Gd n d → n ≤ m → Gd m d
  | 0, _, _, h, _ => h.elim
  | n + 1, 0, _, _, l => absurd l (by omega)
  | n + 1, m + 1, .none, h, l => trivial
  | n + 1, m + 1, .bool _, h, l => trivial
  | n + 1, m + 1, .int _, h, l => trivial
  | n + 1, m + 1, .str _, h, l => trivial
  | n + 1, m + 1, .list ds, ⟨h1, h2⟩, l => ⟨h1, fun d hd => (h2 d hd).mono (by omega)⟩
  | n + 1, m + 1, .tuple ds, ⟨h1, h2⟩, l => ⟨h1, fun d hd => (h2 d hd).mono (by omega)⟩
  | n + 1, m + 1, .dict _, h, l => h
theorem dps_len {K : PySem.W.Frag} {H : Hp} : ∀ {ds : List PyData} {vs : List V}, DpAll K H vs ds → vs.length = ds.length
  | [], _, h => by
    cases h
    rfl
  | d :: ds, _, h => by
    cases h with
    | cons _ h2 => rw [List.length_cons, List.length_cons, dps_len h2]
theorem dps_at {K : PySem.W.Frag} {H : Hp} : ∀ {ds : List PyData} {vs : List V} {i : Nat} {v : V}, DpAll K H vs ds → vs[i]? = some v → ∃ d, ds[i]? = some d ∧ Dp K H v d
  | [], _, i, v, h, e => by
    cases h
    simp at e
  | d :: ds, _, 0, v, h, e => by
    cases h with
    | cons h1 _ =>
      have e' := Option.some.inj (show some _ = some v by simpa using e)
      rw [← e']
      exact ⟨d, rfl, h1⟩
  | d :: ds, _, i + 1, v, h, e => by
    cases h with
    | cons _ h2 =>
      obtain ⟨d', a, b⟩ := dps_at h2 (by simpa using e)
      exact ⟨d', by simpa using a, b⟩
theorem Gd.kd : ∀ {k : Kd}, Gd (k.deep + 1) k.dat
  | .pl s => ⟨(show 2 ≤ 100000 by decide), fun d hd => by
    have : d = .str "plain" ∨ d = .str s := by simpa using hd
    rcases this with rfl | rfl <;> trivial⟩
  | .nd f a b => ⟨(show 3 ≤ 100000 by decide), fun d hd => by
    have : d = .str f ∨ d = a.dat ∨ d = b.dat := by simpa using hd
    show Gd (1 + max a.deep b.deep) d
    rcases this with rfl | rfl | rfl
    · exact Gd.mono (n := 1) trivial (by omega)
    · exact Gd.kd.mono (by omega)
    · exact Gd.kd.mono (by omega)⟩
/-! ### answers of isinstance -/
section
variable {K : PySem.W.Frag} {H : Hp}
theorem kLT {t : String} {b c : Bool} (h1 : kitB t "list" = some b) (h2 : kitB t "tuple" = some c) : PySem.W.kitAny K (.type t) [.type "list", .type "tuple"] = some (b || c) := by
  refine kitAny_cons (kit_ty h1) (fun hb => ?_) (fun hb => by rw [hb]; rfl)
  rw [hb]
  refine kitAny_cons (kit_ty h2) (fun hc => by rw [hc]; rfl) (fun hc => by rw [hc]; rfl)
theorem kLT0 {t : String} (h1 : kitB t "list" = some false) (h2 : kitB t "tuple" = some false) : PySem.W.kitAny K (.type t) [.type "list", .type "tuple"] = some false := kLT h1 h2
theorem clsLT : Paired ClsV [V.ty "list", V.ty "tuple"] [Value.type "list", Value.type "tuple"] := .cons (.ty _) (.cons (.ty _) .nil)
end
end Ww

namespace Ww
open PySem PySem.Spec PyProof.Rows L2
theorem empty_cps : (Str.ofString "").cps.toList = [] := by decide +kernel
theorem join_cps : ∀ ys : List Str, (Txt.join (Str.ofString "") ys).cps.toList = ys.flatMap fun y => y.cps.toList := by
  have go : ∀ ys : List Str, (Str.join (Str.ofString "") ys).cps.toList = ys.flatMap fun y => y.cps.toList := by
    intro ys
    induction ys with
    | nil => rfl
    | cons x r ih =>
      cases r with
      | nil =>
        show x.cps.toList = _
        simp
      | cons y r =>
        show (x ++ Str.ofString "" ++ Str.join (Str.ofString "") (y :: r)).cps.toList = _
        rw [PySem.W.KT.app_list, PySem.W.KT.app_list, empty_cps, List.append_nil, ih]
        rfl
  intro ys
  show (Builtin.Str.glued _ _).cps.toList = _
  rw [StrLaws.glued_eq_join]
  exact go ys
/-- a text of letters -/
def AllLet (t : Str) : Prop := ∀ c ∈ t.cps.toList, 97 ≤ c ∧ c ≤ 122
theorem len_cps (t : Str) : t.length = t.cps.toList.length := (Array.length_toList).symm
theorem AllLet.at {t : Str} (h : AllLet t) {r : Int} (r0 : 0 ≤ r) (r1 : r < (t.length : Int)) : ∃ c, t.cps[r.toNat]? = some c ∧ Let ⟨#[c]⟩ := by
  have hr : r.toNat < t.cps.size := by
    have : t.length = t.cps.size := rfl
    omega
  refine ⟨t.cps[r.toNat], Array.getElem?_eq_getElem hr, _, rfl, ?_⟩
  exact h _ (by simp)
theorem abc_all : AllLet (Str.ofString "abcdefghijklmnopqrstuvwxyz") := fun c hc => (abc_mem c).1 hc
theorem abc_len : (Str.ofString "abcdefghijklmnopqrstuvwxyz").length = 26 := by decide +kernel
theorem join_len {ys : List Str} (h : ∀ y ∈ ys, Let y) : (Txt.join (Str.ofString "") ys).length = ys.length := by
  rw [len_cps, join_cps]
  induction ys with
  | nil => rfl
  | cons x r ih =>
    have hx := (h x List.mem_cons_self).len
    rw [len_cps] at hx
    rw [List.flatMap_cons, List.length_append, hx, ih fun y hy => h y (List.mem_cons_of_mem _ hy), List.length_cons]
    omega
theorem join_all {ys : List Str} (h : ∀ y ∈ ys, Let y) : AllLet (Txt.join (Str.ofString "") ys) := fun c hc => by
  rw [join_cps] at hc
  obtain ⟨y, hy, q⟩ := List.mem_flatMap.mp hc
  obtain ⟨d, rfl, h1, h2⟩ := h y hy
  have e : c = d := by simpa using q
  rw [e]
  exact ⟨h1, h2⟩
theorem let_small {ys : List Str} (h : ∀ y ∈ ys, Let y) (l : ys.length ≤ 1000) : (ys.map (·.length)).sum + ys.length * (Str.ofString "").length ≤ 16777216 := by
  have e : (Str.ofString "").length = 0 := by decide +kernel
  rw [e, sum_one fun s hs => (h s hs).len]
  omega
/-! ### an item at a drawn place -/
theorem atI_of {α : Type} {xs : List α} {r : Int} (r0 : 0 ≤ r) (r1 : r < (xs.length : Int)) : ∃ v, atI xs r = some v ∧ xs[r.toNat]? = some v := by
  have h : r.toNat < xs.length := by omega
  have e : ((r.toNat : Nat) : Int) = r := by omega
  obtain ⟨v, hv⟩ : ∃ v, xs[r.toNat]? = some v := ⟨_, List.getElem?_eq_getElem h⟩
  have q := atI_nat hv
  rw [e] at q
  exact ⟨v, q, hv⟩
theorem atI_mem {α : Type} {xs : List α} {r : Int} (r0 : 0 ≤ r) (r1 : r < (xs.length : Int)) : ∃ v, atI xs r = some v ∧ v ∈ xs := by
  obtain ⟨v, h1, h2⟩ := atI_of r0 r1
  exact ⟨v, h1, List.mem_of_getElem? h2⟩
theorem but_mut {a p : Addr} {H H' : Hp} (e : But a H H') (h : H p = none) (o : HO) : But a H (upd H' p o) := fun b u n q => by
  rw [upd_ne (ne_of_none q h)]
  exact e b u n q
theorem But.same {a : Addr} {H H1 H2 : Hp} (e : But a H H1) (k : Same H1 H2) : But a H H2 := fun b o n h => k b o (e b o n h)
/-- fresh in a later heap is fresh in an earlier one -/
theorem But.free {a p : Addr} {H H' : Hp} {o : HO} (e : But a H H') (ha : H' a = some o) (h : H' p = none) : H p = none := by
  cases q : H p with
  | none => rfl
  | some u =>
    have n : p ≠ a := fun z => by
      rw [z, ha] at h
      cases h
    rw [e p u n q] at h
    cases h
theorem But.at {a b : Addr} {H H' : Hp} {o : HO} (e : But a H H') (n : b ≠ a) (h : H b = some o) : H' b = some o := e b o n h
theorem But.sqL {K : PySem.W.Frag} {a b : Addr} {H H' : Hp} {xs : List V} (e : But a H H') (n : b ≠ a) (h : H b = some (.lst xs)) : SqL K H' b xs := SqL.of (e b _ n h)
theorem lc_yes {σ : L2.St} {H : Hp} {t e : Hp → Prop} (h : t H) : tYes σ H (fun b H3 => if b = true then t H3 else e H3) := h
end Ww

namespace Ww
open PySem PySem.Spec PyProof.Rows L2
/-! ### two lists side by side -/
def All2 {α β : Type} (R : α → β → Prop) : List α → List β → Prop
  | [], [] => True
  | x :: xs, y :: ys => R x y ∧ All2 R xs ys
  | _, _ => False
theorem All2.mono {α β : Type} {R S : α → β → Prop} (e : ∀ x y, R x y → S x y) : ∀ {xs : List α} {ys : List β}, All2 R xs ys → All2 S xs ys
  | [], [], _ => trivial
  | _ :: _, _ :: _, h => ⟨e _ _ h.1, All2.mono e h.2⟩
  | [], _ :: _, h => h.elim
  | _ :: _, [], h => h.elim
theorem All2.len {α β : Type} {R : α → β → Prop} : ∀ {xs : List α} {ys : List β}, All2 R xs ys → xs.length = ys.length
  | [], [], _ => rfl
  | _ :: _, _ :: _, h => by rw [List.length_cons, List.length_cons, All2.len h.2]
  | [], _ :: _, h => h.elim
  | _ :: _, [], h => h.elim
theorem All2.snoc {α β : Type} {R : α → β → Prop} {x : α} {y : β} (r : R x y) : ∀ {xs : List α} {ys : List β}, All2 R xs ys → All2 R (xs ++ [x]) (ys ++ [y])
  | [], [], _ => ⟨r, trivial⟩
  | _ :: _, _ :: _, h => ⟨h.1, All2.snoc r h.2⟩
  | [], _ :: _, h => h.elim
  | _ :: _, [], h => h.elim
theorem All2.app {α β : Type} {R : α → β → Prop} {zs : List α} {us : List β} (r : All2 R zs us) : ∀ {xs : List α} {ys : List β}, All2 R xs ys → All2 R (xs ++ zs) (ys ++ us)
  | [], [], _ => r
  | _ :: _, _ :: _, h => ⟨h.1, All2.app r h.2⟩
  | [], _ :: _, h => h.elim
  | _ :: _, [], h => h.elim
theorem All2.get {α β : Type} {R : α → β → Prop} : ∀ {xs : List α} {ys : List β} {i : Nat} {x : α}, All2 R xs ys → xs[i]? = some x → ∃ y, ys[i]? = some y ∧ R x y
  | [], [], _, _, _, e => by simp at e
  | x :: _, y :: _, 0, z, h, e => by
    have e' : x = z := by simpa using e
    subst e'
    exact ⟨y, rfl, h.1⟩
  | _ :: _, _ :: _, i + 1, _, h, e => by
    obtain ⟨y, a, b⟩ := All2.get h.2 (by simpa using e)
    exact ⟨y, by simpa using a, b⟩
  | [], _ :: _, _, _, h, _ => h.elim
  | _ :: _, [], _, _, h, _ => h.elim
theorem All2.mem {α β : Type} {R : α → β → Prop} {xs : List α} {ys : List β} (h : All2 R xs ys) {x : α} (m : x ∈ xs) : ∃ y, y ∈ ys ∧ R x y := by
  obtain ⟨i, hi⟩ := List.getElem?_of_mem m
  obtain ⟨y, a, b⟩ := h.get hi
  exact ⟨y, List.mem_of_getElem? a, b⟩
/-! ### data that == reads -/
def Lk (K : PySem.W.Frag) (H : Hp) (v : V) : Prop := ∃ d, Dp K H v d ∧ d.canLay0 = true ∧ d.depth ≤ 60
theorem lks {K : PySem.W.Frag} {H : Hp} : ∀ {xs : List V}, (∀ v ∈ xs, Lk K H v) → ∃ ds, DpAll K H xs ds ∧ ds.length = xs.length ∧ PyData.canLayAll0 ds = true ∧ PyData.depthAll ds ≤ 60
  | [], _ => ⟨[], .nil, rfl, rfl, by decide⟩
  | x :: xs, h => by
    obtain ⟨d, h1, h2, h3⟩ := h x List.mem_cons_self
    obtain ⟨ds, g1, g2, g3, g4⟩ := lks fun v hv => h v (List.mem_cons_of_mem _ hv)
    refine ⟨d :: ds, .cons h1 g1, by rw [List.length_cons, List.length_cons, g2], ?_, ?_⟩
    · show (d.canLay0 && PyData.canLayAll0 ds) = true
      rw [h2, g3]
      rfl
    · show max d.depth (PyData.depthAll ds) ≤ 60
      omega
theorem shaped_list {ds : List PyData} (h1 : PyData.canLayAll0 ds = true) (h2 : PyData.depthAll ds ≤ 60) : SeqAt.shaped (.list ds) = true := by
  show (PyData.canLayAll0 ds && decide (PyData.depthAll ds + 1 ≤ 64)) = true
  rw [h1, decide_eq_true (by omega)]
  rfl
theorem eqv_nil : ∀ ds : List PyData, PyData.eqv (.list ds) (.list []) = ds.isEmpty
  | [] => rfl
  | _ :: _ => rfl
theorem ne_nil {K : PySem.W.Frag} {H : Hp} {a p : Addr} {xs : List V} {Q : VK} (h : H a = some (.lst xs)) (hp : H p = some (.lst [])) (l : ∀ v ∈ xs, Lk K H v) (q : Q (.bl (!xs.isEmpty)) H) : rNeD K (.ref a) (.ref p) H Q := by
  obtain ⟨ds, g1, g2, g3, g4⟩ := lks l
  refine ⟨.list ds, .list [], .lst (SqL.of h) g1, .lst (SqL.of hp) .nil, shaped_list g3 g4, by decide, ?_⟩
  rw [eqv_nil]
  have e : ds.isEmpty = xs.isEmpty := by
    cases ds <;> cases xs <;> first | rfl | cases g2
  rw [e]
  exact q
theorem let_ok {s : Str} (h : Let s) : PyData.strOk s = true := by
  obtain ⟨c, rfl, h1, h2⟩ := h
  simp [PyData.strOk]
  omega
theorem form_ok {f : Str} (h : Form f) : PyData.strOk f = true := by
  rcases h with rfl | rfl | rfl <;> decide +kernel
theorem Kd.lay : ∀ {k : Kd}, k.ok → k.dat.canLay0 = true
  | .pl s, h => by
    show (PyData.strOk "plain" && (PyData.strOk s && true)) = true
    rw [let_ok h]
    decide +kernel
  | .nd f a b, ⟨h, h1, h2⟩ => by
    show (PyData.strOk f && (a.dat.canLay0 && (b.dat.canLay0 && true))) = true
    rw [form_ok h, Kd.lay h1, Kd.lay h2]
    rfl
theorem Kd.dat_depth : ∀ k : Kd, k.dat.depth = k.deep
  | .pl s => rfl
  | .nd f a b => by
    show max 0 (max a.dat.depth (max b.dat.depth 0)) + 1 = 1 + max a.deep b.deep
    rw [Kd.dat_depth a, Kd.dat_depth b]
    omega
theorem KAt.lk {K : PySem.W.Frag} {H : Hp} {v : V} {k : Kd} (h : KAt H v k) (ok : k.ok) (d : k.deep ≤ 60) : Lk K H v := ⟨k.dat, h.dp, k.lay ok, by rw [k.dat_depth]; exact d⟩
/-! ### the places of a kind's letters -/
def Kd.places : Kd → Int → List (Str × Int)
  | .pl s, d => [(s, d)]
  | .nd _ a b, d => a.places (d + 1) ++ b.places (d + 1)
def Kd.wt : Kd → Nat
  | .pl _ => 1
  | .nd _ a b => 1 + a.wt + b.wt
theorem Kd.places_fst : ∀ (k : Kd) (d : Int), (k.places d).map (·.1) = k.letters
  | .pl s, d => rfl
  | .nd f a b, d => by
    show (a.places (d + 1) ++ b.places (d + 1)).map (·.1) = a.letters ++ b.letters
    rw [List.map_append, Kd.places_fst a, Kd.places_fst b]
theorem Kd.places_len (k : Kd) (d : Int) : (k.places d).length = k.letters.length := by
  rw [← k.places_fst d, List.length_map]
theorem Kd.places_le : ∀ (k : Kd) (d : Int), ∀ x ∈ k.places d, x.2 ≤ d + (k.deep : Int) - 1
  | .pl s, d, x, h => by
    have e : x = (s, d) := by simpa [Kd.places] using h
    rw [e]
    show d ≤ d + (1 : Nat) - 1
    omega
  | .nd f a b, d, x, h => by
    show x.2 ≤ d + ((1 + max a.deep b.deep : Nat) : Int) - 1
    rcases List.mem_append.mp (show x ∈ a.places (d + 1) ++ b.places (d + 1) from h) with z | z
    · have := Kd.places_le a _ x z
      omega
    · have := Kd.places_le b _ x z
      omega
theorem Kd.places_max : ∀ (k : Kd) (d : Int), ∃ x ∈ k.places d, x.2 = d + (k.deep : Int) - 1
  | .pl s, d => ⟨(s, d), by simp [Kd.places], by show d = d + (1 : Nat) - 1; omega⟩
  | .nd f a b, d => by
    show ∃ x ∈ a.places (d + 1) ++ b.places (d + 1), x.2 = d + ((1 + max a.deep b.deep : Nat) : Int) - 1
    by_cases c : b.deep ≤ a.deep
    · obtain ⟨x, m, e⟩ := Kd.places_max a (d + 1)
      exact ⟨x, List.mem_append_left _ m, by omega⟩
    · obtain ⟨x, m, e⟩ := Kd.places_max b (d + 1)
      exact ⟨x, List.mem_append_right _ m, by omega⟩
theorem places_flat : ∀ st : List (Kd × Int), st.length ≤ (st.flatMap fun x => x.1.places x.2).length
  | [] => Nat.le_refl 0
  | x :: st => by
    rw [List.flatMap_cons, List.length_append, List.length_cons, x.1.places_len]
    have := places_flat st
    have := x.1.letters_pos
    omega
theorem at5 {a b c d e f : V} {r : List V} : atI (a :: b :: c :: d :: e :: f :: r) 5 = some f := by
  have := atI_nat (xs := a :: b :: c :: d :: e :: f :: r) (j := 5) (v := f) rfl
  exact this
theorem at6 {a b c d e f g : V} {r : List V} : atI (a :: b :: c :: d :: e :: f :: g :: r) 6 = some g := by
  have := atI_nat (xs := a :: b :: c :: d :: e :: f :: g :: r) (j := 6) (v := g) rfl
  exact this
end Ww

namespace Ww
open PySem PySem.Spec PyProof.Rows L2
theorem hu1 {A : Around} {k : Nat} (hr : Room k A) : A.units + 1 < cLine := by
  have := hr.un
  omega
/-- a walk over a list, whatever a turn asks -/
theorem walk_list {K : PySem.W.Frag} {a : Addr} {xs : List V} {H0 : Hp} {Qd : Hp → Prop} {B : (Hp → Prop) → V → Hp → Prop} (Pv : Nat → Hp → Prop) (h0 : Pv 0 H0) (hl : ∀ i H, i ≤ xs.length → Pv i H → SqL K H a xs)
    (hs : ∀ i x H, xs[i]? = some x → Pv i H → B (Pv (i + 1)) x H) (hd : ∀ H, Pv xs.length H → Qd H) :
    ∃ W : Nat → Nat → Hp → Prop, (∃ m, W 0 m H0) ∧ ∀ i m H, W i m H →
      ((Itl K a).stop i H ∧ Qd H) ∨ ((Itl K a).go i H ∧ ∃ Nx : Hp → Prop, (∀ H', Nx H' → ∃ m', m' < m ∧ W (i + 1) m' H') ∧ ∀ x H', (Itl K a).yld i H x H' → B Nx x H') := by
  refine ⟨fun i m H => m = xs.length - i ∧ i ≤ xs.length ∧ Pv i H, ⟨xs.length, by simp, Nat.zero_le _, h0⟩, ?_⟩
  rintro i m H ⟨rfl, hi, p⟩
  have q := hl i H hi p
  by_cases hlt : i < xs.length
  · refine .inr ⟨⟨xs, xs[i], q, by simp [hlt]⟩, Pv (i + 1), fun H' p' => ⟨xs.length - (i + 1), by omega, rfl, hlt, p'⟩, fun x H' y => ?_⟩
    obtain ⟨e, y⟩ := y
    subst e
    exact hs i x _ (y xs q) p
  · have e : i = xs.length := by omega
    subst e
    exact .inl ⟨⟨xs, q, Nat.le_refl _⟩, hd H p⟩
theorem eq_nil {K : PySem.W.Frag} {H : Hp} {a p : Addr} {xs : List V} {Q : VK} (h : H a = some (.lst xs)) (hp : H p = some (.lst [])) (l : ∀ v ∈ xs, Lk K H v) (q : Q (.bl xs.isEmpty) H) : rEqD K (.ref a) (.ref p) H Q := by
  obtain ⟨ds, g1, g2, g3, g4⟩ := lks l
  refine ⟨.list ds, .list [], .lst (SqL.of h) g1, .lst (SqL.of hp) .nil, shaped_list g3 g4, by decide, ?_⟩
  rw [eqv_nil]
  have e : ds.isEmpty = xs.isEmpty := by
    cases ds <;> cases xs <;> first | rfl | cases g2
  rw [e]
  exact q
/-! ### pairs and rows in the heap -/
def RowAt (H : Hp) (v : V) (x : Str × Int) : Prop := ∃ p, v = .ref p ∧ H p = some (.tup [.str x.1, .int x.2])
def PairAt (H : Hp) (v : V) (x : Kd × Int) : Prop := ∃ p u, v = .ref p ∧ H p = some (.tup [u, .int x.2]) ∧ KAt H u x.1
theorem RowAt.mono {H H' : Hp} (e : Tps H H') (v : V) (x : Str × Int) (h : RowAt H v x) : RowAt H' v x := by
  obtain ⟨p, q, h⟩ := h
  exact ⟨p, q, e _ _ h⟩
theorem PairAt.mono {H H' : Hp} (e : Tps H H') (v : V) (x : Kd × Int) (h : PairAt H v x) : PairAt H' v x := by
  obtain ⟨p, u, q, h, k⟩ := h
  exact ⟨p, u, q, e _ _ h, k.mono e⟩
theorem PairAt.lk {K : PySem.W.Frag} {H : Hp} {v : V} {x : Kd × Int} (h : PairAt H v x) (ok : x.1.ok) (d : x.1.deep ≤ 8) : Lk K H v := by
  obtain ⟨p, u, rfl, h, k⟩ := h
  refine ⟨.tuple [x.1.dat, .int x.2], .tup (SqT.of h) (.cons k.dp (.cons (.int _) .nil)), ?_, ?_⟩
  · show (x.1.dat.canLay0 && (true && true)) = true
    rw [x.1.lay ok]
    rfl
  · show max x.1.dat.depth (max 0 0) + 1 ≤ 60
    rw [x.1.dat_depth]
    omega
theorem RowAt.lk {K : PySem.W.Frag} {H : Hp} {v : V} {x : Str × Int} (h : RowAt H v x) (ok : Let x.1) : Lk K H v := by
  obtain ⟨p, rfl, h⟩ := h
  refine ⟨.tuple [.str x.1, .int x.2], .tup (SqT.of h) (.cons (.str _) (.cons (.int _) .nil)), ?_, by show 1 ≤ 60; decide⟩
  show (PyData.strOk x.1 && (true && true)) = true
  rw [let_ok ok]
  rfl
def rowDat (x : Str × Int) : PyData := .tuple [.str x.1, .int x.2]
theorem RowAt.dp {K : PySem.W.Frag} {H : Hp} {v : V} {x : Str × Int} (h : RowAt H v x) : Dp K H v (rowDat x) := by
  obtain ⟨p, rfl, h⟩ := h
  exact .tup (SqT.of h) (.cons (.str _) (.cons (.int _) .nil))
theorem row_shaped {x : Str × Int} (ok : Let x.1) : SeqAt.shaped (rowDat x) = true := by
  show ((PyData.strOk x.1 && (true && true)) && decide (1 ≤ 64)) = true
  rw [let_ok ok]
  rfl
theorem row_eqv (x y : Str × Int) : PyData.eqv (rowDat x) (rowDat y) = decide (x = y) := by
  obtain ⟨a, i⟩ := x
  obtain ⟨b, j⟩ := y
  show ((a == b) && ((i == j) && true)) = decide ((a, i) = (b, j))
  rw [Bool.and_true, Bool.eq_iff_iff, Bool.and_eq_true, beq_iff_eq, beq_iff_eq, decide_eq_true_iff, Prod.mk.injEq]
theorem dps_of {α : Type} {K : PySem.W.Frag} {H : Hp} {R : V → α → Prop} (f : α → PyData) (e : ∀ v x, R v x → Dp K H v (f x)) : ∀ {vs : List V} {xs : List α}, All2 R vs xs → DpAll K H vs (xs.map f)
  | [], [], _ => .nil
  | _ :: _, _ :: _, h => .cons (e _ _ h.1) (dps_of f e h.2)
  | [], _ :: _, h => h.elim
  | _ :: _, [], h => h.elim
/-! ### a list of kinds -/
def KB (k : Kd) : Prop := k.ok ∧ k.deep ≤ 8 ∧ k.letters.length ≤ 60
theorem ks_lk {K : PySem.W.Frag} {H : Hp} {vs : List V} {ks : List Kd} (h : All2 (KAt H) vs ks) (b : ∀ k ∈ ks, KB k) : ∀ v ∈ vs, Lk K H v := fun v hv => by
  obtain ⟨k, m, r⟩ := h.mem hv
  exact r.lk (b k m).1 (by have := (b k m).2.1; omega)
theorem ks_dp {K : PySem.W.Frag} {H : Hp} {vs : List V} {ks : List Kd} (h : All2 (KAt H) vs ks) : DpAll K H vs (ks.map Kd.dat) := dps_of (R := KAt H) Kd.dat (fun _ _ h => h.dp) h
theorem ks_gd {ks : List Kd} (b : ∀ k ∈ ks, k.deep ≤ 8) (l : ks.length ≤ 100000) {n : Nat} (hn : 10 ≤ n) : Gd n (.list (ks.map Kd.dat)) := by
  obtain ⟨m, rfl⟩ : ∃ m, n = m + 1 := ⟨n - 1, by omega⟩
  refine ⟨by rw [List.length_map]; exact l, fun d hd => ?_⟩
  obtain ⟨k, hk, rfl⟩ := List.mem_map.mp hd
  exact Gd.kd.mono (by have := b k hk; omega)
theorem rows_gd {ps : List (Str × Int)} (l : ps.length ≤ 100000) {n : Nat} (hn : 3 ≤ n) : Gd n (.list (ps.map rowDat)) := by
  obtain ⟨m, rfl⟩ : ∃ m, n = m + 3 := ⟨n - 3, by omega⟩
  refine ⟨by rw [List.length_map]; exact l, fun d hd => ?_⟩
  obtain ⟨k, hk, rfl⟩ := List.mem_map.mp hd
  refine ⟨by show 2 ≤ 100000; decide, fun d hd => ?_⟩
  simp only [List.mem_cons, List.not_mem_nil, or_false] at hd
  rcases hd with rfl | rfl <;> exact trivial
theorem All2.rev {α β : Type} {R : α → β → Prop} : ∀ {xs : List α} {ys : List β}, All2 R xs ys → All2 R xs.reverse ys.reverse
  | [], [], _ => trivial
  | x :: xs, y :: ys, h => by
    rw [List.reverse_cons, List.reverse_cons]
    exact All2.snoc h.1 (All2.rev h.2)
  | [], _ :: _, h => h.elim
  | _ :: _, [], h => h.elim
/-! ### turned -/
def turnF (f : Str) : Str := if f = "behind" then "ahead" else if f = "ahead" then "behind" else f
theorem behind_ahead : ¬ (Str.ofString "behind" = Str.ofString "ahead") := by decide +kernel
theorem ahead_behind : ¬ (Str.ofString "ahead" = Str.ofString "behind") := by decide +kernel
theorem with_behind : ¬ (Str.ofString "with" = Str.ofString "behind") := by decide +kernel
theorem with_ahead : ¬ (Str.ofString "with" = Str.ofString "ahead") := by decide +kernel
theorem behind_with : ¬ (Str.ofString "behind" = Str.ofString "with") := by decide +kernel
theorem ahead_with : ¬ (Str.ofString "ahead" = Str.ofString "with") := by decide +kernel
theorem turnF_b : turnF "behind" = "ahead" := if_pos rfl
theorem turnF_a : turnF "ahead" = "behind" := by
  show (if Str.ofString "ahead" = Str.ofString "behind" then _ else _) = _
  rw [if_neg ahead_behind]
  exact if_pos rfl
theorem turnF_w : turnF "with" = "with" := by
  show (if Str.ofString "with" = Str.ofString "behind" then _ else _) = _
  rw [if_neg with_behind]
  exact if_neg with_ahead
def Kd.turn : Kd → Kd
  | .pl s => .pl s
  | .nd f a b => .nd (turnF f) b.turn a.turn
theorem turnF_form {f : Str} (h : Form f) : Form (turnF f) := by
  rcases h with rfl | rfl | rfl
  · exact .inr (.inl turnF_b)
  · exact .inl turnF_a
  · exact .inr (.inr turnF_w)
theorem turnF_twice {f : Str} (h : Form f) : turnF (turnF f) = f := by
  rcases h with rfl | rfl | rfl
  · rw [turnF_b, turnF_a]
  · rw [turnF_a, turnF_b]
  · rw [turnF_w, turnF_w]
theorem Kd.turn_ok : ∀ {k : Kd}, k.ok → k.turn.ok
  | .pl _, h => h
  | .nd _ _ _, ⟨h, a, b⟩ => ⟨turnF_form h, Kd.turn_ok b, Kd.turn_ok a⟩
theorem Kd.turn_deep : ∀ k : Kd, k.turn.deep = k.deep
  | .pl _ => rfl
  | .nd f a b => by
    show 1 + max b.turn.deep a.turn.deep = 1 + max a.deep b.deep
    rw [Kd.turn_deep a, Kd.turn_deep b]
    omega
theorem Kd.turn_turn : ∀ {k : Kd}, k.ok → k.turn.turn = k
  | .pl _, _ => rfl
  | .nd f a b, ⟨h, x, y⟩ => by
    show Kd.nd (turnF (turnF f)) a.turn.turn b.turn.turn = _
    rw [turnF_twice h, Kd.turn_turn x, Kd.turn_turn y]
theorem Kd.turn_letters : ∀ k : Kd, k.turn.letters = k.letters.reverse
  | .pl _ => rfl
  | .nd f a b => by
    show b.turn.letters ++ a.turn.letters = (a.letters ++ b.letters).reverse
    rw [Kd.turn_letters a, Kd.turn_letters b, List.reverse_append]
theorem Kd.turn_single : ∀ {k : Kd}, k.ok → k.turn.single = k.single
  | .pl _, _ => rfl
  | .nd f a b, ⟨h, x, y⟩ => by
    show (!decide (turnF f = "with") && (b.turn.single && a.turn.single)) = (!decide (f = "with") && (a.single && b.single))
    rw [Kd.turn_single x, Kd.turn_single y, Bool.and_comm b.single]
    rcases h with rfl | rfl | rfl
    · rw [turnF_b, decide_eq_false behind_with, decide_eq_false ahead_with]
    · rw [turnF_a, decide_eq_false behind_with, decide_eq_false ahead_with]
    · rw [turnF_w]
theorem Kd.turn_kb {k : Kd} (h : KB k) : KB k.turn := by
  refine ⟨Kd.turn_ok h.1, ?_, ?_⟩
  · rw [k.turn_deep]
    exact h.2.1
  · rw [k.turn_letters, List.length_reverse]
    exact h.2.2
/-! ### the signed letters of a kind -/
def Kd.sgn : Kd → Int → List (Str × Int)
  | .pl x, s => [(x, s)]
  | .nd f a b, s => if s = 1 then a.sgn (if f = "ahead" then -s else s) ++ b.sgn (if f = "behind" then -s else s) else b.sgn (if f = "behind" then -s else s) ++ a.sgn (if f = "ahead" then -s else s)
theorem Kd.sgn_len : ∀ (k : Kd) (s : Int), (k.sgn s).length = k.letters.length
  | .pl _, _ => rfl
  | .nd f a b, s => by
    show (if s = 1 then _ else _ : List (Str × Int)).length = (a.letters ++ b.letters).length
    by_cases h : s = 1
    · rw [if_pos h, List.length_append, List.length_append, Kd.sgn_len, Kd.sgn_len]
    · rw [if_neg h, List.length_append, List.length_append, Kd.sgn_len, Kd.sgn_len]
      omega
theorem Kd.sgn_mem : ∀ (k : Kd) (s : Int) (x : Str), x ∈ (k.sgn s).map (·.1) ↔ x ∈ k.letters
  | .pl y, s, x => by simp [Kd.sgn, Kd.letters]
  | .nd f a b, s, x => by
    show x ∈ (if s = 1 then _ else _ : List (Str × Int)).map (·.1) ↔ x ∈ a.letters ++ b.letters
    by_cases h : s = 1
    · rw [if_pos h, List.map_append, List.mem_append, List.mem_append, Kd.sgn_mem, Kd.sgn_mem]
    · rw [if_neg h, List.map_append, List.mem_append, List.mem_append, Kd.sgn_mem, Kd.sgn_mem]
      exact Or.comm
theorem Kd.sgn_turn : ∀ {k : Kd} (s : Int), k.ok → k.turn.sgn s = (k.sgn s).reverse
  | .pl _, _, _ => rfl
  | .nd f a b, s, ⟨h, x, y⟩ => by
    show (if s = 1 then b.turn.sgn (if turnF f = "ahead" then -s else s) ++ a.turn.sgn (if turnF f = "behind" then -s else s) else a.turn.sgn (if turnF f = "behind" then -s else s) ++ b.turn.sgn (if turnF f = "ahead" then -s else s)) = (if s = 1 then _ else _ : List (Str × Int)).reverse
    have e1 : (turnF f = "ahead") ↔ (f = "behind") := by
      rcases h with rfl | rfl | rfl
      · rw [turnF_b]
        exact ⟨fun _ => rfl, fun _ => rfl⟩
      · rw [turnF_a]
        exact ⟨fun z => (behind_ahead z).elim, fun z => (ahead_behind z).elim⟩
      · rw [turnF_w]
        exact ⟨fun z => (with_ahead z).elim, fun z => (with_behind z).elim⟩
    have e2 : (turnF f = "behind") ↔ (f = "ahead") := by
      rcases h with rfl | rfl | rfl
      · rw [turnF_b]
        exact ⟨fun z => (ahead_behind z).elim, fun z => (behind_ahead z).elim⟩
      · rw [turnF_a]
        exact ⟨fun _ => rfl, fun _ => rfl⟩
      · rw [turnF_w]
        exact ⟨fun z => (with_behind z).elim, fun z => (with_ahead z).elim⟩
    simp only [e1, e2]
    rw [Kd.sgn_turn _ x, Kd.sgn_turn _ y]
    by_cases c : s = 1
    · rw [if_pos c, if_pos c, List.reverse_append]
    · rw [if_neg c, if_neg c, List.reverse_append]
def rowSgn (ks : List Kd) : List (Str × Int) := ks.flatMap fun k => k.sgn 1
theorem rowSgn_turn : ∀ {ks : List Kd}, (∀ k ∈ ks, k.ok) → rowSgn (ks.reverse.map Kd.turn) = (rowSgn ks).reverse
  | [], _ => rfl
  | k :: ks, h => by
    have ih := rowSgn_turn fun x hx => h x (List.mem_cons_of_mem _ hx)
    have hk := h k List.mem_cons_self
    unfold rowSgn at ih ⊢
    rw [List.reverse_cons, List.map_append, List.flatMap_append, ih, List.flatMap_cons, List.reverse_append, List.map_cons, List.map_nil, List.flatMap_cons, List.flatMap_nil, List.append_nil, Kd.sgn_turn _ hk]
/-! ### what is left when all that cancels is taken out -/
def inv (p : Str × Int) : Str × Int := (p.1, -p.2)
theorem inv_inv (p : Str × Int) : inv (inv p) = p := by
  obtain ⟨a, i⟩ := p
  show (a, - -i) = (a, i)
  rw [Int.neg_neg]
theorem inv_sym {p q : Str × Int} (h : q = inv p) : p = inv q := by rw [h, inv_inv]
def rstep (st : List (Str × Int)) (p : Str × Int) : List (Str × Int) := match st with
  | [] => [p]
  | q :: r => if q = inv p then r else p :: q :: r
def fold (st ps : List (Str × Int)) : List (Str × Int) := ps.foldl rstep st
def red (ps : List (Str × Int)) : List (Str × Int) := (fold [] ps).reverse
def Rd0 : List (Str × Int) → Prop
  | [] => True
  | [_] => True
  | p :: q :: r => q ≠ inv p ∧ Rd0 (q :: r)
theorem Rd0.tail {p : Str × Int} : ∀ {r : List (Str × Int)}, Rd0 (p :: r) → Rd0 r
  | [], _ => trivial
  | _ :: _, h => h.2
theorem rstep_rd {st : List (Str × Int)} {p : Str × Int} (h : Rd0 st) : Rd0 (rstep st p) := by
  cases st with
  | nil => exact trivial
  | cons q r =>
    show Rd0 (if q = inv p then r else p :: q :: r)
    by_cases c : q = inv p
    · rw [if_pos c]
      exact h.tail
    · rw [if_neg c]
      exact ⟨c, h⟩
theorem fold_rd : ∀ {ps st : List (Str × Int)}, Rd0 st → Rd0 (fold st ps)
  | [], _, h => h
  | _ :: ps, _, h => fold_rd (ps := ps) (rstep_rd h)
theorem rstep_back {st : List (Str × Int)} {p : Str × Int} (h : Rd0 st) : rstep (rstep st p) (inv p) = st := by
  cases st with
  | nil =>
    show (if p = inv (inv p) then [] else _) = []
    rw [if_pos (inv_inv p).symm]
  | cons q r =>
    show rstep (if q = inv p then r else p :: q :: r) (inv p) = q :: r
    by_cases c : q = inv p
    · rw [if_pos c]
      cases r with
      | nil => rw [c]; rfl
      | cons q2 r2 =>
        show (if q2 = inv (inv p) then r2 else inv p :: q2 :: r2) = _
        have n : ¬ q2 = inv (inv p) := fun z => h.1 (by rw [z, c])
        rw [if_neg n, c]
    · rw [if_neg c]
      show (if p = inv (inv p) then q :: r else _) = q :: r
      rw [if_pos (inv_inv p).symm]
theorem fold_app (st a b : List (Str × Int)) : fold st (a ++ b) = fold (fold st a) b := List.foldl_append
theorem snoc_ind {α : Type} {P : List α → Prop} (h0 : P []) (hs : ∀ l x, P l → P (l ++ [x])) (l : List α) : P l := by
  have g : ∀ m : List α, P m.reverse := by
    intro m
    induction m with
    | nil => exact h0
    | cons x m ih =>
      rw [List.reverse_cons]
      exact hs _ _ ih
  have := g l.reverse
  rw [List.reverse_reverse] at this
  exact this
theorem fold_red (l : List (Str × Int)) : ∀ st, Rd0 st → fold st l = fold st (red l) := by
  refine snoc_ind (P := fun l => ∀ st, Rd0 st → fold st l = fold st (red l)) (fun _ _ => rfl) (fun l p ih st hst => ?_) l
  have e : fold [] (l ++ [p]) = rstep (fold [] l) p := fold_app [] l [p]
  unfold red at ih ⊢
  rw [e, fold_app st l [p], ih st hst]
  have hr : Rd0 (fold [] l) := fold_rd trivial
  revert hr
  cases fold [] l with
  | nil => intro _; rfl
  | cons q r =>
    intro hr
    show rstep (fold st (q :: r).reverse) p = fold st (if q = inv p then r else p :: q :: r).reverse
    by_cases c : q = inv p
    · rw [if_pos c, List.reverse_cons, fold_app, inv_sym c]
      exact rstep_back (fold_rd hst)
    · rw [if_neg c, List.reverse_cons (a := p), fold_app st _ [p]]
      rfl
theorem fold_rev (l : List (Str × Int)) : ∀ st, Rd0 st → fold st l.reverse = fold st (fold [] l) := by
  refine snoc_ind (P := fun l => ∀ st, Rd0 st → fold st l.reverse = fold st (fold [] l)) (fun _ _ => rfl) (fun l p ih st hst => ?_) l
  have e : fold [] (l ++ [p]) = rstep (fold [] l) p := fold_app [] l [p]
  rw [e, List.reverse_append]
  show fold (rstep st p) l.reverse = _
  rw [ih _ (rstep_rd hst)]
  cases fold [] l with
  | nil => rfl
  | cons q r =>
    show fold (rstep (rstep st p) q) r = fold st (if q = inv p then r else p :: q :: r)
    by_cases c : q = inv p
    · rw [if_pos c, c, rstep_back hst]
    · rw [if_neg c]
      rfl
theorem fold_of_rd : ∀ {w acc : List (Str × Int)}, Rd0 w → (∀ p r q s, w = p :: r → acc = q :: s → q ≠ inv p) → fold acc w = w.reverse ++ acc
  | [], _, _, _ => rfl
  | p :: r, acc, h, c => by
    have e : rstep acc p = p :: acc := by
      cases acc with
      | nil => rfl
      | cons q s => exact if_neg (c p r q s rfl rfl)
    show fold (rstep acc p) r = (p :: r).reverse ++ acc
    rw [e, fold_of_rd h.tail (fun p2 r2 q s e1 e2 => by
      subst e1
      obtain ⟨e3, _⟩ := List.cons.inj e2
      subst e3
      exact fun z => h.1 (inv_sym z)), List.reverse_cons, List.append_assoc]
    rfl
theorem red_rev (l : List (Str × Int)) : red l.reverse = (red l).reverse := by
  unfold red
  have h : Rd0 (fold [] l) := fold_rd (st := []) trivial
  rw [fold_rev l [] trivial, fold_of_rd h (fun _ _ _ _ _ z => by cases z), List.append_nil]
theorem red_mem (l : List (Str × Int)) : ∀ x ∈ red l, x ∈ l := by
  refine snoc_ind (P := fun l => ∀ x ∈ red l, x ∈ l) (fun _ z => nomatch z) (fun l p ih x hx => ?_) l
  have e : fold [] (l ++ [p]) = rstep (fold [] l) p := fold_app [] l [p]
  unfold red at ih hx
  rw [e, List.mem_reverse] at hx
  have ih' : ∀ y ∈ fold [] l, y ∈ l := fun y hy => ih y (List.mem_reverse.mpr hy)
  revert hx ih'
  cases fold [] l with
  | nil =>
    intro hx _
    exact List.mem_append_right _ hx
  | cons q r =>
    intro hx ih'
    have hx' : x ∈ (if q = inv p then r else p :: q :: r) := hx
    by_cases c : q = inv p
    · rw [if_pos c] at hx'
      exact List.mem_append_left _ (ih' x (List.mem_cons_of_mem _ hx'))
    · rw [if_neg c] at hx'
      rcases List.mem_cons.mp hx' with rfl | h
      · exact List.mem_append_right _ (List.mem_singleton.mpr rfl)
      · exact List.mem_append_left _ (ih' x h)
theorem fold_len : ∀ (ps st : List (Str × Int)), (fold st ps).length ≤ st.length + ps.length
  | [], st => Nat.le_refl _
  | p :: ps, st => by
    have h := fold_len ps (rstep st p)
    have e : (rstep st p).length ≤ st.length + 1 := by
      cases st with
      | nil => exact Nat.le_refl _
      | cons q r =>
        show (if q = inv p then r else p :: q :: r).length ≤ _
        by_cases c : q = inv p
        · rw [if_pos c, List.length_cons]
          omega
        · rw [if_neg c]
          exact Nat.le_refl _
    show (fold (rstep st p) ps).length ≤ st.length + (ps.length + 1)
    omega
/-! ### the balance -/
def cnt : List (Str × Int) → Str → Int
  | [], _ => 0
  | p :: ps, s => (if p.1 = s then p.2 else 0) + cnt ps s
theorem cnt_app (s : Str) : ∀ a b : List (Str × Int), cnt (a ++ b) s = cnt a s + cnt b s
  | [], b => by
    show cnt b s = 0 + cnt b s
    omega
  | p :: a, b => by
    show _ + cnt (a ++ b) s = _ + cnt a s + cnt b s
    rw [cnt_app s a b]
    omega
theorem cnt_rev (s : Str) : ∀ a : List (Str × Int), cnt a.reverse s = cnt a s
  | [] => rfl
  | p :: a => by
    rw [List.reverse_cons, cnt_app, cnt_rev s a]
    show _ + (_ + 0) = _ + _
    omega
def bal (ps : List (Str × Int)) (ss : List Str) : List (Str × Int) := (ss.map fun s => (s, cnt ps s)).filter fun x => decide (x.2 ≠ 0)
/-- a dict of counts -/
def DC (kvs : List (L2.Key × V)) (ps : List (Str × Int)) : Prop := ∃ ks : List Str, kvs.map (·.1) = ks.map Sum.inr ∧ ks.Nodup ∧ (∀ s, s ∈ ks ↔ s ∈ ps.map (·.1)) ∧ ∀ s, valV kvs (.inr s) = if s ∈ ks then some (.int (cnt ps s)) else none
theorem DC.nil : DC [] [] := ⟨[], rfl, List.nodup_nil, fun _ => Iff.rfl, fun s => by rw [if_neg (by simp)]; rfl⟩
theorem cnt_out {s : Str} : ∀ {ps : List (Str × Int)}, s ∉ ps.map (·.1) → cnt ps s = 0
  | [], _ => rfl
  | p :: ps, h => by
    rw [List.map_cons, List.mem_cons, not_or] at h
    show (if p.1 = s then p.2 else 0) + cnt ps s = 0
    rw [if_neg (fun z => h.1 z.symm), cnt_out h.2]
    rfl
theorem DC.get {kvs : List (L2.Key × V)} {ps : List (Str × Int)} (h : DC kvs ps) (s : Str) : (valV kvs (.inr s)).getD (.int 0) = .int (cnt ps s) := by
  obtain ⟨ks, h1, h2, h3, h4⟩ := h
  rw [h4]
  by_cases c : s ∈ ks
  · rw [if_pos c]
    rfl
  · rw [if_neg c, cnt_out fun z => c ((h3 s).2 z)]
    rfl
theorem putK_keys {kvs : List (L2.Key × V)} {k : L2.Key} {y : V} (h : k ∈ kvs.map (·.1)) : (putK kvs k y).map (·.1) = kvs.map (·.1) := by
  unfold putK
  have a : (kvs.any fun kv => decide (kv.1 = k)) = true := by
    obtain ⟨x, m, e⟩ := List.mem_map.mp h
    exact List.any_eq_true.mpr ⟨x, m, decide_eq_true e⟩
  rw [if_pos a, List.map_map]
  refine List.map_congr_left fun x _ => ?_
  show (if x.1 = k then (x.1, y) else x).1 = x.1
  split <;> rfl
theorem DC.put {kvs : List (L2.Key × V)} {ps : List (Str × Int)} (h : DC kvs ps) (p : Str × Int) : DC (putK kvs (.inr p.1) (.int (cnt ps p.1 + p.2))) (ps ++ [p]) := by
  obtain ⟨ks, h1, h2, h3, h4⟩ := h
  have cs : ∀ s, cnt (ps ++ [p]) s = cnt ps s + (if p.1 = s then p.2 else 0) := fun s => by
    rw [cnt_app]
    show _ + (_ + 0) = _
    omega
  by_cases c : p.1 ∈ ks
  · refine ⟨ks, ?_, h2, fun s => ?_, fun s => ?_⟩
    · rw [putK_keys (by rw [h1]; exact List.mem_map_of_mem c), h1]
    · rw [List.map_append, List.mem_append, ← h3 s]
      refine ⟨.inl, fun z => z.elim id fun z => ?_⟩
      have e : s = p.1 := by simpa using z
      rw [e]
      exact c
    · rw [valV_put, h4, cs]
      by_cases e : s = p.1
      · subst e
        rw [if_pos rfl, if_pos c, if_pos rfl]
      · have e2 : ¬ p.1 = s := fun z => e z.symm
        have e3 : ¬ (Sum.inr s : L2.Key) = Sum.inr p.1 := fun z => e (Sum.inr.inj z)
        rw [if_neg e3, if_neg e2, Int.add_zero]
  · have nv : valV kvs (.inr p.1) = none := by rw [h4, if_neg c]
    refine ⟨ks ++ [p.1], ?_, ?_, fun s => ?_, fun s => ?_⟩
    · rw [putK_new _ nv, List.map_append, h1, List.map_append]
      rfl
    · rw [List.nodup_append]
      refine ⟨h2, by simp, fun a ha b hb z => ?_⟩
      rw [List.mem_singleton] at hb
      rw [z, hb] at ha
      exact c ha
    · rw [List.map_append, List.mem_append, List.mem_append, h3 s]
      rfl
    · rw [valV_put, h4, cs]
      by_cases e : s = p.1
      · subst e
        rw [if_pos rfl, if_pos (List.mem_append_right _ (List.mem_singleton.mpr rfl)), if_pos rfl]
      · have e2 : ¬ p.1 = s := fun z => e z.symm
        have e3 : ¬ (Sum.inr s : L2.Key) = Sum.inr p.1 := fun z => e (Sum.inr.inj z)
        rw [if_neg e3, if_neg e2, Int.add_zero]
        by_cases c2 : s ∈ ks
        · rw [if_pos c2, if_pos (List.mem_append_left _ c2)]
        · rw [if_neg c2, if_neg (fun z => (List.mem_append.mp z).elim c2 fun z => e (List.mem_singleton.mp z))]
end Ww

namespace Ww
open PySem PySem.Spec PyProof.Rows L2
theorem All2.kat {H H' : Hp} {xs : List V} {ks : List Kd} (e : Tps H H') (w : All2 (KAt H) xs ks) : All2 (KAt H') xs ks := w.mono fun _ _ h => h.mono e
theorem All2.row {H H' : Hp} {xs : List V} {ks : List (Str × Int)} (e : Tps H H') (w : All2 (RowAt H) xs ks) : All2 (RowAt H') xs ks := w.mono (RowAt.mono e)
/-- all but a and h stands -/
def Bt2 (a h : Addr) (H H' : Hp) : Prop := ∀ b o, b ≠ a → b ≠ h → H b = some o → H' b = some o
theorem Bt2.refl (a h : Addr) (H : Hp) : Bt2 a h H H := fun _ _ _ _ q => q
theorem Bt2.trans {a h : Addr} {H H1 H2 : Hp} (x : Bt2 a h H H1) (y : Bt2 a h H1 H2) : Bt2 a h H H2 := fun b o n m q => y b o n m (x b o n m q)
theorem Bt2.of {a h : Addr} {H H' : Hp} (e : Same H H') : Bt2 a h H H' := fun b o _ _ q => e b o q
theorem Bt2.but {a h : Addr} {H H' : Hp} (e : But a H H') : Bt2 a h H H' := fun b o n _ q => e b o n q
theorem Bt2.mut {a h p : Addr} {H H' : Hp} (e : Bt2 a h H H') (n : H p = none) (o : HO) : Bt2 a h H (upd H' p o) := fun b u x y q => by
  rw [upd_ne (ne_of_none q n)]
  exact e b u x y q
theorem Bt2.at2 {a h : Addr} {H H' : Hp} (e : Bt2 a h H H') (o : HO) : Bt2 a h H (upd H' h o) := fun b u x y q => by
  rw [upd_ne y]
  exact e b u x y q
theorem Bt2.tps {a h : Addr} {H H' : Hp} {xs ys : List V} (e : Bt2 a h H H') (ha : H a = some (.lst xs)) (hh : H h = some (.lst ys)) : Tps H H' := fun b zs q =>
  e b _ (ne_of q ha (fun z => by cases z)) (ne_of q hh (fun z => by cases z)) q
theorem str_app (x y : Str) : (x ++ y).cps.toList = x.cps.toList ++ y.cps.toList := PySem.W.KT.app_list x y
theorem str_len_app (x y : Str) : (x ++ y).length = x.length + y.length := by
  rw [len_cps, len_cps, len_cps, str_app, List.length_append]
theorem AllLet.app {x y : Str} (a : AllLet x) (b : AllLet y) : AllLet (x ++ y) := fun c hc => by
  rw [str_app] at hc
  rcases List.mem_append.mp hc with z | z
  · exact a c z
  · exact b c z
theorem rowSgn_snoc (ks : List Kd) (k : Kd) : (rowSgn (ks ++ [k])).length = (rowSgn ks).length + k.letters.length := by
  unfold rowSgn
  rw [List.flatMap_append, List.length_append]
  show _ + ([k].flatMap _).length = _
  rw [List.flatMap_cons, List.flatMap_nil, List.append_nil, k.sgn_len]
end Ww

namespace Ww.DS
open PySem PySem.W PySem.Calls PyProof.Rows PyProof.V PySem.Spec L2.DX DT
variable {prog : Program} {w : World} {A : Around} {E : Value → Shared → Prop} {s : Shared}
/-- v is a pair: a text, anything -/
def PairS (h : Heap) (v : Value) (y : Str) : Prop := ∃ (a : Addr) (t : Tok) (b : Addr), v = .ref a ∧ IsTup h a #[.str y t, .ref b]
def keyS (h : Heap) (v : Value) : Str := txOf (seqAt0 h (refOf (some v)))
theorem PairS.tx {h : Heap} {v : Value} {y : Str} (x : PairS h v y) : keyS h v = y := by
  obtain ⟨a, t, u, rfl, h1⟩ := x
  show txOf (seqAt0 h a) = y
  rw [seqAt0_of h1]
  rfl
theorem firsts {h : Heap} : ∀ vs : List Value, (∀ v ∈ vs, ∃ y, PairS h v y) → ∃ fs : List Value, KatTups h vs fs ∧ fs.length = vs.length ∧ ∀ f ∈ fs, ∃ (y : Str) (t : Tok), f = Value.str y t
  | [], _ => ⟨[], KatTups.nil, rfl, fun f hf => by simp at hf⟩
  | v :: vs, x => by
    obtain ⟨fs, k, hl, hi⟩ := firsts vs fun u hu => x u (List.mem_cons_of_mem _ hu)
    obtain ⟨y, a, t, u, rfl, ⟨o, ho, hc, n, hd⟩⟩ := x v (List.mem_cons_self ..)
    refine ⟨.str y t :: fs, KatTups.cons ho hc hd rfl k, by rw [List.length_cons, List.length_cons, hl], fun f hf => ?_⟩
    rcases List.mem_cons.mp hf with rfl | hf
    · exact ⟨y, t, rfl⟩
    · exact hi f hf
theorem kind_ss {vs : List Value} {ρ : Str → Int} (h2 : 2 ≤ vs.length) (hu : A.units < cLine) (x : ∀ v ∈ vs, ∃ y, PairS s.heap v y)
    (hd : ∀ v ∈ vs, ∀ u ∈ vs, keyS s.heap v = keyS s.heap u → v = u)
    (hρ : ∀ v ∈ vs, ∀ u ∈ vs, decide ((keyS s.heap v).cps.toList < (keyS s.heap u).cps.toList) = decide (ρ (keyS s.heap v) < ρ (keyS s.heap u))) (Q : SortKind → Shared → Prop)
    (h : ∀ κ, TS.Cmp prog w A s κ (pairsOf vs) (fun v => ρ (keyS s.heap v)) → Q κ s) : wpAny (model prog w) A (keyKind' vs.toArray) Q E s := by
  obtain ⟨fs, k, hl, hi⟩ := firsts vs x
  refine kat_kind (T := Value.type "str") k (by omega) (fun f hf => ?_) rfl (h _ ?_)
  · obtain ⟨y, t, rfl⟩ := hi f hf
    exact .now
  · have hb : (Value.type "str" != Value.type "tuple") = true := by first | rfl | decide | simp
    rw [hb]
    intro p q hp hq Q' E' hQ
    rw [pairsOf_toList] at hp hq
    have mp := mem_zip_self hp
    have mq := mem_zip_self hq
    obtain ⟨y, py⟩ := x _ mp.2
    obtain ⟨z, pz⟩ := x _ mq.2
    have hr := hρ _ mp.2 _ mq.2
    have hdd := hd _ mp.2 _ mq.2
    have hQ' : Q' (decide (y.cps.toList < z.cps.toList)) s := by
      rw [py.tx, pz.tx] at hr
      rw [hr]
      have hQ2 : Q' (decide (ρ (keyS s.heap p.1) < ρ (keyS s.heap q.1))) s := hQ
      rw [py.tx, pz.tx] at hQ2
      exact hQ2
    rw [py.tx, pz.tx] at hdd
    obtain ⟨a, t, b, e1, ho⟩ := py
    obtain ⟨a', t', b', e2, ho'⟩ := pz
    obtain ⟨o, go, hc, n, hdt⟩ := id ho
    obtain ⟨o', go', hc', n', hdt'⟩ := id ho'
    have hdd' := hdd
    rw [e1, e2] at hdd' ⊢
    refine kat_lt go hdt go' hdt' ?_
    show KatLex prog w A true false Q' [(Value.str y t, Value.str z t'), (Value.ref b, Value.ref b')] 0 s
    by_cases e : y = z
    · have ea : a = a' := Value.ref.inj (hdd' e)
      subst ea
      have eo : o = o' := Option.some.inj (go.symm.trans go')
      subst eo
      have es := hdt.symm.trans hdt'
      injection es with es1 es2
      have eb : b = b' := by
        have := congrArg (fun z : Array Value => z[1]?) es1
        simpa using this
      subst eb
      have irr : decide (y.cps.toList < z.cps.toList) = false := by
        rw [e]
        first | exact decide_eq_false (List.lt_irrefl _) | simp
      rw [irr] at hQ'
      refine kat_cons (wpAny_eqBool_str ?_)
      refine kat_go (fun _ => ?_) (fun e0 => absurd e (of_decide_eq_false e0))
      refine kat_yes (kat_cons ?_)
      have same : ∀ {R : Bool → Shared → Prop}, R true s → wpAny (model prog w) A (eqBool (Value.ref b) (Value.ref b)) R (fun _ _ => False) s := fun {R} h => by
        unfold eqBool
        refine wpAny_holding ?_
        have eb : (Value.ref b == Value.ref b) = true := by simp
        rw [if_pos eb]
        exact wpAny_bind (wpAny_rule (wpAny_pure h))
      exact same (kat_yes (kat_nil hQ'))
    · refine kat_cons (wpAny_eqBool_str ?_)
      refine kat_go (fun e0 => absurd (of_decide_eq_true e0) e) (fun _ => ?_)
      exact kat_no (oneLt_str hQ')
end Ww.DS
namespace Ww.DS
open PySem PySem.Spec PyProof.Rows L2 L2.DX
theorem pairs_at {P : Program} {w : World} {es : List DictEntry} {vs : List (L2.Key × Value)} (h : PySem.Pairs (mixKind P w) es vs) : ∀ {kvs : List (L2.Key × V)}, Paired (fun (p : L2.Key × V) (q : L2.Key × Value) => p.1 = q.1 ∧ RelV p.2 q.2) kvs vs → ∀ (j : Nat) (en : DictEntry), es[j]? = some en →
    ∃ k v, kvs[j]? = some (k, v) ∧ keyIs k en.key = true ∧ RelV v en.val := by
  induction h with
  | nil =>
    intro kvs r j en h
    simp at h
  | @cons e kv es vs h1 h2 hs ih =>
    intro kvs r j en h
    cases r with
    | @cons p _ ps _ r1 rs =>
      cases j with
      | zero =>
        have e' : e = en := by simpa using h
        subst e'
        refine ⟨p.1, p.2, rfl, ?_, ?_⟩
        · rw [r1.1]
          exact h1
        · rw [h2]
          exact r1.2
      | succ j =>
        obtain ⟨k, v, a, b⟩ := ih rs j en (by simpa using h)
        exact ⟨k, v, by simpa using a, b⟩
/-! ### a rank of texts -/
theorem cnt_lt {α : Type} {p q : α → Bool} : ∀ {L : List α}, (∀ a ∈ L, p a = true → q a = true) → (∃ a ∈ L, q a = true ∧ p a = false) → L.countP p < L.countP q
  | [], _, ⟨a, h, _⟩ => nomatch h
  | x :: L, h, ⟨a, ha, h1, h2⟩ => by
    have mono : L.countP p ≤ L.countP q := List.countP_mono_left fun b hb => h b (List.mem_cons_of_mem _ hb)
    rw [List.countP_cons, List.countP_cons]
    rcases List.mem_cons.mp ha with rfl | ha
    · rw [h1, h2]
      simp
      omega
    · have ih := cnt_lt (fun b hb => h b (List.mem_cons_of_mem _ hb)) ⟨a, ha, h1, h2⟩
      have hx := h x List.mem_cons_self
      by_cases c : p x = true
      · rw [if_pos c, if_pos (hx c)]
        omega
      · rw [if_neg c]
        split <;> omega
def rank (L : List Str) (x : Str) : Int := (L.countP fun y => decide (y.cps.toList < x.cps.toList) : Nat)
theorem tri {x y : Str} (n : ¬ x = y) : x.cps.toList < y.cps.toList ∨ y.cps.toList < x.cps.toList := by
  rcases Decidable.em (x.cps.toList < y.cps.toList) with z | z
  · exact .inl z
  · rcases Decidable.em (y.cps.toList < x.cps.toList) with z2 | z2
    · exact .inr z2
    · exact absurd (str_ext (List.le_antisymm (List.not_lt.mp z2) (List.not_lt.mp z))) n
theorem rank_lt {L : List Str} {x y : Str} (hx : x ∈ L) (h : x.cps.toList < y.cps.toList) : rank L x < rank L y := by
  have := cnt_lt (p := fun z : Str => decide (z.cps.toList < x.cps.toList)) (q := fun z : Str => decide (z.cps.toList < y.cps.toList)) (L := L) (fun a _ ha => decide_eq_true (List.lt_trans (of_decide_eq_true ha) h)) ⟨x, hx, decide_eq_true h, decide_eq_false (lt_irr _)⟩
  unfold rank
  omega
theorem rank_iff {L : List Str} {x y : Str} (hx : x ∈ L) (hy : y ∈ L) : decide (x.cps.toList < y.cps.toList) = decide (rank L x < rank L y) := by
  rw [decide_eq_decide]
  refine ⟨rank_lt hx, fun h => ?_⟩
  by_cases e : x = y
  · rw [e] at h
    omega
  · rcases tri e with z | z
    · exact z
    · have := rank_lt hy z
      omega
/-! ### d.items() and sorted(d.items()) of a dict of texts -/
abbrev entS (e : Str × Addr) : L2.Key × V := (Sum.inr e.1, V.ref e.2)
section
variable {X : Cx}
theorem mt_itemsK : MtR X "dict.items" (fun x xs H Q => ∃ (a : Addr) (kvs : List (L2.Key × V)), x = .ref a ∧ xs = [] ∧ H a = some (.dK kvs) ∧ ∀ p, H p = none → Q (.ref p) (upd H p (itemsO p a))) := by
  intro pins s σ H x xs v us Q I rx rxs h
  obtain ⟨a, kvs, rfl, rfl, ha, q⟩ := h
  cases rx
  cases rxs
  obtain ⟨z, hd, vs, rel, o, es, ep, ho, hx, hdat, _⟩ := dk_of I.hok ha
  refine DT.callItems (es := es) (ep := ep) hd ⟨o, ho, hx, hdat⟩ ?_
  have hf : H s.heap.objs.size = none := I.hok.fresh (Nat.le_refl _)
  exact ⟨.ref s.heap.objs.size, upd H s.heap.objs.size (itemsO s.heap.objs.size a), I.laid (t' := s.toks) (fun b u e => Heap.get?_push_of_some _ e) (Nat.le_refl _) (itemsO_ok (Heap.get?_push_size _ rfl)), rfl, q _ hf⟩
def rSortIK : List V → Hp → VK → Prop := fun vs H Q => ∃ (p a : Addr) (ks : List (Str × Addr)), vs = [.ref p] ∧ H p = some (itemsO p a) ∧ H a = some (.dK (ks.map entS)) ∧ ks.length < 64 ∧ (ks.map (·.1)).Nodup ∧
  ∀ (H' : Hp) (l : Addr) (ps : List (Addr × Str × Addr)), Same H H' → H l = none → (ps.map (·.2)).Perm ks → (ps.map (·.2)).Pairwise (fun e f => e.1.cps.toList < f.1.cps.toList) → H' l = some (.lst (ps.map fun z => V.ref z.1)) →
    (∀ z ∈ ps, H' z.1 = some (.tup [.str z.2.1, .ref z.2.2])) → (∀ z ∈ ps, H z.1 = none) → Q (.ref l) H'
theorem cr_sortedItemsK (hc : X.calm = true) (hu : X.A.units + 64 < cLine) : CallR X (.builtin "sorted") rSortIK := by
  intro pins s σ H xs us Q I r h
  obtain ⟨p, a, ks, rfl, hp, ha, h64, hnd, q⟩ := h
  obtain rfl := Vals.ref1 r
  have view : s.heap.IsItemsView p a := (show ObjOk X.prog X.w H s.heap p (itemsO p a) from I.hok p _ hp).1
  obtain ⟨z, hd, vs', rel, o, es, ep, ho, hx, hdat, hes, his, hn⟩ := dk_of I.hok ha
  have l1 : (ks.map entS).length = vs'.length := Paired.length rel
  rw [List.length_map] at l1
  have l2 : es.size = vs'.length := by
    rw [← Array.length_toList]
    exact PySem.Pairs.length his
  have hh : X.A.handled = none := I.ok.hd hc
  refine DT.sortedI (es := es) (ep := ep) hh view ⟨o, ho, hx, hdat⟩ (by rw [sizeLine_eq]; omega) fun h' tk as hk hlt hl hG => ?_
  have lak : as.length = ks.length := by omega
  have nd : as.Nodup := List.Pairwise.imp (fun h => Nat.ne_of_lt h) hG.rise
  have pr : ∀ (j : Nat) (b : Addr), as[j]? = some b → ∃ (e : Str × Addr) (t : Tok), ks[j]? = some e ∧ h'.get? b = some { cls := .type "tuple", data := .seq #[Value.str e.1 t, Value.ref e.2] } := by
    intro j b hj
    obtain ⟨en, he, hg⟩ := hG.pairs j b hj
    rw [← Array.getElem?_toList] at he
    obtain ⟨k, v, hkv, hkey, hval⟩ := pairs_at his rel j en he
    rw [List.getElem?_map] at hkv
    obtain ⟨e, hke, he2⟩ := Option.map_eq_some_iff.mp hkv
    have e1 : (Sum.inr e.1 : L2.Key) = k := congrArg Prod.fst he2
    have e2 : V.ref e.2 = v := congrArg Prod.snd he2
    subst e1
    subst e2
    rcases keyIs_shape hkey with ⟨i, t, c, _⟩ | ⟨y, t, c, ek⟩
    · cases c
    · have ey : e.1 = y := Sum.inr.inj c
      subst ey
      refine ⟨e, t, hke, ?_⟩
      have ev : en.val = Value.ref e.2 := hval
      rw [hg, ek, ev]
  have hob : (h'.push { cls := .type "list", data := .seq (as.map Value.ref).toArray }).get? h'.objs.size = some (seqObj "list" (as.map Value.ref).toArray 0) := Heap.get?_push_size _ rfl
  have kb : ∀ b o, s.heap.get? b = some o → (h'.push { cls := .type "list", data := .seq (as.map Value.ref).toArray }).get? b = some o := fun b o e => Heap.get?_push_of_some _ (hk b o e)
  have ne0 : ∀ b o, h'.get? b = some o → b ≠ h'.objs.size := fun b o e => Nat.ne_of_lt (Heap.lt_size e)
  generalize hh2 : h'.push { cls := .type "list", data := .seq (as.map Value.ref).toArray } = h2 at hob kb ⊢
  have ka : ∀ b o, h'.get? b = some o → h2.get? b = some o := fun b o e => by rw [← hh2]; exact Heap.get?_push_of_some _ e
  have pin : ∀ (j : Nat) (b : Addr), as[j]? = some b → ∃ e : Str × Addr, ks[j]? = some e ∧ PairS (TS.midHeap h2 h'.objs.size (as.map Value.ref)) (.ref b) e.1 := by
    intro j b hj
    obtain ⟨e, t, he, hg⟩ := pr j b hj
    exact ⟨e, he, b, t, e.2, rfl, ⟨_, TS.midHeap_old (ne0 _ _ hg) (ka _ _ hg), rfl, 0, rfl⟩⟩
  have tx : ∀ (j : Nat) (b : Addr) (e : Str × Addr), as[j]? = some b → ks[j]? = some e → keyS (TS.midHeap h2 h'.objs.size (as.map Value.ref)) (.ref b) = e.1 := by
    intro j b e hj he
    obtain ⟨e', he', hp'⟩ := pin j b hj
    have ee : e' = e := Option.some.inj (he'.symm.trans he)
    rw [← ee]
    exact hp'.tx
  have at_ : ∀ v ∈ as.map Value.ref, ∃ (j : Nat) (b : Addr) (e : Str × Addr), v = .ref b ∧ as[j]? = some b ∧ ks[j]? = some e := by
    intro v hv'
    obtain ⟨b, hb, rfl⟩ := List.mem_map.mp hv'
    obtain ⟨j, hj⟩ := List.mem_iff_getElem?.mp hb
    obtain ⟨e, _, he, _⟩ := pr j b hj
    exact ⟨j, b, e, rfl, hj, he⟩
  have mem1 : ∀ {j : Nat} {e : Str × Addr}, ks[j]? = some e → e.1 ∈ ks.map (·.1) := fun h => List.mem_map_of_mem (List.mem_of_getElem? h)
  refine wpAny_call_entry PyProof.Rows.slot_list_sort ⟨_, hob, rfl⟩ PyProof.Rows.entry_list_sort
    (SK.plain_sort (s := { s with heap := h2, toks := tk }) (r := fun v => rank (ks.map (·.1)) (keyS (TS.midHeap h2 h'.objs.size (as.map Value.ref)) v)) hob (by rw [List.length_map]; omega) (fun h2' Qk hQk => ?_) fun ps out o1 o2 o3 => ⟨.none, rfl, ?_⟩) (PyProof.Rows.args_list_sort _)
  · refine kind_ss (s := { s with heap := TS.midHeap h2 h'.objs.size (as.map Value.ref), toks := tk }) (ρ := rank (ks.map (·.1))) h2' (by show X.A.units + 1 + 1 < cLine; omega) (fun v hv' => ?_) (fun v hv' u hu' hvu => ?_) (fun v hv' u hu' => ?_) Qk hQk
    · obtain ⟨j, b, e, rfl, hj, he⟩ := at_ v hv'
      obtain ⟨e', _, hp'⟩ := pin j b hj
      exact ⟨e'.1, hp'⟩
    · obtain ⟨j, b, e, rfl, hj, he⟩ := at_ v hv'
      obtain ⟨j2, b2, e2, rfl, hj2, he2⟩ := at_ u hu'
      rw [tx j b e hj he, tx j2 b2 e2 hj2 he2] at hvu
      have m1 : (ks.map (·.1))[j]? = some e.1 := by rw [List.getElem?_map, he]; rfl
      have m2 : (ks.map (·.1))[j2]? = some e.1 := by rw [List.getElem?_map, he2, hvu]; rfl
      have ej : j = j2 := (List.getElem?_inj (List.getElem?_eq_some_iff.mp m1).1 hnd).mp (m1.trans m2.symm)
      subst ej
      rw [Option.some.inj (hj.symm.trans hj2)]
    · obtain ⟨j, b, e, rfl, hj, he⟩ := at_ v hv'
      obtain ⟨j2, b2, e2, rfl, hj2, he2⟩ := at_ u hu'
      rw [tx j b e hj he, tx j2 b2 e2 hj2 he2]
      exact rank_iff (mem1 he) (mem1 he2)
  · show EP X pins σ Q (.ref h'.objs.size) { s with heap := sortedHeap h2 h'.objs.size (as.map Value.ref) out, toks := tk }
    obtain ⟨zs, pz, ez⟩ := perm_lift (fun z : Addr × Str × Addr => (Value.ref z.1, Value.ref z.1)) o2 (as.zip ks) (zip_self Value.ref as ks lak)
    have idx : ∀ z ∈ zs, ∃ j : Nat, as[j]? = some z.1 ∧ ks[j]? = some z.2 := by
      intro z' hz'
      obtain ⟨j, hj⟩ := List.mem_iff_getElem?.mp (pz.mem_iff.mp hz')
      exact ⟨j, List.getElem?_zip_eq_some.mp hj⟩
    have hout : out.toList = zs.map fun z => Value.ref z.1 := by
      rw [o1, ← ez, List.map_map]
      all_goals rfl
    have hperm : (zs.map (·.2)).Perm ks := by
      have e := pz.map (·.2)
      have m2 : (as.zip ks).map (·.2) = ks := List.map_snd_zip (by rw [lak]; exact Nat.le_refl _)
      rw [m2] at e
      exact e
    have hnd2 : ((zs.map (·.2)).map (·.1)).Nodup := (hperm.map (·.1)).nodup_iff.mpr hnd
    have hsort : (zs.map (·.2)).Pairwise (fun e f => e.1.cps.toList < f.1.cps.toList) := by
      rw [← ez, List.pairwise_map] at o3
      rw [List.map_map, List.Nodup, List.pairwise_map] at hnd2
      rw [List.pairwise_map]
      refine List.Pairwise.imp_of_mem (fun {x y} hx hy h => ?_) (o3.and hnd2)
      obtain ⟨j, j1, j2⟩ := idx x hx
      obtain ⟨i, i1, i2⟩ := idx y hy
      have h' : rank (ks.map (·.1)) (keyS (TS.midHeap h2 h'.objs.size (as.map Value.ref)) (.ref x.1)) ≤ rank (ks.map (·.1)) (keyS (TS.midHeap h2 h'.objs.size (as.map Value.ref)) (.ref y.1)) := h.1
      rw [tx j _ _ j1 j2, tx i _ _ i1 i2] at h'
      have ne : ¬ x.2.1 = y.2.1 := h.2
      rcases tri ne with z | z
      · exact z
      · have := rank_lt (L := ks.map (·.1)) (mem1 i2) z
        omega
    have kF : ∀ b o, b ≠ h'.objs.size → h2.get? b = some o → (sortedHeap h2 h'.objs.size (as.map Value.ref) out).get? b = some o := fun b o hb e => (PyProof.Rows.sortedHeap_old hb (Heap.lt_size e)).trans e
    have kS : ∀ b o, s.heap.get? b = some o → (sortedHeap h2 h'.objs.size (as.map Value.ref) out).get? b = some o := fun b o e => kF b o (ne0 _ _ (hk b o e)) (kb b o e)
    obtain ⟨eF, heF⟩ := PyProof.Rows.sortedHeap_at (vs := as.map Value.ref) (out := out) hob
    have I1 : Inv X pins σ H { s with heap := sortedHeap h2 h'.objs.size (as.map Value.ref) out, toks := tk } := I.kept (t' := tk) kS
    have hn0 : H h'.objs.size = none := I.hok.fresh (Nat.le_of_lt hlt)
    have hlen : (zs.map fun z => V.ref z.1).length ≤ sizeLine := by
      have e := hperm.length_eq
      rw [List.length_map] at e
      rw [List.length_map, sizeLine_eq]
      omega
    have rv : Vals (zs.map fun z => V.ref z.1) out.toList := by
      rw [hout]
      exact vals_maps (fun z : Addr × Str × Addr => V.ref z.1) (fun z => Value.ref z.1) zs fun _ _ => rfl
    have I2 : Inv X pins σ (upd H h'.objs.size (.lst (zs.map fun z => V.ref z.1))) { s with heap := sortedHeap h2 h'.objs.size (as.map Value.ref) out, toks := tk } :=
      I1.take (h' := sortedHeap h2 h'.objs.size (as.map Value.ref) out) (t' := tk) (fun b ob _ e => e) (I.fpOk (Nat.le_of_lt hlt) hn0) ⟨hlen, out.toList, eF, rv, heF⟩
    obtain ⟨H2, I3, g, qt⟩ := takeT (P := fun b vs => ∃ (j : Nat) (e : Str × Addr), as[j]? = some b ∧ ks[j]? = some e ∧ vs = [.str e.1, .ref e.2]) I as _ I2 nd fun b hb => by
      obtain ⟨j, hj⟩ := List.mem_iff_getElem?.mp hb
      obtain ⟨e, t, he, hg⟩ := pr j b hj
      have hbl : s.heap.objs.size ≤ b := Nat.le_of_lt (hG.above b hb)
      refine ⟨hbl, ?_, [.str e.1, .ref e.2], ⟨j, e, hj, he, rfl⟩, fun H3 => ⟨(by rw [sizeLine_eq]; show 2 ≤ 16777216; omega), [Value.str e.1 t, Value.ref e.2], .cons ⟨t, rfl⟩ (.cons rfl .nil), ⟨_, kF _ _ (ne0 _ _ hg) (ka _ _ hg), rfl, 0, rfl⟩⟩⟩
      rw [upd_ne (ne0 _ _ hg)]
      exact I.hok.fresh hbl
    have gr : ∀ b o, H b = some o → H2 b = some o := fun b o e => g b o (by rw [upd_ne (ne_of_none e hn0)]; exact e)
    refine ⟨.ref h'.objs.size, H2, I3, rfl, q H2 h'.objs.size zs gr hn0 hperm hsort (g _ _ upd_same) (fun z' hz' => ?_) fun z' hz' => ?_⟩
    · obtain ⟨i, i1, i2⟩ := idx z' hz'
      obtain ⟨vs, ⟨j, e, j1, j2, ev⟩, hH⟩ := qt z'.1 (List.mem_of_getElem? i1)
      have eij : i = j := (List.getElem?_inj (List.getElem?_eq_some_iff.mp i1).1 nd).mp (i1.trans j1.symm)
      subst eij
      have ee : e = z'.2 := Option.some.inj (j2.symm.trans i2)
      rw [ev, ee] at hH
      exact hH
    · obtain ⟨i, i1, i2⟩ := idx z' hz'
      exact I.hok.fresh (Nat.le_of_lt (hG.above _ (List.mem_of_getElem? i1)))
end
end Ww.DS

namespace Ww
open PySem PySem.Spec PyProof.Rows L2
/-! ### xs.count(y) of texts -/
def eqs (k : Str) (v : Value) : Bool := match v with
  | .str n _ => n == k
  | _ => false
theorem eqs_count {k : Str} : ∀ {us : List Value} {ns : List Str}, StrsAre us ns → us.countP (eqs k) = ns.count k
  | _, _, .nil => rfl
  | _, _, .cons n t h => by
    have ih := eqs_count (k := k) h
    rw [List.countP_cons, List.count_cons, ih] <;> rfl
theorem eqs_at {A : Around} {s : Shared} {k : Str} {t : Tok} : ∀ {us : List Value} {ns : List Str}, StrsAre us ns → ∀ y ∈ us, SeqAt.EqAt A s y (.str k t) (eqs k y)
  | _, _, .nil => fun y hy => by cases hy
  | _, _, .cons n t' h => fun y hy => by
    rcases List.mem_cons.mp hy with e | e
    · rw [e]
      exact SeqAt.EqAt.str_str n t' k t
    · exact eqs_at h y e
section
variable {X : Cx}
def rCntS (K : PySem.W.Frag) : V → List V → Hp → VK → Prop := fun x xs H Q => ∃ (p : Addr) (ns : List Str) (k : Str), x = .ref p ∧ xs = [.str k] ∧ SqL K H p (ns.map V.str) ∧ Q (.int (ns.count k : Nat)) H
theorem mt_lcountS : MtR X "list.count" (rCntS X.K) := by
  intro pins s σ H x xs v us Q I rx rxs h
  obtain ⟨p, ns, k, rfl, rfl, hs, q⟩ := h
  cases rx
  obtain ⟨u, rfl, ru⟩ := rxs.one
  obtain ⟨t, rfl⟩ := ru
  obtain ⟨its, rv, ⟨⟨cls, dd, data, sl⟩, n, ho, hc, hdn, hd⟩, hlen⟩ := I.list hs
  simp only at hc hd
  subst hc hd
  have hi := strsAre_vals rv
  refine call_meets PySem.F.slot_list_count ⟨_, ho, rfl⟩ PySem.F.entry_list_count (PySem.F.args_list_count_2 _ _)
    (SeqAt.list_countAt p its.toArray n dd sl (.str k t) (eqs k)) ⟨ho, fun y hy => eqs_at hi y (by simpa using hy), ?_⟩
  have ec : its.toArray.toList.countP (eqs k) = ns.count k := eqs_count hi
  refine ⟨.int (ns.count k : Nat), H, I.tok _, ⟨s.toks, ?_⟩, q⟩
  show Value.int ((its.toArray.toList.countP (eqs k) : Nat) : Int) s.toks = Value.int ((ns.count k : Nat) : Int) s.toks
  rw [ec]
end
/-- two keywords, the other way about -/
theorem kb_two {K : PySem.W.Frag} {x qual y z : Str} {st : Stmt} {f : Addr} {fd : FuncData} (F : Fun K x qual st f fd)
    (h : ∀ (kV doc pm : Value) (an : Option Addr) (cdv ct u v : Value), bindArgs (PySem.W.fnOf x qual (defArgs st) (defBody st) (defScope st) .none kV doc pm an cdv ct) ⟨[], [(z, u), (y, v)]⟩ = pure [(y, v), (z, u)]) :
    KB0 K fd [y, z] [z, y] (fun ws => ws.reverse) (fun zs => zs.reverse) := by
  obtain ⟨oc, od, kV, doc, pm, an, cdv, ct, osl, rfl, lk, hcd⟩ := F.ex
  refine ⟨fun s ws hl => ?_, fun r => ?_⟩
  · match ws, hl with
    | [u, v], _ => exact .of_eq (h kV doc pm an cdv ct u v)
  · have go : ∀ {zs : List V} {ws : List Value}, Vals zs ws → ∀ {zs2 : List V} {ws2 : List Value}, Vals zs2 ws2 → Vals (zs.reverse ++ zs2) (ws.reverse ++ ws2) := by
      intro zs ws r
      induction r with
      | nil => exact fun r2 => r2
      | cons a b ih =>
        intro zs2 ws2 r2
        rw [List.reverse_cons, List.reverse_cons, List.append_assoc, List.append_assoc]
        exact ih (.cons a r2)
    have := go r .nil
    rw [List.append_nil, List.append_nil] at this
    exact this
/-! ### kinds alike -/
theorem kd_eqv : ∀ a b : Kd, PyData.eqv a.dat b.dat = true ↔ a = b
  | .pl s, .pl t => by
    show ((Str.ofString "plain" == Str.ofString "plain") && ((s == t) && true)) = true ↔ _
    rw [beq_self_eq_true, Bool.true_and, Bool.and_true, beq_iff_eq, Kd.pl.injEq]
  | .nd f a b, .nd g c d => by
    show ((f == g) && (PyData.eqv a.dat c.dat && (PyData.eqv b.dat d.dat && true))) = true ↔ _
    rw [Bool.and_true, Bool.and_eq_true, Bool.and_eq_true, beq_iff_eq, kd_eqv a c, kd_eqv b d, Kd.nd.injEq]
  | .pl s, .nd g c d => by
    refine ⟨fun h => ?_, fun h => nomatch h⟩
    have : ((Str.ofString "plain" == g) && (PyData.eqv (.str s) c.dat && false)) = true := h
    simp at this
  | .nd f a b, .pl t => by
    refine ⟨fun h => ?_, fun h => nomatch h⟩
    have : ((f == Str.ofString "plain") && (PyData.eqv a.dat (.str t) && false)) = true := h
    simp at this
/-! ### how a kind is another one -/
def prs : Kd → Kd → Option (List (Str × Kd))
  | .pl s, o => some [(s, o)]
  | .nd _ _ _, .pl _ => none
  | .nd f a b, .nd g c d => if f = g then (match prs a c, prs b d with
    | some x, some y => some (x ++ y)
    | _, _ => none) else none
def Con (l : List (Str × Kd)) : Prop := ∀ s x y, (s, x) ∈ l → (s, y) ∈ l → x = y
theorem Con.sub {l m : List (Str × Kd)} (h : Con m) (e : ∀ x ∈ l, x ∈ m) : Con l := fun s x y a b => h s x y (e _ a) (e _ b)
/-- a table: each name once -/
def Good (t : List (Str × Kd)) : Prop := (t.map (·.1)).Nodup
theorem nodup_con : ∀ {t : List (Str × Kd)}, (t.map (·.1)).Nodup → Con t
  | [], _, s, x, y, a, _ => nomatch a
  | p :: t, h, s, x, y, a, b => by
    rw [List.map_cons, List.nodup_cons] at h
    rcases List.mem_cons.mp a with a | a
    · rcases List.mem_cons.mp b with b | b
      · have e := a.trans b.symm
        exact (Prod.mk.inj e).2
      · exact absurd (by rw [← a]; exact List.mem_map_of_mem (f := (·.1)) b) h.1
    · rcases List.mem_cons.mp b with b | b
      · exact absurd (by rw [← b]; exact List.mem_map_of_mem (f := (·.1)) a) h.1
      · exact nodup_con h.2 s x y a b
/-- what the matching says, from a table -/
def Mat (k o : Kd) (t : List (Str × Kd)) (r : Bool) (t' : List (Str × Kd)) : Prop :=
  (r = true → ∃ ps, prs k o = some ps ∧ Con (t ++ ps) ∧ ∀ x, x ∈ t' ↔ x ∈ t ++ ps) ∧ (r = false → ∀ ps, prs k o = some ps → ¬ Con (t ++ ps))
/-- the table in the heap -/
def TabAt (H : Hp) (es : List (Str × Addr)) (t : List (Str × Kd)) : Prop := All2 (fun (e : Str × Addr) (x : Str × Kd) => e.1 = x.1 ∧ KAt H (.ref e.2) x.2) es t
theorem TabAt.mono {H H' : Hp} {es : List (Str × Addr)} {t : List (Str × Kd)} (e : Tps H H') (h : TabAt H es t) : TabAt H' es t := All2.mono (fun _ _ h => ⟨h.1, h.2.mono e⟩) h
theorem KAt.ref {H : Hp} {v : V} : ∀ {k : Kd}, KAt H v k → ∃ p, v = .ref p
  | .pl _, ⟨p, e, _⟩ => ⟨p, e⟩
  | .nd _ _ _, ⟨p, _, _, e, _⟩ => ⟨p, e⟩
theorem TabAt.keys : ∀ {H : Hp} {es : List (Str × Addr)} {t : List (Str × Kd)}, TabAt H es t → es.map (·.1) = t.map (·.1)
  | _, [], [], _ => rfl
  | _, _ :: _, _ :: _, h => by rw [List.map_cons, List.map_cons, h.1.1, TabAt.keys h.2]
  | _, [], _ :: _, h => h.elim
  | _, _ :: _, [], h => h.elim
/-- what the table holds at a name -/
theorem TabAt.val {H : Hp} : ∀ {es : List (Str × Addr)} {t : List (Str × Kd)} (s : Str), TabAt H es t →
    (∃ p k, valV (es.map DS.entS) (.inr s) = some (.ref p) ∧ (s, k) ∈ t ∧ KAt H (.ref p) k) ∨ (valV (es.map DS.entS) (.inr s) = none ∧ s ∉ t.map (·.1))
  | [], [], s, _ => .inr ⟨rfl, by simp⟩
  | e :: es, x :: t, s, ⟨⟨h1, h2⟩, h3⟩ => by
    rw [List.map_cons]
    by_cases c : e.1 = s
    · refine .inl ⟨e.2, x.2, valV_pos (p := DS.entS e) (by show (Sum.inr e.1 : L2.Key) = _; rw [c]), ?_, h2⟩
      have : (s, x.2) = x := by rw [← c, h1]
      rw [this]
      exact List.mem_cons_self
    · have n : ¬ (DS.entS e).1 = (Sum.inr s : L2.Key) := fun z => c (Sum.inr.inj z)
      rw [valV_neg n]
      rcases TabAt.val s h3 with ⟨p, k, a, b, d⟩ | ⟨a, b⟩
      · exact .inl ⟨p, k, a, List.mem_cons_of_mem _ b, d⟩
      · refine .inr ⟨a, ?_⟩
        rw [List.map_cons, List.mem_cons, not_or]
        exact ⟨fun z => c (h1.trans z.symm), b⟩
  | [], _ :: _, _, h => h.elim
  | _ :: _, [], _, h => h.elim
/-- sorted(set(xs)) in one -/
theorem set_sorted {K : PySem.W.Frag} {P : Program} {w : World} {l : Addr} {xs : List Str} {H : Hp} {Q : VK} (h : SqL K H l (xs.map V.str)) (hz : xs.length ≤ 60)
    (q : ∀ ss p H', Same H H' → H p = none → Srt xs ss → H' p = some (.lst (ss.map V.str)) → Q (.ref p) H') : rSetS K P w [.ref l] H (fun v H1 => rSortS P w [v] H1 Q) := by
  refine ⟨l, xs, rfl, h, by omega, fun p hp => ?_⟩
  have l2 := dedup_len xs []
  rw [List.length_nil] at l2
  refine ⟨p, _, rfl, upd_same, by omega, fun ss p3 hs hp3 => ?_⟩
  have e := same_new hp (SetSO P w p (dedup [] xs))
  exact q ss p3 _ (e.trans (same_new hp3 _)) (e.free hp3) hs.of_dedup upd_same
theorem new_at {H : Hp} {p : Addr} (_h : H p = none) (o : HO) : upd H p o p = some o := upd_same
end Ww

namespace Ww
open PySem PySem.Spec PyProof.Rows L2
theorem hu65 {A : Around} {k : Nat} (hr : Room k A) : A.units + 65 < cLine := by
  have := hr.un
  omega
/-! ### pairs of kinds, alike -/
def pd (x : Kd × Kd) : PyData := .tuple [x.1.dat, x.2.dat]
theorem pd_eqv (x y : Kd × Kd) : PyData.eqv (pd x) (pd y) = true ↔ x = y := by
  obtain ⟨a, b⟩ := x
  obtain ⟨c, d⟩ := y
  show (PyData.eqv a.dat c.dat && (PyData.eqv b.dat d.dat && true)) = true ↔ _
  rw [Bool.and_true, Bool.and_eq_true, kd_eqv, kd_eqv, Prod.mk.injEq]
def same2 (x y : Kd × Kd) : Bool := PyData.eqv (pd y) (pd x)
theorem same2_iff {x y : Kd × Kd} : same2 x y = true ↔ y = x := pd_eqv y x
def idxP (p : List (Kd × Kd)) (x : Kd × Kd) : Nat := p.findIdx (same2 x)
def addP (p : List (Kd × Kd)) (x : Kd × Kd) : List (Kd × Kd) := if p.any (same2 x) then p else p ++ [x]
theorem addP_mem (p : List (Kd × Kd)) (x : Kd × Kd) : x ∈ addP p x := by
  unfold addP
  by_cases h : p.any (same2 x) = true
  · rw [if_pos h]
    obtain ⟨y, hy, e⟩ := List.any_eq_true.mp h
    rw [← same2_iff.1 e]
    exact hy
  · rw [if_neg h]
    exact List.mem_append_right _ (List.mem_singleton.mpr rfl)
theorem addP_len (p : List (Kd × Kd)) (x : Kd × Kd) : (addP p x).length ≤ p.length + 1 := by
  unfold addP
  split
  · omega
  · rw [List.length_append]
    exact Nat.le_refl _
theorem addP_ext (p : List (Kd × Kd)) (x : Kd × Kd) : ∃ q, addP p x = p ++ q := by
  unfold addP
  split
  · exact ⟨[], (List.append_nil p).symm⟩
  · exact ⟨[x], rfl⟩
theorem idxP_lt {p : List (Kd × Kd)} {x : Kd × Kd} (h : x ∈ p) : idxP p x < p.length := List.findIdx_lt_length_of_exists ⟨x, h, same2_iff.2 rfl⟩
theorem idxP_app {p : List (Kd × Kd)} {x : Kd × Kd} (h : x ∈ p) (q : List (Kd × Kd)) : idxP (p ++ q) x = idxP p x := by
  have l := idxP_lt h
  unfold idxP at l ⊢
  rw [List.findIdx_append, if_pos l]
def letAt (i : Nat) : Str := ⟨#[97 + i]⟩
theorem letAt_let {i : Nat} (h : i < 26) : Let (letAt i) := ⟨97 + i, rfl, by omega, by omega⟩
/-- the shared form of two kinds -/
def shr : Kd → Kd → List (Kd × Kd) → Kd × List (Kd × Kd)
  | .nd f a b, .nd g c d, p => if f = g then (.nd f (shr a c p).1 (shr b d (shr a c p).2).1, (shr b d (shr a c p).2).2) else (.pl (letAt (idxP (addP p (.nd f a b, .nd g c d)) (.nd f a b, .nd g c d))), addP p (.nd f a b, .nd g c d))
  | .pl s, o, p => (.pl (letAt (idxP (addP p (.pl s, o)) (.pl s, o))), addP p (.pl s, o))
  | .nd f a b, .pl t, p => (.pl (letAt (idxP (addP p (.nd f a b, .pl t)) (.nd f a b, .pl t))), addP p (.nd f a b, .pl t))
theorem shr_ext : ∀ (k o : Kd) (p : List (Kd × Kd)), ∃ q, (shr k o p).2 = p ++ q
  | .pl s, o, p => addP_ext p _
  | .nd f a b, .pl t, p => addP_ext p _
  | .nd f a b, .nd g c d, p => by
    unfold shr
    by_cases h : f = g
    · rw [if_pos h]
      obtain ⟨q1, e1⟩ := shr_ext a c p
      obtain ⟨q2, e2⟩ := shr_ext b d (shr a c p).2
      refine ⟨q1 ++ q2, ?_⟩
      show (shr b d (shr a c p).2).2 = _
      rw [e2, e1, List.append_assoc]
    · rw [if_neg h]
      exact addP_ext p _
theorem shr_len : ∀ (k o : Kd) (p : List (Kd × Kd)), (shr k o p).2.length ≤ p.length + k.letters.length
  | .pl s, o, p => addP_len p _
  | .nd f a b, .pl t, p => by
    have h := addP_len p (.nd f a b, .pl t)
    have := (Kd.nd f a b).letters_pos
    show (addP p _).length ≤ _
    omega
  | .nd f a b, .nd g c d, p => by
    unfold shr
    by_cases h : f = g
    · rw [if_pos h]
      have h1 := shr_len a c p
      have h2 := shr_len b d (shr a c p).2
      show (shr b d (shr a c p).2).2.length ≤ p.length + (a.letters ++ b.letters).length
      rw [List.length_append]
      omega
    · rw [if_neg h]
      have h := addP_len p (.nd f a b, .nd g c d)
      have := (Kd.nd f a b).letters_pos
      show (addP p _).length ≤ _
      omega
/-- the rows of the shared form, from outside, each form ahead of its parts -/
def rw2 : Kd → Kd → List (Str ⊕ (Kd × Kd))
  | .nd f a b, .nd g c d => if f = g then .inl f :: (rw2 a c ++ rw2 b d) else [.inr (.nd f a b, .nd g c d)]
  | .pl s, o => [.inr (.pl s, o)]
  | .nd f a b, .pl t => [.inr (.nd f a b, .pl t)]
/-- all pairs of rows -/
def allP (p : List (Kd × Kd)) : List (Str ⊕ (Kd × Kd)) → List (Kd × Kd)
  | [] => p
  | .inl _ :: r => allP p r
  | .inr x :: r => allP (addP p x) r
theorem allP_app : ∀ (r1 r2 : List (Str ⊕ (Kd × Kd))) (p : List (Kd × Kd)), allP p (r1 ++ r2) = allP (allP p r1) r2
  | [], _, _ => rfl
  | .inl _ :: r1, r2, p => allP_app r1 r2 p
  | .inr x :: r1, r2, p => allP_app r1 r2 (addP p x)
theorem shr_all : ∀ (k o : Kd) (p : List (Kd × Kd)), (shr k o p).2 = allP p (rw2 k o)
  | .pl s, o, p => rfl
  | .nd f a b, .pl t, p => rfl
  | .nd f a b, .nd g c d, p => by
    unfold shr rw2
    by_cases h : f = g
    · rw [if_pos h, if_pos h]
      show (shr b d (shr a c p).2).2 = allP p (rw2 a c ++ rw2 b d)
      rw [allP_app, shr_all b d, shr_all a c]
    · rw [if_neg h, if_neg h]
      rfl
/-- the rows folded from the last one on: what stands on the stack -/
def mk2 (p : List (Kd × Kd)) : List (Str ⊕ (Kd × Kd)) → List Kd → List Kd
  | [], st => st
  | .inr x :: r, st => mk2 p r (.pl (letAt (idxP p x)) :: st)
  | .inl f :: r, a :: b :: st => mk2 p r (.nd f a b :: st)
  | .inl _ :: _, st => st
def tree2 (p : List (Kd × Kd)) : Kd → Kd → Kd
  | .nd f a b, .nd g c d => if f = g then .nd f (tree2 p a c) (tree2 p b d) else .pl (letAt (idxP p (.nd f a b, .nd g c d)))
  | .pl s, o => .pl (letAt (idxP p (.pl s, o)))
  | .nd f a b, .pl t => .pl (letAt (idxP p (.nd f a b, .pl t)))
theorem mk2_tree (p : List (Kd × Kd)) : ∀ (k o : Kd) (r : List (Str ⊕ (Kd × Kd))) (st : List Kd), mk2 p ((rw2 k o).reverse ++ r) st = mk2 p r (tree2 p k o :: st)
  | .pl s, o, r, st => rfl
  | .nd f a b, .pl t, r, st => rfl
  | .nd f a b, .nd g c d, r, st => by
    unfold rw2 tree2
    by_cases h : f = g
    · rw [if_pos h, if_pos h, List.reverse_cons, List.reverse_append, List.append_assoc, List.append_assoc, mk2_tree p b d, mk2_tree p a c]
      rfl
    · rw [if_neg h, if_neg h]
      rfl
theorem shr_tree : ∀ (k o : Kd) (p r : List (Kd × Kd)), (shr k o p).1 = tree2 ((shr k o p).2 ++ r) k o
  | .pl s, o, p, r => by
    show Kd.pl (letAt (idxP (addP p _) _)) = Kd.pl (letAt (idxP (addP p _ ++ r) _))
    rw [idxP_app (addP_mem p _)]
  | .nd f a b, .pl t, p, r => by
    show Kd.pl (letAt (idxP (addP p _) _)) = Kd.pl (letAt (idxP (addP p _ ++ r) _))
    rw [idxP_app (addP_mem p _)]
  | .nd f a b, .nd g c d, p, r => by
    by_cases h : f = g
    · have e : shr (.nd f a b) (.nd g c d) p = (.nd f (shr a c p).1 (shr b d (shr a c p).2).1, (shr b d (shr a c p).2).2) := by
        rw [shr, if_pos h]
      have e2 : ∀ P, tree2 P (.nd f a b) (.nd g c d) = .nd f (tree2 P a c) (tree2 P b d) := fun P => by rw [tree2, if_pos h]
      obtain ⟨q2, e3⟩ := shr_ext b d (shr a c p).2
      rw [e, e2]
      show Kd.nd f _ _ = _
      rw [← shr_tree b d (shr a c p).2 r, e3, List.append_assoc, ← shr_tree a c p (q2 ++ r)]
    · have e : shr (.nd f a b) (.nd g c d) p = (.pl (letAt (idxP (addP p (.nd f a b, .nd g c d)) (.nd f a b, .nd g c d))), addP p (.nd f a b, .nd g c d)) := by
        rw [shr, if_neg h]
      have e2 : ∀ P, tree2 P (.nd f a b) (.nd g c d) = .pl (letAt (idxP P (.nd f a b, .nd g c d))) := fun P => by rw [tree2, if_neg h]
      rw [e, e2]
      show Kd.pl (letAt (idxP (addP p _) _)) = Kd.pl (letAt (idxP (addP p _ ++ r) _))
      rw [idxP_app (addP_mem p _)]
/-- what the law works out: the rows, the pairs, the fold -/
theorem due_shr (k o : Kd) : mk2 (allP [] (rw2 k o)) (rw2 k o).reverse [] = [(shr k o []).1] := by
  have h := mk2_tree (allP [] (rw2 k o)) k o [] []
  rw [List.append_nil] at h
  have t := shr_tree k o [] []
  rw [List.append_nil, shr_all] at t
  rw [h, t]
  rfl
theorem abc_get {i : Nat} (h : i < 26) : (Str.ofString "abcdefghijklmnopqrstuvwxyz").cps[((i : Nat) : Int).toNat]? = some (97 + i) := by
  have e : (Str.ofString "abcdefghijklmnopqrstuvwxyz").cps.toList = List.range' 97 26 := by decide +kernel
  rw [Int.toNat_natCast, ← Array.getElem?_toList, e, List.getElem?_range' h, Nat.one_mul]
end Ww

/-! Values by content: what a def does to data and to its own lists and dicts, with no heap in sight -/
namespace Vs
open PySem PySem.Spec PyProof.Rows L2 Ww

/-- a part of a tuple of one's own: data, or a list of one's own -/
inductive El where
  | d (x : PyData)
  | l (xs : List PyData)
def El.dv : El → PyData
  | .d x => x
  | .l xs => .list xs
/-- what an expression yields: data (shared, never changed again), a list or a dict of one's own (to be changed), a tuple with such lists -/
inductive O where
  | dat (d : PyData)
  | ls (ds : List PyData)
  | dk (kvs : List (L2.Key × PyData))
  | tp (es : List El)
/-- a slot: nothing known, a value, a value lent by the caller (its slot is not stored again), the same while it is lent on -/
inductive Sl where
  | no
  | val (o : O)
  | bor (o : O)
  | lent
abbrev En := List Sl
inductive Rs (α : Type) where
  | ok (a : α) (ρ : En)
  | er (c : Str) (o : O) (ρ : En)
  | stuck
abbrev Res := Rs O
abbrev EF := En → Res
def Rs.bind {α γ : Type} (r : Rs α) (k : α → En → Rs γ) : Rs γ := match r with
  | .ok o ρ => k o ρ
  | .er c o ρ => .er c o ρ
  | .stuck => .stuck
/-- as data, once it is shared -/
def O.dv : O → Option PyData
  | .dat d => some d
  | .ls ds => some (.list ds)
  | .dk _ => none
  | .tp es => some (.tuple (es.map El.dv))

/-! ### how they stand in the heap: G the shared part -/
def DKs (K : PySem.W.Frag) (G : Hp) : List (L2.Key × V) → List (L2.Key × PyData) → Prop := All2 fun e x => e.1 = x.1 ∧ Dp K G e.2 x.2
inductive RepEls (K : PySem.W.Frag) (G H : Hp) : List V → List El → List Addr → Prop
  | nil : RepEls K G H [] [] []
  | d {v : V} {x : PyData} {vs : List V} {es : List El} {Bs : List Addr} : Dp K G v x → RepEls K G H vs es Bs → RepEls K G H (v :: vs) (.d x :: es) Bs
  | l {a : Addr} {us : List V} {xs : List PyData} {vs : List V} {es : List El} {Bs : List Addr} : G a = none → H a = some (.lst us) → DpAll K G us xs → RepEls K G H vs es Bs → RepEls K G H (.ref a :: vs) (.l xs :: es) (a :: Bs)
inductive RepO (K : PySem.W.Frag) (G H : Hp) : V → O → List Addr → Prop
  | dat {v : V} {d : PyData} : Dp K G v d → RepO K G H v (.dat d) []
  | ls {a : Addr} {vs : List V} {ds : List PyData} : G a = none → H a = some (.lst vs) → DpAll K G vs ds → RepO K G H (.ref a) (.ls ds) [a]
  | dk {a : Addr} {es : List (L2.Key × V)} {kvs : List (L2.Key × PyData)} : G a = none → H a = some (.dK es) → DKs K G es kvs → RepO K G H (.ref a) (.dk kvs) [a]
  | tp {a : Addr} {vs : List V} {es : List El} {Bs : List Addr} : G a = none → H a = some (.tup vs) → RepEls K G H vs es Bs → RepO K G H (.ref a) (.tp es) (a :: Bs)
inductive RepOs (K : PySem.W.Frag) (G H : Hp) : List V → List O → List Addr → Prop
  | nil : RepOs K G H [] [] []
  | cons {v : V} {vs : List V} {o : O} {os : List O} {B Bs : List Addr} : RepO K G H v o B → RepOs K G H vs os Bs → RepOs K G H (v :: vs) (o :: os) (B ++ Bs)
inductive Slots (K : PySem.W.Frag) (G H : Hp) : L2.St → En → List Addr → Prop
  | nil : Slots K G H [] [] []
  | no {x : Option V} {σ : L2.St} {ρ : En} {As : List Addr} : Slots K G H σ ρ As → Slots K G H (x :: σ) (.no :: ρ) As
  | lent {x : Option V} {σ : L2.St} {ρ : En} {As : List Addr} : Slots K G H σ ρ As → Slots K G H (x :: σ) (.lent :: ρ) As
  | val {v : V} {o : O} {σ : L2.St} {ρ : En} {B As : List Addr} : RepO K G H v o B → Slots K G H σ ρ As → Slots K G H (some v :: σ) (.val o :: ρ) (B ++ As)
  | bor {v : V} {o : O} {σ : L2.St} {ρ : En} {B As : List Addr} : RepO K G H v o B → Slots K G H σ ρ As → Slots K G H (some v :: σ) (.bor o :: ρ) (B ++ As)
def Sub (G H : Hp) : Prop := ∀ a o, G a = some o → H a = some o
/-- what a step leaves: As is owned ahead of it, Bs behind it -/
structure Ext (G H : Hp) (As : List Addr) (G' H' : Hp) (Bs : List Addr) : Prop where
  sub : Sub G G'
  keep : ∀ a o, H a = some o → a ∉ As → H' a = some o
  frz : ∀ a, G a = none → H a ≠ none → a ∉ As → G' a = none
  own : ∀ a ∈ Bs, a ∈ As ∨ H a = none
/-- the lent slots keep their values -/
def Pin (pins σ : L2.St) (ρ : En) : Prop := σ.length = pins.length ∧ ∀ i : Nat, (ρ[i]? = some Sl.lent ∨ ∃ o, ρ[i]? = some (Sl.bor o)) → σ[i]? = pins[i]?
structure Ste (K : PySem.W.Frag) (pins : L2.St) (G H : Hp) (σ : L2.St) (ρ : En) (As : List Addr) : Prop where
  slots : Slots K G H σ ρ As
  nd : As.Nodup
  sub : Sub G H
  pin : Pin pins σ ρ

theorem Sub.refl (G : Hp) : Sub G G := fun _ _ h => h
theorem Sub.trans {G H L : Hp} (a : Sub G H) (b : Sub H L) : Sub G L := fun x o h => b x o (a x o h)
theorem Sub.same {G H : Hp} (a : Sub G H) : Same G H := a
theorem Ext.refl {G H : Hp} {As : List Addr} : Ext G H As G H As := ⟨Sub.refl G, fun _ _ h _ => h, fun _ h _ _ => h, fun _ h => .inl h⟩
/-- less is owned behind it -/
theorem Ext.less {G H : Hp} {As : List Addr} {G' H' : Hp} {Bs Cs : List Addr} (e : Ext G H As G' H' Bs) (h : ∀ a ∈ Cs, a ∈ Bs) : Ext G H As G' H' Cs :=
  ⟨e.sub, e.keep, e.frz, fun a ha => e.own a (h a ha)⟩
/-- more is owned ahead of it: T, which it does not touch -/
theorem Ext.frame {G H : Hp} {As : List Addr} {G' H' : Hp} {Bs : List Addr} (e : Ext G H As G' H' Bs) (T : List Addr) : Ext G H (T ++ As) G' H' (T ++ Bs) :=
  ⟨e.sub, fun a o h n => e.keep a o h fun z => n (List.mem_append_right _ z), fun a h1 h2 n => e.frz a h1 h2 fun z => n (List.mem_append_right _ z), fun a ha => by
    rcases List.mem_append.mp ha with z | z
    · exact .inl (List.mem_append_left _ z)
    · rcases e.own a z with y | y
      · exact .inl (List.mem_append_right _ y)
      · exact .inr y⟩
theorem Ext.trans {G H : Hp} {As : List Addr} {G1 H1 : Hp} {Bs : List Addr} {G2 H2 : Hp} {Cs : List Addr} (x : Ext G H As G1 H1 Bs) (y : Ext G1 H1 Bs G2 H2 Cs) : Ext G H As G2 H2 Cs := by
  have no : ∀ a, H a ≠ none → a ∉ As → a ∉ Bs := fun a h n z => by
    rcases x.own a z with w | w
    · exact n w
    · exact h w
  refine ⟨x.sub.trans y.sub, fun a o h n => y.keep a o (x.keep a o h n) (no a (by rw [h]; exact fun z => nomatch z) n), fun a h1 h2 n => ?_, fun a ha => ?_⟩
  · obtain ⟨o, ho⟩ := Option.ne_none_iff_exists'.mp h2
    exact y.frz a (x.frz a h1 h2 n) (by rw [x.keep a o ho n]; exact fun z => nomatch z) (no a h2 n)
  · rcases y.own a ha with z | z
    · exact x.own a z
    · by_cases hm : a ∈ As
      · exact .inl hm
      · refine .inr ?_
        cases h : H a with
        | none => rfl
        | some o => rw [x.keep a o h hm] at z; cases z
/-- as sets -/
theorem Ext.perm {G H : Hp} {As As2 : List Addr} {G' H' : Hp} {Bs Bs2 : List Addr} (e : Ext G H As G' H' Bs) (h1 : ∀ a, a ∈ As ↔ a ∈ As2) (h2 : ∀ a ∈ Bs2, a ∈ Bs) : Ext G H As2 G' H' Bs2 :=
  ⟨e.sub, fun a o h n => e.keep a o h fun z => n ((h1 a).1 z), fun a x y n => e.frz a x y fun z => n ((h1 a).1 z), fun a ha => (e.own a (h2 a ha)).imp (fun z => (h1 a).1 z) id⟩

/-! ### what stays -/
theorem DKs.mono {K : PySem.W.Frag} {G G' : Hp} (e : Sub G G') {es : List (L2.Key × V)} {kvs : List (L2.Key × PyData)} (h : DKs K G es kvs) : DKs K G' es kvs := All2.mono (fun _ _ h => ⟨h.1, dp_same e h.2⟩) h
theorem RepEls.stay {K : PySem.W.Frag} {G H G' H' : Hp} {vs : List V} {es : List El} {Bs : List Addr} (r : RepEls K G H vs es Bs) (e : Sub G G') (k : ∀ a ∈ Bs, ∀ u, H a = some u → H' a = some u) (f : ∀ a ∈ Bs, G a = none → H a ≠ none → G' a = none) : RepEls K G' H' vs es Bs := by
  induction r with
  | nil => exact .nil
  | d q _ ih => exact .d (dp_same e q) (ih k f)
  | l h1 h2 h3 _ ih => exact .l (f _ List.mem_cons_self h1 (by rw [h2]; exact fun z => nomatch z)) (k _ List.mem_cons_self _ h2) (dps_same e h3) (ih (fun a h => k a (List.mem_cons_of_mem _ h)) fun a h => f a (List.mem_cons_of_mem _ h))
theorem RepEls.there {K : PySem.W.Frag} {G H : Hp} {vs : List V} {es : List El} {Bs : List Addr} (r : RepEls K G H vs es Bs) : ∀ a ∈ Bs, H a ≠ none ∧ G a = none := by
  induction r with
  | nil => exact fun a h => nomatch h
  | d q _ ih => exact ih
  | l h1 h2 h3 _ ih =>
    intro a h
    rcases List.mem_cons.mp h with z | z
    · rw [z, h2, h1]; exact ⟨(fun z => nomatch z), rfl⟩
    · exact ih a z
/-- a value that the step does not own stays -/
theorem RepO.stay {K : PySem.W.Frag} {G H G' H' : Hp} {v : V} {o : O} {Bs : List Addr} (r : RepO K G H v o Bs) (e : Sub G G') (k : ∀ a ∈ Bs, ∀ u, H a = some u → H' a = some u) (f : ∀ a ∈ Bs, G a = none → H a ≠ none → G' a = none) : RepO K G' H' v o Bs := by
  cases r with
  | dat d => exact .dat (dp_same e d)
  | ls h1 h2 h3 => exact .ls (f _ List.mem_cons_self h1 (by rw [h2]; exact fun z => nomatch z)) (k _ List.mem_cons_self _ h2) (dps_same e h3)
  | dk h1 h2 h3 => exact .dk (f _ List.mem_cons_self h1 (by rw [h2]; exact fun z => nomatch z)) (k _ List.mem_cons_self _ h2) (h3.mono e)
  | tp h1 h2 h3 => exact .tp (f _ List.mem_cons_self h1 (by rw [h2]; exact fun z => nomatch z)) (k _ List.mem_cons_self _ h2) (h3.stay e (fun a h => k a (List.mem_cons_of_mem _ h)) fun a h => f a (List.mem_cons_of_mem _ h))
theorem RepO.there {K : PySem.W.Frag} {G H : Hp} {v : V} {o : O} {Bs : List Addr} (r : RepO K G H v o Bs) : ∀ a ∈ Bs, H a ≠ none ∧ G a = none := by
  cases r with
  | dat d => exact fun a h => nomatch h
  | ls h1 h2 h3 => exact fun a h => by rw [List.mem_singleton.mp h, h2, h1]; exact ⟨(fun z => nomatch z), rfl⟩
  | dk h1 h2 h3 => exact fun a h => by rw [List.mem_singleton.mp h, h2, h1]; exact ⟨(fun z => nomatch z), rfl⟩
  | tp h1 h2 h3 =>
    intro a h
    rcases List.mem_cons.mp h with z | z
    · rw [z, h2, h1]; exact ⟨(fun z => nomatch z), rfl⟩
    · exact h3.there a z
theorem RepO.ext {K : PySem.W.Frag} {G H G' H' : Hp} {As Cs : List Addr} {v : V} {o : O} {Bs : List Addr} (r : RepO K G H v o Bs) (e : Ext G H As G' H' Cs) (d : ∀ a ∈ Bs, a ∉ As) : RepO K G' H' v o Bs :=
  r.stay e.sub (fun a h u q => e.keep a u q (d a h)) (fun a h x y => e.frz a x y (d a h))
theorem RepOs.there {K : PySem.W.Frag} {G H : Hp} {vs : List V} {os : List O} {Bs : List Addr} (r : RepOs K G H vs os Bs) : ∀ a ∈ Bs, H a ≠ none ∧ G a = none := by
  induction r with
  | nil => exact fun a h => nomatch h
  | cons r _ ih =>
    intro a h
    rcases List.mem_append.mp h with z | z
    · exact r.there a z
    · exact ih a z
theorem RepOs.ext {K : PySem.W.Frag} {G H G' H' : Hp} {As Cs : List Addr} {vs : List V} {os : List O} {Bs : List Addr} (r : RepOs K G H vs os Bs) (e : Ext G H As G' H' Cs) (d : ∀ a ∈ Bs, a ∉ As) : RepOs K G' H' vs os Bs := by
  induction r with
  | nil => exact .nil
  | cons r _ ih => exact .cons (r.ext e fun a h => d a (List.mem_append_left _ h)) (ih fun a h => d a (List.mem_append_right _ h))
theorem Slots.there {K : PySem.W.Frag} {G H : Hp} {σ : L2.St} {ρ : En} {Bs : List Addr} (r : Slots K G H σ ρ Bs) : ∀ a ∈ Bs, H a ≠ none ∧ G a = none := by
  induction r with
  | nil => exact fun a h => nomatch h
  | no _ ih => exact ih
  | lent _ ih => exact ih
  | val r _ ih =>
    intro a h
    rcases List.mem_append.mp h with z | z
    · exact r.there a z
    · exact ih a z
  | bor r _ ih =>
    intro a h
    rcases List.mem_append.mp h with z | z
    · exact r.there a z
    · exact ih a z
theorem Slots.ext {K : PySem.W.Frag} {G H G' H' : Hp} {As Cs : List Addr} {σ : L2.St} {ρ : En} {Bs : List Addr} (r : Slots K G H σ ρ Bs) (e : Ext G H As G' H' Cs) (d : ∀ a ∈ Bs, a ∉ As) : Slots K G' H' σ ρ Bs := by
  induction r with
  | nil => exact .nil
  | no _ ih => exact .no (ih d)
  | lent _ ih => exact .lent (ih d)
  | val r _ ih => exact .val (r.ext e fun a h => d a (List.mem_append_left _ h)) (ih fun a h => d a (List.mem_append_right _ h))
  | bor r _ ih => exact .bor (r.ext e fun a h => d a (List.mem_append_left _ h)) (ih fun a h => d a (List.mem_append_right _ h))
theorem Slots.len {K : PySem.W.Frag} {G H : Hp} {σ : L2.St} {ρ : En} {Bs : List Addr} (r : Slots K G H σ ρ Bs) : σ.length = ρ.length := by
  induction r with
  | nil => rfl
  | no _ ih => simp [ih]
  | lent _ ih => simp [ih]
  | val _ _ ih => simp [ih]
  | bor _ _ ih => simp [ih]
theorem Ste.ext {K : PySem.W.Frag} {pins : L2.St} {G H G' H' : Hp} {As Bs Cs : List Addr} {σ : L2.St} {ρ : En} (s : Ste K pins G H σ ρ Bs) (e : Ext G H As G' H' Cs) (d : ∀ a ∈ Bs, a ∉ As) (sub : Sub G' H') : Ste K pins G' H' σ ρ Bs :=
  ⟨s.slots.ext e d, s.nd, sub, s.pin⟩
end Vs

namespace Vs
open PySem PySem.Spec PyProof.Rows L2 Ww

/-- what is wanted of an exception: its class, its own dict, the slots, the heap -/
abbrev RK := Str → Addr → L2.St → Hp → Prop
/-- an exception as it flies -/
def ErOk (K : PySem.W.Frag) (R : RK) (pins : L2.St) (G H : Hp) (As : List Addr) (c : Str) (o : O) (ρ : En) : Prop :=
  ∀ σ' G' H' As' v Bs d, Ext G H As G' H' (Bs ++ As') → (Bs ++ As').Nodup → RepO K G' H' v o Bs → Ste K pins G' H' σ' ρ As' → H' d = some (.xd [("value", v)]) → R c d σ' H'
/-- behind a step: what was yielded stands for a, Q is reached -/
def Kont {α β : Type} (rel : Hp → Hp → β → α → List Addr → Prop) (K : PySem.W.Frag) (R : RK) (pins σ : L2.St) (G H : Hp) (As : List Addr) (Q : β → Hp → Prop) : Rs α → Prop
  | .ok o ρ' => ∀ G' H' As' v Bs, Ext G H As G' H' (Bs ++ As') → (Bs ++ As').Nodup → rel G' H' v o Bs → Ste K pins G' H' σ ρ' As' → Q v H'
  | .er c o ρ' => ErOk K R pins G H As c o ρ'
  | .stuck => False
def lift {α β : Type} (rel : L2.St → Hp → Hp → β → α → List Addr → Prop) (K : PySem.W.Frag) (R : RK) (f : En → Rs α) : L2.St → Hp → (β → Hp → Prop) → Prop :=
  fun σ H Q => ∃ pins G ρ As, Ste K pins G H σ ρ As ∧ Kont (rel σ) K R pins σ G H As Q (f ρ)
abbrev relO (K : PySem.W.Frag) : L2.St → Hp → Hp → V → O → List Addr → Prop := fun _ => RepO K
abbrev KontE (K : PySem.W.Frag) (R : RK) (pins σ : L2.St) (G H : Hp) (As : List Addr) (Q : VK) (r : Res) : Prop := Kont (RepO K) K R pins σ G H As Q r
abbrev liftE (K : PySem.W.Frag) (R : RK) (f : EF) : TE := lift (relO K) K R f
/-- an operand that is read alone: a value, or a slot -/
inductive Opd where
  | tmp (o : O)
  | slot (i : Nat)
def Sl.get : Sl → Option O
  | .val o => some o
  | .bor o => some o
  | _ => none
def getS (ρ : En) (i : Nat) : Option O := (ρ[i]?).bind Sl.get
def Opd.get (ρ : En) : Opd → Option O
  | .tmp o => some o
  | .slot i => getS ρ i
abbrev ResP := Rs Opd
abbrev PF := En → ResP
inductive RepP (K : PySem.W.Frag) (G H : Hp) (σ : L2.St) : V → Opd → List Addr → Prop
  | tmp {v : V} {o : O} {Bs : List Addr} : RepO K G H v o Bs → RepP K G H σ v (.tmp o) Bs
  | slot {v : V} {i : Nat} : σ[i]? = some (some v) → RepP K G H σ v (.slot i) []
abbrev relP (K : PySem.W.Frag) : L2.St → Hp → Hp → V → Opd → List Addr → Prop := fun σ G H => RepP K G H σ
abbrev liftP (K : PySem.W.Frag) (R : RK) (f : PF) : TE := lift (relP K) K R f
abbrev relB : L2.St → Hp → Hp → Bool → Bool → List Addr → Prop := fun _ _ _ b c Bs => b = c ∧ Bs = []
abbrev TF := En → Rs Bool
abbrev liftT (K : PySem.W.Frag) (R : RK) (f : TF) : TT := lift relB K R f
abbrev relA (K : PySem.W.Frag) : L2.St → Hp → Hp → List V → List O → List Addr → Prop := fun _ => RepOs K
abbrev AF := En → Rs (List O)
abbrev liftA (K : PySem.W.Frag) (R : RK) (f : AF) : TA := lift (relA K) K R f

theorem PE.weak {X : Cx} {e : Expr} {t t' : TE} (h : PE X e t) (k : ∀ σ H Q, t' σ H Q → t σ H Q) : PE X e t' := ⟨fun pins s σ H Q I q => h.run pins s σ H Q I (k σ H Q q)⟩
theorem PT.weak {X : Cx} {e : Expr} {t t' : TT} (h : PT X e t) (k : ∀ σ H Q, t' σ H Q → t σ H Q) : PT X e t' := ⟨fun pins s σ H Q I q => h.run pins s σ H Q I (k σ H Q q)⟩
theorem PA.weak {X : Cx} {e : List Expr} {t t' : TA} (h : PA X e t) (k : ∀ σ H Q, t' σ H Q → t σ H Q) : PA X e t' := ⟨fun pos pins s σ H Q I q => h.run pos pins s σ H Q I (k σ H Q q)⟩
theorem PS.weak {X : Cx} {e : Stmt} {t t' : TS} (h : PS X e t) (k : ∀ D σ H, t' D σ H → t D σ H) : PS X e t' := ⟨fun pins s σ H D I q => h.run pins s σ H D I (k D σ H q)⟩
theorem PSs.weak {X : Cx} {e : List Stmt} {t t' : TS} (h : PSs X e t) (k : ∀ D σ H, t' D σ H → t D σ H) : PSs X e t' := ⟨fun pins s σ H D I q => h.run pins s σ H D I (k D σ H q)⟩

section
variable {K : PySem.W.Frag} {R : RK} {pins σ : L2.St} {G H G' H' : Hp} {As Bs Cs T : List Addr} {Q : VK}
theorem ErOk.re {c : Str} {o : O} {ρ : En} (k : ErOk K R pins G H As c o ρ) (e : Ext G H As G' H' Cs) : ErOk K R pins G' H' Cs c o ρ :=
  fun σ' G2 H2 As2 v Bs d e2 nd r st hd => k σ' G2 H2 As2 v Bs d (e.trans e2) nd r st hd
theorem Kont.re {α β : Type} {rel : Hp → Hp → β → α → List Addr → Prop} {Q : β → Hp → Prop} {r : Rs α} (k : Kont rel K R pins σ G H As Q r) (e : Ext G H As G' H' Cs) : Kont rel K R pins σ G' H' Cs Q r := by
  cases r with
  | ok o ρ => exact fun G2 H2 As2 v Bs e2 nd r st => k G2 H2 As2 v Bs (e.trans e2) nd r st
  | er c o ρ => exact ErOk.re k e
  | stuck => exact k
/-- temps beside the frame: what they own is not in the step's way -/
theorem nd_disj {T As : List Addr} (h : (T ++ As).Nodup) : ∀ a ∈ T, a ∉ As := fun a h1 h2 => (List.nodup_append.mp h).2.2 a h1 a h2 rfl
theorem nd_frame (hn : (T ++ As).Nodup) (ht : ∀ a ∈ T, H a ≠ none) (e : Ext G H As G' H' Cs) (hc : Cs.Nodup) : (T ++ Cs).Nodup := by
  refine List.nodup_append.mpr ⟨(List.nodup_append.mp hn).1, hc, fun a h1 b h2 z => ?_⟩
  subst z
  rcases e.own a h2 with w | w
  · exact nd_disj hn a h1 w
  · exact ht a h1 w
/-- T is owned, too, and is let go -/
theorem Ext.drop (e : Ext G H As G' H' Bs) (T : List Addr) : Ext G H (T ++ As) G' H' Bs := (e.frame T).less fun a h => List.mem_append_right _ h
theorem ErOk.drop {c : Str} {o : O} {ρ : En} (k : ErOk K R pins G H (T ++ As) c o ρ) : ErOk K R pins G H As c o ρ :=
  fun σ' G2 H2 As2 v Bs d e2 nd r st hd => k σ' G2 H2 As2 v Bs d (e2.drop T) nd r st hd
theorem Kont.bind {α β γ δ : Type} {rel : Hp → Hp → β → α → List Addr → Prop} {rel2 : Hp → Hp → δ → γ → List Addr → Prop} {Q : δ → Hp → Prop} {r : Rs α} {k : α → En → Rs γ} {Q1 : β → Hp → Prop} (nd : (T ++ As).Nodup) (ht : ∀ a ∈ T, H a ≠ none) (h : Kont rel2 K R pins σ G H (T ++ As) Q (r.bind k))
    (step : ∀ o ρ G' H' As' v Bs, Ext G H As G' H' (Bs ++ As') → (T ++ (Bs ++ As')).Nodup → rel G' H' v o Bs → Ste K pins G' H' σ ρ As' → Kont rel2 K R pins σ G' H' (T ++ (Bs ++ As')) Q (k o ρ) → Q1 v H') : Kont rel K R pins σ G H As Q1 r := by
  cases r with
  | ok o ρ => exact fun G2 H2 As2 v Bs e2 nd2 r2 st2 => step o ρ G2 H2 As2 v Bs e2 (nd_frame nd ht e2 nd2) r2 st2 (Kont.re h (e2.frame T))
  | er c o ρ => exact ErOk.drop h
  | stuck => exact h
theorem RepP.there {v : V} {p : Opd} {Bs : List Addr} (r : RepP K G H σ v p Bs) : ∀ a ∈ Bs, H a ≠ none := by
  cases r with
  | tmp r => exact fun a h => (r.there a h).1
  | slot _ => exact fun a h => nomatch h
theorem RepP.ext {v : V} {p : Opd} {Bs : List Addr} (r : RepP K G H σ v p Bs) (e : Ext G H As G' H' Cs) (d : ∀ a ∈ Bs, a ∉ As) : RepP K G' H' σ v p Bs := by
  cases r with
  | tmp r => exact .tmp (r.ext e d)
  | slot h => exact .slot h
theorem Slots.at {v : V} {o : O} : ∀ {σ : L2.St} {ρ : En} {As : List Addr} {i : Nat}, Slots K G H σ ρ As → σ[i]? = some (some v) → getS ρ i = some o → ∃ Bs, RepO K G H v o Bs ∧ ∀ a ∈ Bs, a ∈ As
  | _, _, _, i, .nil, h, _ => by simp at h
  | _, _, _, 0, .no r, _, g => nomatch g
  | _, _, _, i + 1, .no r, h, g => Slots.at (i := i) r (by simpa using h) (by simpa [getS] using g)
  | _, _, _, 0, .lent r, _, g => nomatch g
  | _, _, _, i + 1, .lent r, h, g => Slots.at (i := i) r (by simpa using h) (by simpa [getS] using g)
  | _, _, _, 0, .val q r, h, g => by
    have e1 : _ = v := Option.some.inj (Option.some.inj h)
    have e2 : _ = o := Option.some.inj g
    subst e1 e2
    exact ⟨_, q, fun a m => List.mem_append_left _ m⟩
  | _, _, _, i + 1, .val q r, h, g => by
    obtain ⟨Bs, h1, h2⟩ := Slots.at (i := i) r (by simpa using h) (by simpa [getS] using g)
    exact ⟨Bs, h1, fun a m => List.mem_append_right _ (h2 a m)⟩
  | _, _, _, 0, .bor q r, h, g => by
    have e1 : _ = v := Option.some.inj (Option.some.inj h)
    have e2 : _ = o := Option.some.inj g
    subst e1 e2
    exact ⟨_, q, fun a m => List.mem_append_left _ m⟩
  | _, _, _, i + 1, .bor q r, h, g => by
    obtain ⟨Bs, h1, h2⟩ := Slots.at (i := i) r (by simpa using h) (by simpa [getS] using g)
    exact ⟨Bs, h1, fun a m => List.mem_append_right _ (h2 a m)⟩
/-- what an operand is, when it is looked at -/
theorem RepP.get {ρ : En} {v : V} {p : Opd} {o : O} (r : RepP K G H σ v p Bs) (s : Ste K pins G H σ ρ As) (g : p.get ρ = some o) : ∃ Cs, RepO K G H v o Cs := by
  cases r with
  | tmp r =>
    have e : _ = o := Option.some.inj g
    subst e
    exact ⟨_, r⟩
  | slot h =>
    obtain ⟨Cs, q, _⟩ := s.slots.at h g
    exact ⟨Cs, q⟩
end

/-! ### operations that read -/
def fin1 (F : O → Option O) (a : Option O) (ρ : En) : Res := match a with
  | some a => match F a with
    | some o => .ok o ρ
    | none => .stuck
  | none => .stuck
def fin2 (F : O → O → Option O) (a b : Option O) (ρ : En) : Res := match a, b with
  | some a, some b => match F a b with
    | some o => .ok o ρ
    | none => .stuck
  | _, _ => .stuck
def op1 (F : O → Option O) (f : PF) : EF := fun ρ => (f ρ).bind fun p ρ1 => fin1 F (p.get ρ1) ρ1
def op2 (F : O → O → Option O) (f g : PF) : EF := fun ρ => (f ρ).bind fun p ρ1 => (g ρ1).bind fun q ρ2 => fin2 F (p.get ρ2) (q.get ρ2) ρ2
/-- something new or shared: what is behind an operation that changes nothing -/
structure Grow (G H G' H' : Hp) (Bs : List Addr) : Prop where
  ext : Ext G H [] G' H' Bs
  sub : Sub G' H'
  nd : Bs.Nodup
theorem Grow.same {G H : Hp} (s : Sub G H) : Grow G H G H [] := ⟨Ext.refl, s, .nil⟩
def Prim1 (K : PySem.W.Frag) (r : V → Hp → VK → Prop) (F : O → Option O) : Prop :=
  ∀ (G H : Hp) (x : V) (a o : O) (B : List Addr) (Q : VK), Sub G H → RepO K G H x a B → F a = some o → (∀ G' H' v Bs, Grow G H G' H' Bs → RepO K G' H' v o Bs → Q v H') → r x H Q
def Prim2 (K : PySem.W.Frag) (r : R2) (F : O → O → Option O) : Prop :=
  ∀ (G H : Hp) (x y : V) (a b o : O) (B C : List Addr) (Q : VK), Sub G H → RepO K G H x a B → RepO K G H y b C → F a b = some o → (∀ G' H' v Bs, Grow G H G' H' Bs → RepO K G' H' v o Bs → Q v H') → r x y H Q
section
variable {K : PySem.W.Frag} {R : RK} {pins σ : L2.St} {G H G' H' : Hp} {As Bs Cs T : List Addr} {Q : VK}
/-- behind such an operation: what was owned ahead of it and is not told of any more is let go -/
theorem KontE.grow {o : O} {ρ : En} {v : V} (s : Ste K pins G H σ ρ As) (k : KontE K R pins σ G H (T ++ As) Q (.ok o ρ)) (g : Grow G H G' H' Bs) (r : RepO K G' H' v o Bs) : Q v H' := by
  have hA : ∀ a ∈ As, H a ≠ none := fun a m => (s.slots.there a m).1
  have e : Ext G H As G' H' (Bs ++ As) := (g.ext.frame As).perm (fun a => by simp) fun a m => by
    rcases List.mem_append.mp m with z | z
    · exact List.mem_append_right _ z
    · exact List.mem_append_left _ z
  have nd : (Bs ++ As).Nodup := by
    refine List.nodup_append.mpr ⟨g.nd, s.nd, fun a h1 b h2 z => ?_⟩
    subst z
    rcases g.ext.own a h1 with w | w
    · cases w
    · exact hA a h2 w
  exact k G' H' As v Bs (e.drop T) nd r (s.ext g.ext (fun a m z => nomatch z) g.sub)
theorem op1_le {f : PF} {r : V → Hp → VK → Prop} {F : O → Option O} (p : Prim1 K r F) (σ : L2.St) (H : Hp) (Q : VK) (h : liftE K R (op1 F f) σ H Q) : tUn r (liftP K R f) σ H Q := by
  obtain ⟨pins, G, ρ, As, s, k⟩ := h
  refine ⟨pins, G, ρ, As, s, ?_⟩
  refine Kont.bind (T := []) (Q := Q) s.nd (fun a z => nomatch z) k fun q ρ1 G1 H1 As1 v Bs e1 nd1 r1 s1 k1 => ?_
  have k1 : KontE K R pins σ G1 H1 ([] ++ (Bs ++ As1)) Q (fin1 F (q.get ρ1) ρ1) := k1
  unfold fin1 at k1
  split at k1
  · rename_i a ha
    split at k1
    · rename_i o ho
      obtain ⟨Cs, rc⟩ := RepP.get r1 s1 ha
      exact p G1 H1 v a o Cs Q s1.sub rc ho fun G2 H2 w Ds g rd => KontE.grow s1 (T := Bs) (by simpa using k1) g rd
    · exact k1.elim
  · exact k1.elim
theorem op1_ok {X : Cx} {e : Expr} {f : PF} {r : V → Hp → VK → Prop} {F : O → Option O} (h : PE X e (tUn r (liftP K R f))) (p : Prim1 K r F) : PE X e (liftE K R (op1 F f)) := PE.weak h (op1_le p)
theorem op2_le {f g : PF} {r : R2} {F : O → O → Option O} (p : Prim2 K r F) (σ : L2.St) (H : Hp) (Q : VK) (h : liftE K R (op2 F f g) σ H Q) : tOp r (liftP K R f) (liftP K R g) σ H Q := by
  obtain ⟨pins, G, ρ, As, s, k⟩ := h
  refine ⟨pins, G, ρ, As, s, ?_⟩
  refine Kont.bind (T := []) (Q := Q) s.nd (fun a z => nomatch z) k fun q ρ1 G1 H1 As1 v Bs e1 nd1 r1 s1 k1 => ⟨pins, G1, ρ1, As1, s1, ?_⟩
  have nd1' : (Bs ++ As1).Nodup := by simpa using nd1
  refine Kont.bind (T := Bs) (Q := Q) nd1' (RepP.there r1) (by simpa using k1) fun q2 ρ2 G2 H2 As2 v2 Bs2 e2 nd2 r2 s2 k2 => ?_
  have k2 : KontE K R pins σ G2 H2 (Bs ++ (Bs2 ++ As2)) Q (fin2 F (q.get ρ2) (q2.get ρ2) ρ2) := k2
  have r1' := RepP.ext r1 e2 (nd_disj nd1')
  unfold fin2 at k2
  split at k2
  · rename_i a b ha hb
    split at k2
    · rename_i o ho
      obtain ⟨Cs, rc⟩ := RepP.get r1' s2 ha
      obtain ⟨Ds, rd⟩ := RepP.get r2 s2 hb
      exact p G2 H2 v v2 a b o Cs Ds Q s2.sub rc rd ho fun G3 H3 w Es g re => KontE.grow s2 (T := Bs ++ Bs2) (by simpa using k2) g re
    · exact k2.elim
  · exact k2.elim
theorem op2_ok {X : Cx} {e : Expr} {f g : PF} {r : R2} {F : O → O → Option O} (h : PE X e (tOp r (liftP K R f) (liftP K R g))) (p : Prim2 K r F) : PE X e (liftE K R (op2 F f g)) := PE.weak h (op2_le p)
/-- either of two rules -/
theorem lift_or {X : Cx} {e : Expr} {f f1 f2 : EF} (h1 : PE X e (liftE K R f1)) (h2 : PE X e (liftE K R f2)) (h : ∀ ρ, f ρ = f1 ρ ∨ f ρ = f2 ρ) : PE X e (liftE K R f) := by
  refine ⟨fun pins s σ H Q I ⟨pn, G, ρ, As, st, k⟩ => ?_⟩
  rcases h ρ with q | q
  · exact h1.run pins s σ H Q I ⟨pn, G, ρ, As, st, by rw [← q]; exact k⟩
  · exact h2.run pins s σ H Q I ⟨pn, G, ρ, As, st, by rw [← q]; exact k⟩
end
end Vs

namespace Vs
open PySem PySem.Spec PyProof.Rows L2 Ww

/-! ### what stands behind a value -/
section
variable {K : PySem.W.Frag} {R : RK} {G H G' H' : Hp} {v : V} {o : O} {B : List Addr}
theorem RepO.dp0 {d : PyData} (r : RepO K G H v (.dat d) B) : Dp K G v d := by cases r; assumption
theorem dat_int {i : Int} (r : RepO K G H v (.dat (.int i)) B) : v = .int i := by cases r.dp0; rfl
theorem dat_bool {i : Bool} (r : RepO K G H v (.dat (.bool i)) B) : v = .bl i := by cases r.dp0; rfl
theorem dat_str {i : Str} (r : RepO K G H v (.dat (.str i)) B) : v = .str i := by cases r.dp0; rfl
theorem dat_none (r : RepO K G H v (.dat .none) B) : v = .non := by cases r.dp0; rfl
theorem dat_tup {ds : List PyData} (r : RepO K G H v (.dat (.tuple ds)) B) : ∃ a vs, v = .ref a ∧ SqT K G a vs ∧ DpAll K G vs ds := by
  cases r.dp0 with
  | tup h1 h2 => exact ⟨_, _, rfl, h1, h2⟩
theorem dat_list {ds : List PyData} (r : RepO K G H v (.dat (.list ds)) B) : ∃ a vs, v = .ref a ∧ SqL K G a vs ∧ DpAll K G vs ds := by
  cases r.dp0 with
  | lst h1 h2 => exact ⟨_, _, rfl, h1, h2⟩
theorem Sub.seq {a : Addr} {xs : List V} (e : Sub G H) (h : SqL K G a xs) : SqL K H a xs := Same.seq (H := G) (H' := H) e h
theorem Sub.sqt {a : Addr} {xs : List V} (e : Sub G H) (h : SqT K G a xs) : SqT K H a xs := Evl.ex_t (H := G) (H' := H) e h
/-- a list's items -/
def O.lv : O → Option (List PyData)
  | .dat (.list ds) => some ds
  | .ls ds => some ds
  | _ => none
theorem RepEls.dps {vs : List V} {es : List El} {Bs : List Addr} (r : RepEls K G H vs es Bs) (s : Sub G H) : DpAll K H vs (es.map El.dv) := by
  induction r with
  | nil => exact .nil
  | d q _ ih => exact .cons (dp_same s q) ih
  | l h1 h2 h3 _ ih => exact .cons (.lst (SqL.of h2) (dps_same s h3)) ih
theorem RepO.lv {ds : List PyData} (r : RepO K G H v o B) (s : Sub G H) (h : o.lv = some ds) : ∃ a vs, v = .ref a ∧ SqL K H a vs ∧ DpAll K G vs ds := by
  cases r with
  | @dat v d q =>
    cases d with
    | list xs =>
      cases (Option.some.inj h : xs = ds)
      cases q with
      | lst h1 h2 => exact ⟨_, _, rfl, s.seq h1, h2⟩
    | _ => cases h
  | ls h1 h2 h3 =>
    cases (Option.some.inj h : _ = ds)
    exact ⟨_, _, rfl, SqL.of h2, h3⟩
  | dk _ _ _ => cases h
  | tp _ _ _ => cases h
/-- as data of the heap as it stands -/
theorem RepO.dp {d : PyData} (r : RepO K G H v o B) (s : Sub G H) (h : o.dv = some d) : Dp K H v d := by
  cases r with
  | dat q =>
    cases (Option.some.inj h : _ = d)
    exact dp_same s q
  | ls h1 h2 h3 =>
    cases (Option.some.inj h : _ = d)
    exact .lst (SqL.of h2) (dps_same s h3)
  | dk _ _ _ => cases h
  | tp h1 h2 h3 =>
    cases (Option.some.inj h : _ = d)
    exact .tup (SqT.of h2) (h3.dps s)
theorem dps_len2 : ∀ {ds : List PyData} {vs : List V}, DpAll K H vs ds → vs.length = ds.length := fun h => dps_len h
theorem DpAll.app : ∀ {ds es : List PyData} {vs ws : List V}, DpAll K H vs ds → DpAll K H ws es → DpAll K H (vs ++ ws) (ds ++ es)
  | [], _, _, _, .nil, h => h
  | _ :: _, _, _, _, .cons a r, h => .cons a (DpAll.app r h)
theorem DpAll.take : ∀ (n : Nat) {ds : List PyData} {vs : List V}, DpAll K H vs ds → DpAll K H (vs.take n) (ds.take n)
  | 0, _, _, _ => by simp only [List.take_zero]; exact .nil
  | n + 1, [], _, .nil => .nil
  | n + 1, _ :: _, _, .cons a r => .cons a (DpAll.take n r)
theorem DpAll.drop : ∀ (n : Nat) {ds : List PyData} {vs : List V}, DpAll K H vs ds → DpAll K H (vs.drop n) (ds.drop n)
  | 0, _, _, h => h
  | n + 1, [], _, .nil => .nil
  | n + 1, _ :: _, _, .cons a r => DpAll.drop n r
theorem DpAll.rev : ∀ {ds : List PyData} {vs : List V}, DpAll K H vs ds → DpAll K H vs.reverse ds.reverse
  | [], _, .nil => .nil
  | _ :: _, _, .cons a r => by
    rw [List.reverse_cons, List.reverse_cons]
    exact DpAll.app (DpAll.rev r) (.cons a .nil)
theorem DpAll.get : ∀ {ds : List PyData} {vs : List V} {i : Nat} {d : PyData}, DpAll K H vs ds → ds[i]? = some d → ∃ v, vs[i]? = some v ∧ Dp K H v d
  | [], _, i, _, .nil, h => by simp at h
  | _ :: _, _, 0, _, .cons a r, h => by
    simp only [List.getElem?_cons_zero, Option.some.injEq] at h
    subst h
    exact ⟨_, rfl, a⟩
  | _ :: _, _, i + 1, _, .cons a r, h => by
    simp only [List.getElem?_cons_succ] at h
    obtain ⟨v, h1, h2⟩ := DpAll.get r h
    exact ⟨v, by simpa using h1, h2⟩
theorem DpAll.set {x : V} {e : PyData} (q : Dp K H x e) : ∀ (i : Nat) {ds : List PyData} {vs : List V}, DpAll K H vs ds → DpAll K H (vs.set i x) (ds.set i e)
  | _, [], _, .nil => .nil
  | 0, _ :: _, _, .cons a r => .cons q r
  | i + 1, _ :: _, _, .cons a r => .cons a (DpAll.set q i r)
theorem DpAll.erase : ∀ (i : Nat) {ds : List PyData} {vs : List V}, DpAll K H vs ds → DpAll K H (vs.eraseIdx i) (ds.eraseIdx i)
  | _, [], _, .nil => by simp only [List.eraseIdx_nil]; exact .nil
  | 0, _ :: _, _, .cons a r => r
  | i + 1, _ :: _, _, .cons a r => .cons a (DpAll.erase i r)
theorem DpAll.dropLast {ds : List PyData} {vs : List V} (h : DpAll K H vs ds) : DpAll K H vs.dropLast ds.dropLast := by
  rw [List.dropLast_eq_take, List.dropLast_eq_take, dps_len h]
  exact DpAll.take _ h
mutual
theorem dp_plain : ∀ {d : PyData} {v : V}, Dp K H v d → d.plain = true
  | .none, _, _ => rfl
  | .bool _, _, _ => rfl
  | .int _, _, _ => rfl
  | .str _, _, _ => rfl
  | .list ds, _, h => by
    cases h with
    | lst _ h2 =>
      show PyData.plainAll ds = true
      exact dps_plain h2
  | .tuple ds, _, h => by
    cases h with
    | tup _ h2 =>
      show PyData.plainAll ds = true
      exact dps_plain h2
  | .dict _, _, h => by cases h
theorem dps_plain : ∀ {ds : List PyData} {vs : List V}, DpAll K H vs ds → PyData.plainAll ds = true
  | [], _, _ => rfl
  | d :: ds, _, h => by
    cases h with
    | cons h1 h2 =>
      show (d.plain && PyData.plainAll ds) = true
      rw [dp_plain h1, dps_plain h2]
      rfl
end

/-! ### something new -/
theorem grow_new {p : Addr} {u : HO} (s : Sub G H) (n : H p = none) : Grow G H G (upd H p u) [p] := by
  have k : ∀ a x, H a = some x → upd H p u a = some x := fun a x h => by rw [upd_ne (ne_of_none h n)]; exact h
  exact ⟨⟨Sub.refl G, fun a x h _ => k a x h, fun _ h _ _ => h, fun a h => .inr (by rw [List.mem_singleton.mp h]; exact n)⟩, fun a x h => k a x (s a x h), by simp⟩
theorem Sub.free {p : Addr} (s : Sub G H) (n : H p = none) : G p = none := Same.free (H := G) (H' := H) s n
theorem grow_ls {p : Addr} {vs : List V} {ds : List PyData} (s : Sub G H) (n : H p = none) (d : DpAll K G vs ds) : RepO K G (upd H p (.lst vs)) (.ref p) (.ls ds) [p] := .ls (s.free n) upd_same d
theorem grow_dk {p : Addr} {es : List (L2.Key × V)} {kvs : List (L2.Key × PyData)} (s : Sub G H) (n : H p = none) (d : DKs K G es kvs) : RepO K G (upd H p (.dK es)) (.ref p) (.dk kvs) [p] := .dk (s.free n) upd_same d
/-- shared at once: a tuple, a list -/
theorem grow_sh {p : Addr} {u : HO} (s : Sub G H) (n : H p = none) : Grow G H (upd G p u) (upd H p u) [] := by
  have gn := s.free n
  refine ⟨⟨fun a x h => by rw [upd_ne (ne_of_none h gn)]; exact h, fun a x h _ => by rw [upd_ne (ne_of_none h n)]; exact h, fun a h h2 _ => ?_, fun a h => nomatch h⟩, fun a x h => ?_, .nil⟩
  · by_cases e : a = p
    · subst e
      exact absurd n h2
    · rw [upd_ne e]
      exact h
  · by_cases e : a = p
    · subst e
      rw [upd_same] at h ⊢
      exact h
    · rw [upd_ne e] at h ⊢
      exact s a x h
theorem sh_tup {p : Addr} {vs : List V} {ds : List PyData} (s : Sub G H) (n : H p = none) (d : DpAll K G vs ds) : RepO K (upd G p (.tup vs)) (upd H p (.tup vs)) (.ref p) (.dat (.tuple ds)) [] :=
  .dat (.tup (SqT.of upd_same) (dps_same (same_new (s.free n) _) d))
theorem Grow.dat {d : PyData} {Q : VK} (s : Sub G H) (h : Dp K G v d) (k : ∀ G' H' w Bs, Grow G H G' H' Bs → RepO K G' H' w (.dat d) Bs → Q w H') : Q v H := k G H v [] (Grow.same s) (.dat h)
end

/-! ### two operands -/
def CatL (a b : O) : Option O := match a.lv, b.lv with
  | some xs, some ys => if xs.length + ys.length ≤ sizeLine then some (.ls (xs ++ ys)) else none
  | _, _ => none
def addO : O → O → Option O
  | .dat (.int i), .dat (.int j) => some (.dat (.int (i + j)))
  | .dat (.str x), .dat (.str y) => if x.length + y.length ≤ sizeLine then some (.dat (.str (x ++ y))) else none
  | .dat (.tuple xs), .dat (.tuple ys) => if xs ≠ [] ∧ xs.length + ys.length ≤ sizeLine then some (.dat (.tuple (xs ++ ys))) else none
  | a, b => CatL a b
def subO : O → O → Option O
  | .dat (.int i), .dat (.int j) => some (.dat (.int (i - j)))
  | _, _ => none
/-- numbers far below a million bits -/
def Wid (i : Int) : Prop := i.natAbs < 2 ^ 4000
instance (i : Int) : Decidable (Wid i) := inferInstanceAs (Decidable (_ < _))
/-- of at most 64 bits -/
def nar (i : Int) : Bool := decide (-(2 ^ 64) < i ∧ i < 2 ^ 64)
def mulO : O → O → Option O
  | .dat (.int i), .dat (.int j) => if (Wid i ∧ Wid j) ∨ nar i = true ∨ nar j = true then some (.dat (.int (i * j))) else none
  | a, .dat (.int k) => match a.lv with
    | some xs => if -(2 ^ 63) ≤ k ∧ k < 2 ^ 63 ∧ xs.length * k.toNat ≤ sizeLine then some (.ls (List.replicate k.toNat xs).flatten) else none
    | none => none
  | _, _ => none
def fdivO : O → O → Option O
  | .dat (.int i), .dat (.int j) => if 0 < j ∧ Wid j then some (.dat (.int (i / j))) else none
  | _, _ => none
def modO : O → O → Option O
  | .dat (.int i), .dat (.int j) => if 0 < j then some (.dat (.int (i % j))) else none
  | _, _ => none
def powOk (i j : Int) : Bool := decide (0 ≤ j ∧ j ≤ 1000000 ∧ i.natAbs < 2 ^ 64) || decide (0 ≤ j ∧ j ≤ 64 ∧ i.natAbs < 2 ^ 1024)
def powO : O → O → Option O
  | .dat (.int i), .dat (.int j) => if powOk i j = true then some (.dat (.int (i ^ j.toNat))) else none
  | _, _ => none
def bo (b : Bool) : Option O := some (.dat (.bool b))
def eqO (a b : O) : Option O := match a.dv, b.dv with
  | some d, some e => if min d.depth e.depth ≤ 64 then bo (PyData.eqv d e) else none
  | _, _ => none
def neO (a b : O) : Option O := match a.dv, b.dv with
  | some d, some e => if min d.depth e.depth ≤ 64 then bo (!PyData.eqv d e) else none
  | _, _ => none
def ltO : O → O → Option O
  | .dat (.int i), .dat (.int j) => bo (decide (i < j))
  | .dat (.str i), .dat (.str j) => bo (decide (i.cps.toList < j.cps.toList))
  | _, _ => none
def leO : O → O → Option O
  | .dat (.int i), .dat (.int j) => bo (decide (i ≤ j))
  | _, _ => none
def gtO : O → O → Option O
  | .dat (.int i), .dat (.int j) => bo (decide (j < i))
  | _, _ => none
def geO : O → O → Option O
  | .dat (.int i), .dat (.int j) => bo (decide (j ≤ i))
  | _, _ => none
def negO : O → Option O
  | .dat (.int i) => some (.dat (.int (-i)))
  | _ => none

section
variable {X : Cx}
def rCatS (K : PySem.W.Frag) : R2 := fun x y H Q => ∃ l b xs zs, x = .ref l ∧ y = .ref b ∧ SqL K H l xs ∧ SqL K H b zs ∧ xs.length + zs.length ≤ sizeLine ∧ ∀ p, H p = none → Q (.ref p) (upd H p (.lst (xs ++ zs)))
theorem op_catS : OpR X (binaryOp .Add) (rCatS X.K) := by
  intro pins s σ H x y v u Q I rx ry h
  obtain ⟨l, b, xs, zs, rfl, rfl, hH, hB, hz, q⟩ := h
  cases rx
  cases ry
  obtain ⟨its, r, ⟨⟨oc, od, odt, osl⟩, n, e, o1, o2, o3⟩, hl⟩ := I.list hH
  obtain ⟨its2, r2, ⟨⟨pc, pd, pdt, psl⟩, n2, e2, p1, p2, p3⟩, hl2⟩ := I.list hB
  simp only at o1 o2 o3 p1 p2 p3
  subst o1 o2 o3 p1 p2 p3
  have y1 := r.length
  have y2 := r2.length
  have ea : its.toArray ++ its2.toArray = (its ++ its2).toArray := by simp
  refine concat_meets ⟨_, e, rfl⟩ ⟨_, e2, rfl⟩ noFill_list_add seq_list_add PySem.F.slot_list_add PySem.F.entry_list_add (PySem.F.args_list_add_2 _ _) (list_addW l b its.toArray its2.toArray n n2 none none osl psl (by rw [List.size_toArray, List.size_toArray]; omega)) ⟨e, e2, ?_⟩
  rw [ea]
  exact ⟨.ref _, _, I.lnew (t' := s.toks) (r.append r2) (by rw [List.length_append]; omega), rfl, q _ I.fresh⟩
def rAddA (K : PySem.W.Frag) : R2 := fun x y H Q => rI0 (fun i j => .int (i + j)) x y H Q ∨ (∃ i j, x = .str i ∧ y = .str j ∧ i.length + j.length ≤ sizeLine ∧ Q (.str (i ++ j)) H) ∨ rCatT K x y H Q ∨ rCatS K x y H Q
theorem op_addA : OpR X (binaryOp .Add) (rAddA X.K) := op_add.or (op_add_str.or (op_catT.or op_catS))
end
end Vs

namespace Vs
open PySem PySem.Spec PyProof.Rows L2 Ww

section
variable {K : PySem.W.Frag}
theorem prim_add : Prim2 K (rAddA K) addO := by
  intro G H x y a b o B C Q s ra rb h k
  unfold addO at h
  split at h
  · cases Option.some.inj h
    cases dat_int ra
    cases dat_int rb
    exact .inl ⟨_, _, rfl, rfl, Grow.dat s (.int _) k⟩
  · split at h
    · rename_i hz
      cases Option.some.inj h
      cases dat_str ra
      cases dat_str rb
      exact .inr (.inl ⟨_, _, rfl, rfl, hz, Grow.dat s (.str _) k⟩)
    · cases h
  · split at h
    · rename_i xs ys hz
      cases Option.some.inj h
      obtain ⟨p, vs, rfl, hp, dp⟩ := dat_tup ra
      obtain ⟨q, ws, rfl, hq, dq⟩ := dat_tup rb
      have l1 := dps_len dp
      have l2 := dps_len dq
      refine .inr (.inr (.inl ⟨p, q, vs, ws, rfl, rfl, s.sqt hp, s.sqt hq, fun z => hz.1 (List.eq_nil_of_length_eq_zero (by rw [← l1, z]; rfl)), by omega, fun z => ?_, fun z p' np => ?_⟩))
      · subst z
        have e : ys = [] := List.eq_nil_of_length_eq_zero (by rw [← l2]; rfl)
        subst e
        exact Grow.dat s (by rw [List.append_nil]; exact .tup hp dp) k
      · exact k _ _ _ _ (grow_sh s np) (sh_tup s np (DpAll.app dp dq))
    · cases h
  · unfold CatL at h
    split at h
    · rename_i xs ys hx hy
      split at h
      · rename_i hz
        cases Option.some.inj h
        obtain ⟨p, vs, rfl, hp, dp⟩ := ra.lv s hx
        obtain ⟨q, ws, rfl, hq, dq⟩ := rb.lv s hy
        have l1 := dps_len dp
        have l2 := dps_len dq
        exact .inr (.inr (.inr ⟨p, q, vs, ws, rfl, rfl, hp, hq, by omega, fun p' np => k _ _ _ _ (grow_new s np) (grow_ls s np (DpAll.app dp dq))⟩))
      · cases h
    · cases h

theorem prim_sub : Prim2 K (rI0 fun i j => .int (i - j)) subO := by
  intro G H x y a b o B C Q s ra rb h k
  unfold subO at h
  split at h
  · cases Option.some.inj h
    cases dat_int ra
    cases dat_int rb
    exact ⟨_, _, rfl, rfl, Grow.dat s (.int _) k⟩
  · cases h
theorem wid_mul {i j : Int} (hi : Wid i) (hj : Wid j) : CMulW i j := wide_mul (a := 4000) (b := 4000) hi hj (by decide) (by decide) (by decide)
def rRepS (K : PySem.W.Frag) : R2 := fun x y H Q => ∃ l k xs, x = .ref l ∧ y = .int k ∧ SqL K H l xs ∧ -(2 ^ 63) ≤ k ∧ k < 2 ^ 63 ∧ xs.length * k.toNat ≤ sizeLine ∧
  ∀ p, H p = none → Q (.ref p) (upd H p (.lst (List.replicate k.toNat xs).flatten))
theorem op_repS {X : Cx} : OpR X (binaryOp .Mult) (rRepS X.K) := by
  intro pins s σ H x y v u Q I rx ry h
  obtain ⟨l, k, xs, rfl, rfl, hH, h1, h2, hz, q⟩ := h
  cases rx
  obtain ⟨t, rfl⟩ := ry
  obtain ⟨its, r, ⟨⟨oc, od, odt, osl⟩, n, e, o1, o2, o3⟩, hl⟩ := I.list hH
  simp only at o1 o2 o3
  subst o1 o2 o3
  have y1 := r.length
  have es : (sizeLine : Nat) = 2 ^ 24 := by decide
  have hsz : its.toArray.size * k.toNat ≤ 2 ^ 24 := by rw [List.size_toArray, ← y1]; omega
  have hs1 : its.toArray.size ≤ sizeLine := by rw [List.size_toArray]; omega
  refine wpAny_binaryOp_repeat_ref (T := "list") (U := "int") (by decide) ⟨_, e, rfl⟩ (fun s' => typeIs_int s' k t) noFill_list_mul F.fills_int_mul F.slot_int_rmul repeat_list F.slot_int_index.lookup
    (call_meets F.slot_int_rmul (typeIs_int s k t) F.entry_int_rmul (F.args_int_rmul_2 _ _) (lm_int_rmul_list_any k t l its.toArray n none osl)
      ⟨e, rfl, ⟨_, e, rfl⟩, call_meets F.slot_list_mul ⟨_, e, rfl⟩ F.entry_list_mul (F.args_list_mul_2 _ _)
        (lm_list_mul_any l its.toArray n none osl k t (by rw [fitsIndex_both h1 h2]; exact Bool.false_ne_true) (by omega) (by rw [notLongL (by omega)]; exact Bool.false_ne_true))
        ⟨e, ?_⟩⟩)
  have ea : List.foldl (fun x1 x2 => x1 ++ x2) #[] (List.replicate (if its.toArray.isEmpty = true then 0 else k.toNat) its.toArray) = (List.replicate k.toNat its).flatten.toArray := listMul_foldl_if its.toArray k.toNat
  rw [ea]
  refine ⟨.ref _, _, I.lnew (t' := s.toks) (r.rep k.toNat) ?_, rfl, q _ I.fresh⟩
  rw [PyProof.Rows.lm_len_rep_flat, Nat.mul_comm]
  exact hz
theorem DpAll.rep {H : Hp} {ds : List PyData} {vs : List V} (h : DpAll K H vs ds) : ∀ n : Nat, DpAll K H (List.replicate n vs).flatten (List.replicate n ds).flatten
  | 0 => .nil
  | n + 1 => by
    rw [List.replicate_succ, List.replicate_succ, List.flatten_cons, List.flatten_cons]
    exact DpAll.app h (DpAll.rep h n)
theorem prim_mul : Prim2 K (fun x y H Q => (rI CMulW (fun i j => .int (i * j)) x y H Q ∨ rI CMul (fun i j => .int (i * j)) x y H Q) ∨ rRepS K x y H Q) mulO := by
  intro G H x y a b o B C Q s ra rb h k
  unfold mulO at h
  split at h
  · split at h
    · rename_i hw
      cases Option.some.inj h
      cases dat_int ra
      cases dat_int rb
      rcases hw with hw | hw | hw
      · exact .inl (.inl ⟨_, _, rfl, rfl, wid_mul hw.1 hw.2, Grow.dat s (.int _) k⟩)
      · exact .inl (.inr ⟨_, _, rfl, rfl, .inl (of_decide_eq_true hw), Grow.dat s (.int _) k⟩)
      · exact .inl (.inr ⟨_, _, rfl, rfl, .inr (of_decide_eq_true hw), Grow.dat s (.int _) k⟩)
    · cases h
  · split at h
    · rename_i xs hx
      split at h
      · rename_i hz
        cases Option.some.inj h
        cases dat_int rb
        obtain ⟨p, vs, rfl, hp, dp⟩ := ra.lv s hx
        have l1 := dps_len dp
        exact .inr ⟨p, _, vs, rfl, rfl, hp, hz.1, hz.2.1, by rw [l1]; exact hz.2.2, fun p' np => k _ _ _ _ (grow_new s np) (grow_ls s np (DpAll.rep dp _))⟩
      · cases h
    · cases h
  · cases h
theorem prim_fdiv : Prim2 K (rI CDivW fun i j => .int (i / j)) fdivO := by
  intro G H x y a b o B C Q s ra rb h k
  unfold fdivO at h
  split at h
  · split at h
    · rename_i hw
      cases Option.some.inj h
      cases dat_int ra
      cases dat_int rb
      exact ⟨_, _, rfl, rfl, wide_div hw.1 hw.2 (by decide) (by decide), Grow.dat s (.int _) k⟩
    · cases h
  · cases h
theorem prim_mod : Prim2 K (rI (fun _ j => 0 < j) fun i j => .int (i % j)) modO := by
  intro G H x y a b o B C Q s ra rb h k
  unfold modO at h
  split at h
  · split at h
    · rename_i hw
      cases Option.some.inj h
      cases dat_int ra
      cases dat_int rb
      exact ⟨_, _, rfl, rfl, hw, Grow.dat s (.int _) k⟩
    · cases h
  · cases h
theorem bits_le {a : Int} {k : Nat} (h : a.natAbs < 2 ^ k) : Builtin.Int.intBits a ≤ k := by
  unfold Builtin.Int.intBits
  split
  · exact Nat.zero_le _
  · rename_i hz
    have h0 : a.natAbs ≠ 0 := fun z => hz (by simpa using z)
    exact (Nat.log2_lt h0).mpr h
theorem powOk_bits {i j : Int} (h : powOk i j = true) : 0 ≤ j ∧ (Builtin.Int.intBits i : Int) * j ≤ 2 ^ 27 := by
  unfold powOk at h
  rw [Bool.or_eq_true, decide_eq_true_eq, decide_eq_true_eq] at h
  have key : ∀ (n m : Nat), n * m ≤ 2 ^ 27 → Builtin.Int.intBits i ≤ n → 0 ≤ j → j ≤ m → (Builtin.Int.intBits i : Int) * j ≤ 2 ^ 27 := by
    intro n m hnm hb h0 h1
    have e1 : (Builtin.Int.intBits i : Int) * j ≤ (n : Int) * m := Int.mul_le_mul (Int.ofNat_le.mpr hb) h1 h0 (Int.natCast_nonneg _)
    have e2 : (n : Int) * m ≤ 2 ^ 27 := by exact_mod_cast hnm
    exact Int.le_trans e1 e2
  rcases h with ⟨h0, h1, h2⟩ | ⟨h0, h1, h2⟩
  · exact ⟨h0, key 64 1000000 (by decide) (bits_le h2) h0 h1⟩
  · exact ⟨h0, key 1024 64 (by decide) (bits_le h2) h0 h1⟩
def CPowB (i j : Int) : Prop := powOk i j = true
theorem op_powB {X : Cx} : OpR X (binaryOp .Pow) (rI CPowB fun i j => .int (i ^ j.toNat)) := opI fun _ _ _ _ _ _ _ hc q => PyProof.Rows.pow_int (powOk_bits hc).1 (powOk_bits hc).2 q
theorem prim_pow : Prim2 K (rI CPowB fun i j => .int (i ^ j.toNat)) powO := by
  intro G H x y a b o B C Q s ra rb h k
  unfold powO at h
  split at h
  · split at h
    · rename_i hw
      cases Option.some.inj h
      cases dat_int ra
      cases dat_int rb
      exact ⟨_, _, rfl, rfl, hw, Grow.dat s (.int _) k⟩
    · cases h
  · cases h
theorem prim_neg : Prim1 K (rU fun i => .int (-i)) negO := by
  intro G H x a o B Q s ra h k
  unfold negO at h
  split at h
  · cases Option.some.inj h
    cases dat_int ra
    exact ⟨_, rfl, Grow.dat s (.int _) k⟩
  · cases h

/-! ### comparisons -/
def rEqP (K : PySem.W.Frag) (n : Bool) : R2 := fun x y H Q => ∃ d e, Dp K H x d ∧ Dp K H y e ∧ min d.depth e.depth ≤ 64 ∧ Q (.bl (if n then !PyData.eqv d e else PyData.eqv d e)) H
theorem op_eqP {X : Cx} (hu : X.A.units + 64 < cLine) : OpR X (compareOp .Eq) (rEqP X.K false) := by
  intro pins s σ H x y v u Q I rx ry h
  obtain ⟨d, e, hd, he, hz, q⟩ := h
  obtain ⟨as, r1⟩ := Dp.reads I d x v hd rx
  obtain ⟨bs, r2⟩ := Dp.reads I e y u he ry
  exact PySem.SeqAt.eq_plain r1 r2 (dp_plain hd) (dp_plain he) (by omega) ⟨.bl _, H, I, rfl, q⟩
theorem op_neP {X : Cx} (hu : X.A.units + 64 < cLine) : OpR X (compareOp .NotEq) (rEqP X.K true) := by
  intro pins s σ H x y v u Q I rx ry h
  obtain ⟨d, e, hd, he, hz, q⟩ := h
  obtain ⟨as, r1⟩ := Dp.reads I d x v hd rx
  obtain ⟨bs, r2⟩ := Dp.reads I e y u he ry
  exact PySem.SeqAt.ne_plain r1 r2 (dp_plain hd) (dp_plain he) (by omega) ⟨.bl _, H, I, rfl, q⟩
theorem prim_eq : Prim2 K (rEqP K false) eqO := by
  intro G H x y a b o B C Q s ra rb h k
  unfold eqO at h
  split at h
  · rename_i d e hd he
    split at h
    · rename_i hz
      cases Option.some.inj h
      exact ⟨d, e, ra.dp s hd, rb.dp s he, hz, Grow.dat s (.bl _) k⟩
    · cases h
  · cases h
theorem prim_ne : Prim2 K (rEqP K true) neO := by
  intro G H x y a b o B C Q s ra rb h k
  unfold neO at h
  split at h
  · rename_i d e hd he
    split at h
    · rename_i hz
      cases Option.some.inj h
      exact ⟨d, e, ra.dp s hd, rb.dp s he, hz, Grow.dat s (.bl _) k⟩
    · cases h
  · cases h
theorem prim_lt : Prim2 K (fun x y H Q => rI0 (fun i j => .bl (decide (i < j))) x y H Q ∨ ∃ i j, x = .str i ∧ y = .str j ∧ Q (.bl (decide (i.cps.toList < j.cps.toList))) H) ltO := by
  intro G H x y a b o B C Q s ra rb h k
  unfold ltO at h
  split at h
  · cases Option.some.inj h
    cases dat_int ra
    cases dat_int rb
    exact .inl ⟨_, _, rfl, rfl, Grow.dat s (.bl _) k⟩
  · cases Option.some.inj h
    cases dat_str ra
    cases dat_str rb
    exact .inr ⟨_, _, rfl, rfl, Grow.dat s (.bl _) k⟩
  · cases h
theorem prim_le : Prim2 K (rI0 fun i j => .bl (decide (i ≤ j))) leO := by
  intro G H x y a b o B C Q s ra rb h k
  unfold leO at h
  split at h
  · cases Option.some.inj h
    cases dat_int ra
    cases dat_int rb
    exact ⟨_, _, rfl, rfl, Grow.dat s (.bl _) k⟩
  · cases h
theorem prim_gt : Prim2 K (rI0 fun i j => .bl (decide (j < i))) gtO := by
  intro G H x y a b o B C Q s ra rb h k
  unfold gtO at h
  split at h
  · cases Option.some.inj h
    cases dat_int ra
    cases dat_int rb
    exact ⟨_, _, rfl, rfl, Grow.dat s (.bl _) k⟩
  · cases h
theorem prim_ge : Prim2 K (rI0 fun i j => .bl (decide (j ≤ i))) geO := by
  intro G H x y a b o B C Q s ra rb h k
  unfold geO at h
  split at h
  · cases Option.some.inj h
    cases dat_int ra
    cases dat_int rb
    exact ⟨_, _, rfl, rfl, Grow.dat s (.bl _) k⟩
  · cases h

/-! ### a container asked -/
/-- a list's or a tuple's items -/
def O.sv : O → Option (List PyData)
  | .dat (.list ds) => some ds
  | .dat (.tuple ds) => some ds
  | .ls ds => some ds
  | _ => none
theorem RepO.sv {G H : Hp} {v : V} {o : O} {B : List Addr} {ds : List PyData} (r : RepO K G H v o B) (s : Sub G H) (h : o.sv = some ds) : ∃ a vs, v = .ref a ∧ (SqL K H a vs ∨ SqT K H a vs) ∧ DpAll K G vs ds := by
  cases r with
  | @dat v d q =>
    cases d with
    | list xs =>
      cases (Option.some.inj h : xs = ds)
      cases q with
      | lst h1 h2 => exact ⟨_, _, rfl, .inl (s.seq h1), h2⟩
    | tuple xs =>
      cases (Option.some.inj h : xs = ds)
      cases q with
      | tup h1 h2 => exact ⟨_, _, rfl, .inr (s.sqt h1), h2⟩
    | _ => cases h
  | ls h1 h2 h3 =>
    cases (Option.some.inj h : _ = ds)
    exact ⟨_, _, rfl, .inl (SqL.of h2), h3⟩
  | dk _ _ _ => cases h
  | tp _ _ _ => cases h
def strIn (i j : Str) : Bool := !(Builtin.Str.occurrences j i 0 j.length 1).isEmpty
def inO : O → O → Option O
  | .dat (.str i), .dat (.str j) => bo (strIn i j)
  | a, b => match a.dv, b.sv with
    | some d, some xs => if min (PyData.depthAll xs) d.depth ≤ 60 then bo (xs.any fun y => PyData.eqv y d) else none
    | _, _ => none
def ninO : O → O → Option O
  | .dat (.str i), .dat (.str j) => bo (!strIn i j)
  | a, b => match a.dv, b.sv with
    | some d, some xs => if min (PyData.depthAll xs) d.depth ≤ 60 then bo (!xs.any fun y => PyData.eqv y d) else none
    | _, _ => none
def rInP (K : PySem.W.Frag) (n : Bool) : R2 := fun x y H Q => ∃ d a vs xs, Dp K H x d ∧ y = .ref a ∧ (SqL K H a vs ∨ SqT K H a vs) ∧ DpAll K H vs xs ∧ min (PyData.depthAll xs) d.depth ≤ 60 ∧ Q (.bl (if n then !xs.any fun y => PyData.eqv y d else xs.any fun y => PyData.eqv y d)) H
theorem op_inP {X : Cx} (hu : X.A.units + 64 < cLine) : OpR X (compareOp .In) (rInP X.K false) := by
  intro pins s σ H x y v u Q I rx ry h
  obtain ⟨d, a, vs, xs, hd, rfl, hs, hx, hz, q⟩ := h
  obtain ⟨as, r1⟩ := Dp.reads I d x v hd rx
  have f : ∀ b, EP X pins σ Q (.bool b) s ↔ EP X pins σ Q (.bool b) s := fun _ => Iff.rfl
  rcases hs with hs | hs
  · obtain ⟨bs, r2⟩ := Dp.reads I (.list xs) _ u (.lst hs hx) ry
    exact PySem.SeqAt.in_list_data r2 r1 (dps_plain hx) (dp_plain hd) (by omega) ⟨.bl _, H, I, rfl, q⟩
  · obtain ⟨bs, r2⟩ := Dp.reads I (.tuple xs) _ u (.tup hs hx) ry
    exact PySem.SeqAt.in_tuple_data r2 r1 (dps_plain hx) (dp_plain hd) (by omega) ⟨.bl _, H, I, rfl, q⟩
theorem op_ninP {X : Cx} (hu : X.A.units + 64 < cLine) : OpR X (compareOp .NotIn) (rInP X.K true) := by
  intro pins s σ H x y v u Q I rx ry h
  obtain ⟨d, a, vs, xs, hd, rfl, hs, hx, hz, q⟩ := h
  obtain ⟨as, r1⟩ := Dp.reads I d x v hd rx
  rcases hs with hs | hs
  · obtain ⟨bs, r2⟩ := Dp.reads I (.list xs) _ u (.lst hs hx) ry
    exact PySem.SeqAt.notIn_list_data r2 r1 (dps_plain hx) (dp_plain hd) (by omega) ⟨.bl _, H, I, rfl, q⟩
  · obtain ⟨bs, r2⟩ := Dp.reads I (.tuple xs) _ u (.tup hs hx) ry
    exact PySem.SeqAt.notIn_tuple_data r2 r1 (dps_plain hx) (dp_plain hd) (by omega) ⟨.bl _, H, I, rfl, q⟩
theorem prim_in : Prim2 K (fun x y H Q => (∃ i j, x = .str i ∧ y = .str j ∧ Q (.bl (strIn i j)) H) ∨ rInP K false x y H Q) inO := by
  intro G H x y a b o B C Q s ra rb h k
  unfold inO at h
  split at h
  · cases Option.some.inj h
    cases dat_str ra
    cases dat_str rb
    exact .inl ⟨_, _, rfl, rfl, Grow.dat s (.bl _) k⟩
  · split at h
    · rename_i d xs hd hx
      split at h
      · rename_i hz
        cases Option.some.inj h
        obtain ⟨p, vs, rfl, hp, dp⟩ := rb.sv s hx
        exact .inr ⟨d, p, vs, xs, ra.dp s hd, rfl, hp, dps_same s dp, hz, Grow.dat s (.bl _) k⟩
      · cases h
    · cases h
theorem prim_nin : Prim2 K (fun x y H Q => (∃ i j, x = .str i ∧ y = .str j ∧ Q (.bl (!strIn i j)) H) ∨ rInP K true x y H Q) ninO := by
  intro G H x y a b o B C Q s ra rb h k
  unfold ninO at h
  split at h
  · cases Option.some.inj h
    cases dat_str ra
    cases dat_str rb
    exact .inl ⟨_, _, rfl, rfl, Grow.dat s (.bl _) k⟩
  · split at h
    · rename_i d xs hd hx
      split at h
      · rename_i hz
        cases Option.some.inj h
        obtain ⟨p, vs, rfl, hp, dp⟩ := rb.sv s hx
        exact .inr ⟨d, p, vs, xs, ra.dp s hd, rfl, hp, dps_same s dp, hz, Grow.dat s (.bl _) k⟩
      · cases h
    · cases h
/-! ### items, slices, length -/
def ixO : O → O → Option O
  | .dat (.str z), .dat (.int i) => if z.length ≤ sizeLine then (atI z.cps.toList i).map fun c => .dat (.str ⟨#[c]⟩) else none
  | a, .dat (.int i) => a.sv.bind fun ds => (atI ds i).map .dat
  | _, _ => none
theorem atI_some {α : Type} {xs : List α} {i : Int} {x : α} (h : atI xs i = some x) : ∃ j, ixN xs.length i = some j ∧ xs[j]? = some x := by
  unfold atI at h
  obtain ⟨j, h1, h2⟩ := Option.bind_eq_some_iff.mp h
  exact ⟨j, h1, h2⟩
theorem DpAll.atI {H : Hp} {ds : List PyData} {vs : List V} {i : Int} {d : PyData} (h : DpAll K H vs ds) (e : L2.atI ds i = some d) : ∃ v, L2.atI vs i = some v ∧ Dp K H v d := by
  obtain ⟨j, h1, h2⟩ := atI_some e
  obtain ⟨v, h3, h4⟩ := DpAll.get h h2
  refine ⟨v, ?_, h4⟩
  unfold L2.atI
  rw [dps_len h, h1]
  exact h3
theorem prim_ix : Prim2 K (rIx K) ixO := by
  intro G H x y a b o B C Q s ra rb h k
  unfold ixO at h
  split at h
  · split at h
    · rename_i hz
      obtain ⟨c, h1, h2⟩ := Option.map_eq_some_iff.mp h
      subst h2
      cases dat_str ra
      cases dat_int rb
      exact .inr (.inr ⟨_, _, c, rfl, rfl, hz, h1, Grow.dat s (.str _) k⟩)
    · cases h
  · obtain ⟨ds, h1, h2⟩ := Option.bind_eq_some_iff.mp h
    obtain ⟨d, h3, h4⟩ := Option.map_eq_some_iff.mp h2
    subst h4
    cases dat_int rb
    obtain ⟨p, vs, rfl, hp, dp⟩ := ra.sv s h1
    obtain ⟨v, h5, h6⟩ := DpAll.atI dp h3
    rcases hp with hp | hp
    · exact .inl ⟨p, vs, _, v, rfl, rfl, hp, h5, Grow.dat s h6 k⟩
    · exact .inr (.inl ⟨p, vs, _, v, rfl, rfl, hp, h5, Grow.dat s h6 k⟩)
  · cases h
def lenO : O → Option O
  | .dat (.str z) => if z.length ≤ sizeLine then some (.dat (.int z.length)) else none
  | a => a.sv.map fun ds => .dat (.int ds.length)
theorem prim_len : Prim1 K (fun x H Q => ∃ y n, [x] = [y] ∧ LenV K y H n ∧ Q (.int n) H) lenO := by
  intro G H x a o B Q s ra h k
  unfold lenO at h
  split at h
  · split at h
    · rename_i hz
      cases Option.some.inj h
      cases dat_str ra
      exact ⟨_, _, rfl, ⟨hz, rfl⟩, Grow.dat s (.int _) k⟩
    · cases h
  · obtain ⟨ds, h1, h2⟩ := Option.map_eq_some_iff.mp h
    subst h2
    obtain ⟨p, vs, rfl, hp, dp⟩ := ra.sv s h1
    refine ⟨_, vs.length, rfl, ?_, by rw [dps_len dp]; exact Grow.dat s (.int _) k⟩
    exact hp.imp (fun z => ⟨vs, z, rfl⟩) fun z => ⟨vs, z, rfl⟩
def isNO : O → Option O
  | .dat .none => bo true
  | _ => bo false
def notNO : O → Option O
  | .dat .none => bo false
  | _ => bo true
theorem RepO.ne_none {G H : Hp} {v : V} {o : O} {B : List Addr} (r : RepO K G H v o B) (h : o ≠ .dat .none) : v ≠ .non := by
  intro e
  subst e
  cases r with
  | dat q => cases q; exact h rfl
theorem prim_isN : Prim1 K (fun x H Q => Q (.bl (decide (x = .non))) H) isNO := by
  intro G H x a o B Q s ra h k
  unfold isNO at h
  split at h
  · cases Option.some.inj h
    cases dat_none ra
    exact Grow.dat s (.bl _) k
  · rename_i hn
    cases Option.some.inj h
    rw [decide_eq_false (ra.ne_none fun z => hn z)]
    exact Grow.dat s (.bl _) k
theorem prim_notN : Prim1 K (fun x H Q => Q (.bl (!decide (x = .non))) H) notNO := by
  intro G H x a o B Q s ra h k
  unfold notNO at h
  split at h
  · cases Option.some.inj h
    cases dat_none ra
    exact Grow.dat s (.bl _) k
  · rename_i hn
    cases Option.some.inj h
    rw [decide_eq_false (ra.ne_none fun z => hn z)]
    exact Grow.dat s (.bl _) k
def notO : O → Option O
  | .dat (.bool b) => bo (!b)
  | _ => none
theorem prim_not : Prim1 K (fun x H Q => ∃ c, x = .bl c ∧ Q (.bl (!c)) H) notO := by
  intro G H x a o B Q s ra h k
  unfold notO at h
  split at h
  · cases Option.some.inj h
    cases dat_bool ra
    exact ⟨_, rfl, Grow.dat s (.bl _) k⟩
  · cases h
end
section
variable {X : Cx} {R : RK} {a b : Expr} {f g : PF} {pos : Pos}
theorem pf_add (ha : PE X a (liftP X.K R f)) (hb : PE X b (liftP X.K R g)) : PE X (.BinOp a .Add b pos) (liftE X.K R (op2 addO f g)) := op2_ok (pe_op op_addA ha hb) prim_add
theorem pf_sub (ha : PE X a (liftP X.K R f)) (hb : PE X b (liftP X.K R g)) : PE X (.BinOp a .Sub b pos) (liftE X.K R (op2 subO f g)) := op2_ok (pe_op op_sub ha hb) prim_sub
theorem pf_mul (ha : PE X a (liftP X.K R f)) (hb : PE X b (liftP X.K R g)) : PE X (.BinOp a .Mult b pos) (liftE X.K R (op2 mulO f g)) := op2_ok (pe_op ((op_mulW.or op_mul).or op_repS) ha hb) prim_mul
theorem pf_fdiv (ha : PE X a (liftP X.K R f)) (hb : PE X b (liftP X.K R g)) : PE X (.BinOp a .FloorDiv b pos) (liftE X.K R (op2 fdivO f g)) := op2_ok (pe_op op_fdivW ha hb) prim_fdiv
theorem pf_mod (ha : PE X a (liftP X.K R f)) (hb : PE X b (liftP X.K R g)) : PE X (.BinOp a .Mod b pos) (liftE X.K R (op2 modO f g)) := op2_ok (pe_op op_mod ha hb) prim_mod
theorem pf_pow (ha : PE X a (liftP X.K R f)) (hb : PE X b (liftP X.K R g)) : PE X (.BinOp a .Pow b pos) (liftE X.K R (op2 powO f g)) := op2_ok (pe_op op_powB ha hb) prim_pow
theorem pf_neg (ha : PE X a (liftP X.K R f)) : PE X (.UnaryOp .USub a pos) (liftE X.K R (op1 negO f)) := op1_ok (pe_un un_neg ha) prim_neg
theorem pf_eq (hu : X.A.units + 64 < cLine) (ha : PE X a (liftP X.K R f)) (hb : PE X b (liftP X.K R g)) : PE X (.Compare a [.Eq] [b] pos) (liftE X.K R (op2 eqO f g)) := op2_ok (pe_cmpR (op_eqP hu) ha hb (nomark _)) prim_eq
theorem pf_ne (hu : X.A.units + 64 < cLine) (ha : PE X a (liftP X.K R f)) (hb : PE X b (liftP X.K R g)) : PE X (.Compare a [.NotEq] [b] pos) (liftE X.K R (op2 neO f g)) := op2_ok (pe_cmpR (op_neP hu) ha hb (nomark _)) prim_ne
theorem pf_lt (ha : PE X a (liftP X.K R f)) (hb : PE X b (liftP X.K R g)) : PE X (.Compare a [.Lt] [b] pos) (liftE X.K R (op2 ltO f g)) := op2_ok (pe_cmpR (op_lt.or op_lt_str) ha hb (nomark _)) prim_lt
theorem pf_le (ha : PE X a (liftP X.K R f)) (hb : PE X b (liftP X.K R g)) : PE X (.Compare a [.LtE] [b] pos) (liftE X.K R (op2 leO f g)) := op2_ok (pe_cmpR op_le ha hb (nomark _)) prim_le
theorem pf_gt (ha : PE X a (liftP X.K R f)) (hb : PE X b (liftP X.K R g)) : PE X (.Compare a [.Gt] [b] pos) (liftE X.K R (op2 gtO f g)) := op2_ok (pe_cmpR op_gt ha hb (nomark _)) prim_gt
theorem pf_ge (ha : PE X a (liftP X.K R f)) (hb : PE X b (liftP X.K R g)) : PE X (.Compare a [.GtE] [b] pos) (liftE X.K R (op2 geO f g)) := op2_ok (pe_cmpR op_ge ha hb (nomark _)) prim_ge
theorem pf_in (hu : X.A.units + 64 < cLine) (ha : PE X a (liftP X.K R f)) (hb : PE X b (liftP X.K R g)) (hm : behindInMarks .In b = false := by rfl) : PE X (.Compare a [.In] [b] pos) (liftE X.K R (op2 inO f g)) := op2_ok (pe_cmpR (OpR.or op_in_str (op_inP hu)) ha hb hm) prim_in
theorem pf_nin (hu : X.A.units + 64 < cLine) (ha : PE X a (liftP X.K R f)) (hb : PE X b (liftP X.K R g)) (hm : behindInMarks .NotIn b = false := by rfl) : PE X (.Compare a [.NotIn] [b] pos) (liftE X.K R (op2 ninO f g)) := op2_ok (pe_cmpR (OpR.or op_notin_str (op_ninP hu)) ha hb hm) prim_nin
theorem pf_isN {j pos'} (ha : PE X a (liftP X.K R f)) : PE X (.Compare a [.Is] [.Constant .none j pos'] pos) (liftE X.K R (op1 isNO f)) := op1_ok (pe_cmp (pc_isN ha)) prim_isN
theorem pf_notN {j pos'} (ha : PE X a (liftP X.K R f)) : PE X (.Compare a [.IsNot] [.Constant .none j pos'] pos) (liftE X.K R (op1 notNO f)) := op1_ok (pe_cmp (pc_notN ha)) prim_notN
theorem pf_not (ha : PE X a (liftP X.K R f)) : PE X (.UnaryOp .Not a pos) (liftE X.K R (op1 notO f)) := op1_ok (pe_not ha) prim_not
theorem pf_ix (ha : PE X a (liftP X.K R f)) (hb : PE X b (liftP X.K R g)) (hs : PlainIx b := by intro _ _; rfl) : PE X (.Subscript a b pos) (liftE X.K R (op2 ixO f g)) := op2_ok (pe_ix ix_seq ha hb hs) prim_ix
end
end Vs

namespace Vs
open PySem PySem.Spec PyProof.Rows L2 Ww

/-! ### names and constants -/
def slotF (i : Nat) : PF := fun ρ => match getS ρ i with
  | some _ => .ok (.slot i) ρ
  | none => .stuck
def tmpF (f : EF) : PF := fun ρ => (f ρ).bind fun o ρ1 => .ok (.tmp o) ρ1
def cF (d : PyData) : EF := fun ρ => .ok (.dat d) ρ
/-- a name as a value: a list of one's own is shared from now on -/
def varF (i : Nat) : EF := fun ρ => match ρ[i]? with
  | some (.val (.dat d)) => .ok (.dat d) ρ
  | some (.val (.ls ds)) => .ok (.dat (.list ds)) (ρ.set i (.val (.dat (.list ds))))
  | some (.bor (.dat d)) => .ok (.dat d) ρ
  | _ => .stuck
/-- a name whose value is handed on, and is not looked at again -/
def movF (i : Nat) : EF := fun ρ => match ρ[i]? with
  | some (.val o) => .ok o (ρ.set i .no)
  | some (.bor (.dat d)) => .ok (.dat d) ρ
  | _ => .stuck

section
variable {K : PySem.W.Frag} {R : RK} {pins σ : L2.St} {G H G' H' : Hp} {As Bs Cs T : List Addr} {Q : VK} {ρ : En}
theorem Slots.has {o : O} : ∀ {σ : L2.St} {ρ : En} {As : List Addr} {i : Nat}, Slots K G H σ ρ As → getS ρ i = some o → ∃ v, σ[i]? = some (some v)
  | _, _, _, i, .nil, g => by simp [getS] at g
  | _, _, _, 0, .no r, g => nomatch g
  | _, _, _, i + 1, .no r, g => by simpa using Slots.has (i := i) r (by simpa [getS] using g)
  | _, _, _, 0, .lent r, g => nomatch g
  | _, _, _, i + 1, .lent r, g => by simpa using Slots.has (i := i) r (by simpa [getS] using g)
  | _, _, _, 0, .val q r, g => ⟨_, rfl⟩
  | _, _, _, i + 1, .val q r, g => by simpa using Slots.has (i := i) r (by simpa [getS] using g)
  | _, _, _, 0, .bor q r, g => ⟨_, rfl⟩
  | _, _, _, i + 1, .bor q r, g => by simpa using Slots.has (i := i) r (by simpa [getS] using g)
def Sl.gap : Sl → Prop
  | .no => True
  | .lent => True
  | _ => False
theorem Slots.mkGap {y : Sl} {x : Option V} {σ : L2.St} {ρ : En} {As : List Addr} (hy : y.gap) (r : Slots K G H σ ρ As) : Slots K G H (x :: σ) (y :: ρ) As := by
  cases y with
  | no => exact .no r
  | lent => exact .lent r
  | val _ => exact hy.elim
  | bor _ => exact hy.elim
theorem Slots.mkFull {z : Sl} {o : O} {v : V} {σ : L2.St} {ρ : En} {B As : List Addr} (hz : z.get = some o) (q : RepO K G H v o B) (r : Slots K G H σ ρ As) : Slots K G H (some v :: σ) (z :: ρ) (B ++ As) := by
  cases z with
  | no => cases hz
  | lent => cases hz
  | val x => cases (Option.some.inj hz : x = o); exact .val q r
  | bor x => cases (Option.some.inj hz : x = o); exact .bor q r
theorem Slots.inv {x : Option V} {y : Sl} {σ : L2.St} {ρ : En} {As : List Addr} (r : Slots K G H (x :: σ) (y :: ρ) As) : (y.gap ∧ Slots K G H σ ρ As) ∨ ∃ v o B Cs, x = some v ∧ y.get = some o ∧ As = B ++ Cs ∧ RepO K G H v o B ∧ Slots K G H σ ρ Cs := by
  cases r with
  | no r => exact .inl ⟨trivial, r⟩
  | lent r => exact .inl ⟨trivial, r⟩
  | val q r => exact .inr ⟨_, _, _, _, rfl, rfl, rfl, q, r⟩
  | bor q r => exact .inr ⟨_, _, _, _, rfl, rfl, rfl, q, r⟩
theorem app_swap {A B C : List Addr} (a : Addr) : a ∈ A ++ (B ++ C) ↔ a ∈ B ++ (A ++ C) := by
  simp only [List.mem_append]
  exact ⟨fun z => z.elim (fun z => .inr (.inl z)) (fun z => z.elim .inl fun z => .inr (.inr z)), fun z => z.elim (fun z => .inr (.inl z)) (fun z => z.elim .inl fun z => .inr (.inr z))⟩
theorem nd_swap {A B C : List Addr} (h : (A ++ (B ++ C)).Nodup) : (B ++ (A ++ C)).Nodup := by
  obtain ⟨n1, n2, n3⟩ := List.nodup_append.mp h
  obtain ⟨m1, m2, m3⟩ := List.nodup_append.mp n2
  refine List.nodup_append.mpr ⟨m1, List.nodup_append.mpr ⟨n1, m2, fun a ha b hb => n3 a ha b (List.mem_append_right _ hb)⟩, fun a ha b hb z => ?_⟩
  subst z
  rcases List.mem_append.mp hb with w | w
  · exact n3 a w a (List.mem_append_left _ ha) rfl
  · exact m3 a ha a w rfl
theorem nd_same {D E F : List Addr} (h : (D ++ E).Nodup) (e : ∀ a, a ∈ F ↔ a ∈ E) (n : F.Nodup) : (D ++ F).Nodup := by
  obtain ⟨n1, n2, n3⟩ := List.nodup_append.mp h
  exact List.nodup_append.mpr ⟨n1, n, fun a ha b hb => n3 a ha b ((e b).1 hb)⟩
theorem mem_same {D E F : List Addr} (e : ∀ a, a ∈ F ↔ a ∈ E) (a : Addr) : a ∈ D ++ F ↔ a ∈ D ++ E := by
  simp only [List.mem_append, e a]
/-- the slot's value taken out -/
theorem Slots.out {o : O} {y : Sl} (hy : y.gap) : ∀ {σ : L2.St} {ρ : En} {As : List Addr} {i : Nat}, Slots K G H σ ρ As → getS ρ i = some o → ∃ v B Cs, σ[i]? = some (some v) ∧ RepO K G H v o B ∧ (∀ a, a ∈ As ↔ a ∈ B ++ Cs) ∧ (As.Nodup → (B ++ Cs).Nodup) ∧
    Slots K G H σ (ρ.set i y) Cs
  | [], [], _, i, _, g => by simp [getS] at g
  | [], _ :: _, _, i, r, g => by cases r
  | _ :: _, [], _, i, r, g => by cases r
  | x :: σ, z :: ρ, As, 0, r, g => by
    have g' : z.get = some o := g
    rcases r.inv with ⟨h, _⟩ | ⟨v, o', B, Cs, rfl, h2, rfl, q, r⟩
    · cases z <;> first | exact h.elim | cases g'
    · rw [g'] at h2
      cases (Option.some.inj h2)
      exact ⟨v, B, Cs, rfl, q, fun a => Iff.rfl, id, .mkGap hy r⟩
  | x :: σ, z :: ρ, As, i + 1, r, g => by
    have g' : getS ρ i = some o := by simpa [getS] using g
    rcases r.inv with ⟨h, r⟩ | ⟨v, o', D, E, rfl, hz, rfl, q, r⟩
    · obtain ⟨v, B, Cs, h1, h2, h3, h4, h5⟩ := Slots.out hy r g'
      exact ⟨v, B, Cs, by simpa using h1, h2, h3, h4, .mkGap h h5⟩
    · obtain ⟨w, B, Cs, h1, h2, h3, h4, h5⟩ := Slots.out hy r g'
      refine ⟨w, B, D ++ Cs, by simpa using h1, h2, fun a => ?_, fun nd => ?_, .mkFull hz q h5⟩
      · rw [mem_same h3 a]
        exact app_swap a
      · exact nd_swap (nd_same nd (fun a => (h3 a).symm) (h4 (List.nodup_append.mp nd).2.1))
/-- a value put into a slot of which nothing is known (its place holds v) -/
theorem Slots.into {v : V} {o : O} {z : Sl} {B : List Addr} (hz : z.get = some o) (q : RepO K G H v o B) : ∀ {σ : L2.St} {ρ : En} {As : List Addr} {i : Nat} {y : Sl}, Slots K G H σ ρ As → ρ[i]? = some y → y.gap → σ[i]? = some (some v) →
    ∃ Cs, Slots K G H σ (ρ.set i z) Cs ∧ (∀ a, a ∈ Cs ↔ a ∈ B ++ As) ∧ ((B ++ As).Nodup → Cs.Nodup)
  | [], [], _, i, _, _, g, _, _ => by simp at g
  | [], _ :: _, _, i, _, r, _, _, _ => by cases r
  | _ :: _, [], _, i, _, r, _, _, _ => by cases r
  | x :: σ, u :: ρ, As, 0, y, r, g, hy, h => by
    simp only [List.getElem?_cons_zero, Option.some.injEq] at g h
    subst g h
    rcases r.inv with ⟨_, r⟩ | ⟨v', o', D, E, _, h2, _, _, _⟩
    · exact ⟨_, .mkFull hz q r, fun a => Iff.rfl, id⟩
    · cases u <;> first | exact hy.elim | cases h2
  | x :: σ, u :: ρ, As, i + 1, y, r, g, hy, h => by
    have g' : ρ[i]? = some y := by simpa using g
    have h' : σ[i]? = some (some v) := by simpa using h
    rcases r.inv with ⟨hg, r⟩ | ⟨v', o', D, E, rfl, hu, rfl, q2, r⟩
    · obtain ⟨Cs, h1, h2, h3⟩ := Slots.into hz q r g' hy h'
      exact ⟨Cs, .mkGap hg h1, h2, h3⟩
    · obtain ⟨Cs, h1, h2, h3⟩ := Slots.into hz q r g' hy h'
      refine ⟨D ++ Cs, .mkFull hu q2 h1, fun a => ?_, fun nd => ?_⟩
      · rw [mem_same h2 a]
        exact app_swap a
      · exact nd_same (nd_swap nd) h2 (h3 (List.nodup_append.mp (nd_swap nd)).2.1)
end
end Vs

namespace Vs
open PySem PySem.Spec PyProof.Rows L2 Ww
section
variable {K : PySem.W.Frag} {R : RK} {pins σ : L2.St} {G H G' H' : Hp} {As Bs Cs T : List Addr} {Q : VK} {ρ : En}
def Sl.free : Sl → Prop
  | .no => True
  | .val _ => True
  | _ => False
theorem Pin.set {i : Nat} {x : Sl} (p : Pin pins σ ρ) (h : x.free) : Pin pins σ (ρ.set i x) := by
  refine ⟨p.1, fun j hj => p.2 j ?_⟩
  by_cases e : i = j
  · subst e
    by_cases hl : i < ρ.length
    · rw [List.getElem?_set_self hl] at hj
      rcases hj with z | ⟨o, z⟩
      · rw [Option.some.inj z] at h; exact h.elim
      · rw [Option.some.inj z] at h; exact h.elim
    · rw [List.getElem?_eq_none (by rw [List.length_set]; omega)] at hj
      rcases hj with z | ⟨o, z⟩ <;> cases z
  · rw [List.getElem?_set_ne e] at hj
    exact hj
theorem getS_val {i : Nat} {o : O} (h : ρ[i]? = some (.val o)) : getS ρ i = some o := by unfold getS; rw [h]; rfl
theorem getS_bor {i : Nat} {o : O} (h : ρ[i]? = some (.bor o)) : getS ρ i = some o := by unfold getS; rw [h]; rfl
theorem Kont.now {α β : Type} {rel : Hp → Hp → β → α → List Addr → Prop} {Q : β → Hp → Prop} {a : α} {v : β} (k : Kont rel K R pins σ G H As Q (.ok a ρ)) (s : Ste K pins G H σ ρ Cs) (e : ∀ a, a ∈ Bs ++ Cs → a ∈ As) (nd : (Bs ++ Cs).Nodup) (r : rel G H v a Bs) : Q v H :=
  k G H Cs v Bs (Ext.refl.less e) nd r s
/-- a list of one's own is shared -/
theorem Ste.share {i : Nat} {ds : List PyData} (s : Ste K pins G H σ ρ As) (h : ρ[i]? = some (.val (.ls ds))) : ∃ v G' Cs, σ[i]? = some (some v) ∧ Ext G H As G' H Cs ∧ Dp K G' v (.list ds) ∧ Ste K pins G' H σ (ρ.set i (.val (.dat (.list ds)))) Cs := by
  obtain ⟨v, B, Cs, h1, h2, h3, h4, h5⟩ := Slots.out (y := .no) trivial s.slots (getS_val h)
  cases h2 with
  | @ls a vs _ g1 g2 g3 =>
    have nd := h4 s.nd
    have na : a ∉ Cs := fun z => nd_disj nd a List.mem_cons_self z
    have e : Ext G H [a] (upd G a (.lst vs)) H [] := ⟨fun b x q => by rw [upd_ne (ne_of_none q g1)]; exact q, fun _ _ q _ => q, fun b q _ n => by
      rw [upd_ne fun z => n (by rw [z]; exact List.mem_cons_self)]; exact q, fun _ z => nomatch z⟩
    have h6 := h5.ext e fun b hb z => by rw [List.mem_singleton.mp z] at hb; exact na hb
    have sub : Sub (upd G a (.lst vs)) H := fun b x q => by
      by_cases z : b = a
      · subst z
        rw [upd_same] at q
        rw [g2, q]
      · rw [upd_ne z] at q
        exact s.sub b x q
    have dp : Dp K (upd G a (.lst vs)) (.ref a) (.list ds) := .lst (SqL.of upd_same) (dps_same e.sub g3)
    have hi : i < ρ.length := (List.getElem?_eq_some_iff.mp h).1
    obtain ⟨Ds, w1, w2, w3⟩ := Slots.into (i := i) (B := []) (z := .val (.dat (.list ds))) rfl (.dat dp) h6 (List.getElem?_set_self hi) trivial h1
    rw [List.set_set] at w1
    have e2 : Ext G H As (upd G a (.lst vs)) H Ds := (e.frame Cs).perm (fun b => by rw [h3 b]; simp only [List.mem_append]; exact Or.comm) fun b hb => by
      rw [List.append_nil]
      exact (w2 b).1 hb
    exact ⟨.ref a, _, Ds, h1, e2, dp, ⟨w1, w3 (List.nodup_append.mp nd).2.1, sub, s.pin.set trivial⟩⟩
theorem var_ok {X : Cx} {e : Expr} {i : Nat} (h : PE X e (tVar i)) : PE X e (liftE X.K R (varF i)) := by
  refine PE.weak h fun σ H Q ⟨pins, G, ρ, As, s, k⟩ => ?_
  unfold varF at k
  split at k
  · rename_i d hd
    obtain ⟨v, hv⟩ := s.slots.has (getS_val hd)
    obtain ⟨Bs, r, _⟩ := s.slots.at hv (getS_val hd)
    exact ⟨v, hv, Kont.now k s (Bs := []) (fun a z => z) s.nd (.dat r.dp0)⟩
  · rename_i ds hd
    obtain ⟨v, G', Cs, h1, h2, h3, h4⟩ := s.share hd
    exact ⟨v, h1, k G' H Cs v [] h2 h4.nd (.dat h3) h4⟩
  · rename_i d hd
    obtain ⟨v, hv⟩ := s.slots.has (getS_bor hd)
    obtain ⟨Bs, r, _⟩ := s.slots.at hv (getS_bor hd)
    exact ⟨v, hv, Kont.now k s (Bs := []) (fun a z => z) s.nd (.dat r.dp0)⟩
  · exact k.elim
theorem mov_ok {X : Cx} {e : Expr} {i : Nat} (h : PE X e (tVar i)) : PE X e (liftE X.K R (movF i)) := by
  refine PE.weak h fun σ H Q ⟨pins, G, ρ, As, s, k⟩ => ?_
  unfold movF at k
  split at k
  · rename_i o ho
    obtain ⟨v, B, Cs, h1, h2, h3, h4, h5⟩ := Slots.out (y := .no) trivial s.slots (getS_val ho)
    exact ⟨v, h1, Kont.now k (Cs := Cs) ⟨h5, (List.nodup_append.mp (h4 s.nd)).2.1, s.sub, s.pin.set trivial⟩ (fun a z => (h3 a).2 z) (h4 s.nd) h2⟩
  · rename_i d hd
    obtain ⟨v, hv⟩ := s.slots.has (getS_bor hd)
    obtain ⟨Bs, r, _⟩ := s.slots.at hv (getS_bor hd)
    exact ⟨v, hv, Kont.now k s (Bs := []) (fun a z => z) s.nd (.dat r.dp0)⟩
  · exact k.elim
theorem slot_ok {X : Cx} {e : Expr} {i : Nat} (h : PE X e (tVar i)) : PE X e (liftP X.K R (slotF i)) := by
  refine PE.weak h fun σ H Q ⟨pins, G, ρ, As, s, k⟩ => ?_
  unfold slotF at k
  split at k
  · rename_i o ho
    obtain ⟨v, hv⟩ := s.slots.has ho
    exact ⟨v, hv, Kont.now k s (Bs := []) (fun a z => z) s.nd (.slot hv)⟩
  · exact k.elim
theorem tmp_ok {X : Cx} {e : Expr} {f : EF} (h : PE X e (liftE X.K R f)) : PE X e (liftP X.K R (tmpF f)) := by
  refine PE.weak h fun σ H Q ⟨pins, G, ρ, As, s, k⟩ => ⟨pins, G, ρ, As, s, ?_⟩
  refine Kont.bind (T := []) (Q := Q) s.nd (fun a z => nomatch z) k fun o ρ1 G1 H1 As1 v Bs e1 nd1 r1 s1 k1 => ?_
  exact Kont.now k1 s1 (Bs := Bs) (fun a z => by simpa using z) (by simpa using nd1) (.tmp r1)
theorem c_ok {X : Cx} {e : Expr} {v : V} {d : PyData} (h : PE X e (tC v)) (hd : ∀ G, Dp X.K G v d) : PE X e (liftE X.K R (cF d)) := by
  refine PE.weak h fun σ H Q ⟨pins, G, ρ, As, s, k⟩ => ?_
  exact Kont.now k s (Bs := []) (fun a z => z) s.nd (.dat (hd G))
end

/-! ### tests -/
def tstF (f : EF) : TF := fun ρ => (f ρ).bind fun o ρ1 => match o with
  | .dat (.bool b) => .ok b ρ1
  | _ => .stuck
def trO : O → Option Bool
  | .dat .none => some false
  | .dat (.bool b) => some b
  | .dat (.int i) => some (i != 0)
  | .dat (.str z) => if z.length ≤ sizeLine then some ((z.length : Int) != 0) else none
  | .dk kvs => some (!kvs.isEmpty)
  | o => o.sv.map fun ds => !ds.isEmpty
/-- a value's truth -/
def truF (f : PF) : TF := fun ρ => (f ρ).bind fun p ρ1 => match p.get ρ1 with
  | some o => match trO o with
    | some b => .ok b ρ1
    | none => .stuck
  | none => .stuck
def notT (f : TF) : TF := fun ρ => (f ρ).bind fun b ρ1 => .ok (!b) ρ1
def andT (f g : TF) : TF := fun ρ => (f ρ).bind fun b ρ1 => if b = true then g ρ1 else .ok false ρ1
def orT (f g : TF) : TF := fun ρ => (f ρ).bind fun b ρ1 => if b = true then .ok true ρ1 else g ρ1
def ifE (t : TF) (f g : EF) : EF := fun ρ => (t ρ).bind fun b ρ1 => if b = true then f ρ1 else g ρ1
section
variable {K : PySem.W.Frag} {R : RK} {pins σ : L2.St} {G H G' H' : Hp} {As Bs Cs T : List Addr} {Q : VK} {ρ : En} {X : Cx}
theorem tst_le {f : EF} {t : TE} (h : ∀ σ H Q, liftE K R f σ H Q → t σ H Q) (σ : L2.St) (H : Hp) (Q : Bool → Hp → Prop) (hw : liftT K R (tstF f) σ H Q) : tTest t σ H Q := by
  obtain ⟨pins, G, ρ, As, s, k⟩ := hw
  refine h σ H _ ⟨pins, G, ρ, As, s, ?_⟩
  refine Kont.bind (T := []) (Q := Q) s.nd (fun a z => nomatch z) k fun o ρ1 G1 H1 As1 v Bs e1 nd1 r1 s1 k1 => ?_
  split at k1
  · rename_i b
    cases dat_bool r1
    exact ⟨b, rfl, Kont.now k1 s1 (Bs := []) (fun a z => List.mem_append_right _ (List.mem_append_right _ z)) s1.nd ⟨rfl, rfl⟩⟩
  · exact k1.elim
theorem tst_ok {e : Expr} {f : EF} {t : TE} (h : PT X e (tTest t)) (l : ∀ σ H Q, liftE X.K R f σ H Q → t σ H Q) : PT X e (liftT X.K R (tstF f)) := PT.weak h (tst_le l)
theorem tru_le {o : O} {v : V} {b : Bool} {B : List Addr} (s : Sub G H) (r : RepO K G H v o B) (h : trO o = some b) : TruV K v H b := by
  unfold trO at h
  split at h
  · cases Option.some.inj h; cases dat_none r; rfl
  · cases Option.some.inj h; cases dat_bool r; rfl
  · cases Option.some.inj h; cases dat_int r; rfl
  · split at h
    · rename_i hz
      cases Option.some.inj h; cases dat_str r; exact ⟨hz, rfl⟩
    · cases h
  · rename_i kvs
    cases Option.some.inj h
    cases r with
    | @dk a es _ h1 h2 h3 =>
      refine .inr (.inr ⟨es, h2, ?_⟩)
      have := All2.len h3
      cases es <;> cases kvs <;> first | rfl | cases this
  · obtain ⟨ds, h1, h2⟩ := Option.map_eq_some_iff.mp h
    subst h2
    obtain ⟨p, vs, rfl, hp, dp⟩ := r.sv s h1
    have e : (!ds.isEmpty) = !vs.isEmpty := by
      cases dp <;> rfl
    rcases hp with hp | hp
    · exact .inl ⟨vs, hp, e⟩
    · exact .inr (.inl ⟨vs, hp, e⟩)
theorem tru_ok' {a : Expr} {f : PF} (ha : PE X a (liftP X.K R f)) (he : ∀ whole, isTrue a X.env whole = (do let v ← whole; standAt a.pos; holding [v] (truthy v)) := by intro _; rfl) : PT X a (liftT X.K R (truF f)) := by
  refine PT.weak (pt_truth ha he) fun σ H Q ⟨pins, G, ρ, As, s, k⟩ => ⟨pins, G, ρ, As, s, ?_⟩
  refine Kont.bind (T := []) (Q := Q) s.nd (fun a z => nomatch z) k fun q ρ1 G1 H1 As1 v Bs e1 nd1 r1 s1 k1 => ?_
  split at k1
  · rename_i o ho
    split at k1
    · rename_i b hb
      obtain ⟨Cs, rc⟩ := RepP.get r1 s1 ho
      exact ⟨b, tru_le s1.sub rc hb, Kont.now k1 s1 (Bs := []) (fun a z => List.mem_append_right _ (List.mem_append_right _ z)) s1.nd ⟨rfl, rfl⟩⟩
    · exact k1.elim
  · exact k1.elim
theorem bnil {b c : Bool} (h : relB σ G H b c Bs) : b = c ∧ Bs = [] := h
theorem pt_notF {a : Expr} {f : TF} {pos : Pos} (ha : PT X a (liftT X.K R f)) : PT X (.UnaryOp .Not a pos) (liftT X.K R (notT f)) := by
  refine PT.weak (pt_not ha) fun σ H Q ⟨pins, G, ρ, As, s, k⟩ => ⟨pins, G, ρ, As, s, ?_⟩
  refine Kont.bind (T := []) (Q := Q) s.nd (fun a z => nomatch z) k fun q ρ1 G1 H1 As1 v Bs e1 nd1 r1 s1 k1 => ?_
  obtain ⟨rfl, rfl⟩ := r1
  exact Kont.now k1 s1 (Bs := []) (fun a z => by simpa using z) s1.nd ⟨rfl, rfl⟩
variable {a b : Expr} {rest : List Expr} {f g : TF} {pos : Pos}
theorem pw_andF1 (ha : PT X a (liftT X.K R f)) : PW X (.BoolOp .And [a] pos) (liftT X.K R f) := pw_and1 ha
theorem pw_orF1 (ha : PT X a (liftT X.K R f)) : PW X (.BoolOp .Or [a] pos) (liftT X.K R f) := pw_or1 ha
theorem and_le (σ : L2.St) (H : Hp) (Q : Bool → Hp → Prop) (hw : liftT K R (andT f g) σ H Q) : tAnd (liftT K R f) (liftT K R g) σ H Q := by
  obtain ⟨pins, G, ρ, As, s, k⟩ := hw
  refine ⟨pins, G, ρ, As, s, ?_⟩
  refine Kont.bind (T := []) (Q := Q) s.nd (fun a z => nomatch z) k fun q ρ1 G1 H1 As1 v Bs e1 nd1 r1 s1 k1 => ?_
  obtain ⟨rfl, rfl⟩ := r1
  by_cases c : v = true
  · rw [if_pos c] at k1 ⊢
    exact ⟨pins, G1, ρ1, As1, s1, by simpa using k1⟩
  · rw [if_neg c] at k1 ⊢
    exact Kont.now k1 s1 (Bs := []) (fun a z => by simpa using z) s1.nd ⟨rfl, rfl⟩
theorem or_le (σ : L2.St) (H : Hp) (Q : Bool → Hp → Prop) (hw : liftT K R (orT f g) σ H Q) : tOr (liftT K R f) (liftT K R g) σ H Q := by
  obtain ⟨pins, G, ρ, As, s, k⟩ := hw
  refine ⟨pins, G, ρ, As, s, ?_⟩
  refine Kont.bind (T := []) (Q := Q) s.nd (fun a z => nomatch z) k fun q ρ1 G1 H1 As1 v Bs e1 nd1 r1 s1 k1 => ?_
  obtain ⟨rfl, rfl⟩ := r1
  by_cases c : v = true
  · rw [if_pos c] at k1 ⊢
    exact Kont.now k1 s1 (Bs := []) (fun a z => by simpa using z) s1.nd ⟨rfl, rfl⟩
  · rw [if_neg c] at k1 ⊢
    exact ⟨pins, G1, ρ1, As1, s1, by simpa using k1⟩
theorem pw_andF (ha : PT X a (liftT X.K R f)) (hb : PW X (.BoolOp .And (b :: rest) pos) (liftT X.K R g)) : PW X (.BoolOp .And (a :: b :: rest) pos) (liftT X.K R (andT f g)) :=
  let h := pw_and ha hb
  ⟨fun wh pins s σ H Q I q => h.run wh pins s σ H Q I (and_le σ H Q q)⟩
theorem pw_orF (ha : PT X a (liftT X.K R f)) (hb : PW X (.BoolOp .Or (b :: rest) pos) (liftT X.K R g)) : PW X (.BoolOp .Or (a :: b :: rest) pos) (liftT X.K R (orT f g)) :=
  let h := pw_or ha hb
  ⟨fun wh pins s σ H Q I q => h.run wh pins s σ H Q I (or_le σ H Q q)⟩
theorem pf_if {c : Expr} {t : TF} {x y : EF} (hc : PT X c (liftT X.K R t)) (ha : PE X a (liftE X.K R x)) (hb : PE X b (liftE X.K R y)) : PE X (.IfExp c a b pos) (liftE X.K R (ifE t x y)) := by
  refine PE.weak (pe_ifExp hc ha hb) fun σ H Q ⟨pins, G, ρ, As, s, k⟩ => ⟨pins, G, ρ, As, s, ?_⟩
  refine Kont.bind (T := []) (Q := Q) s.nd (fun a z => nomatch z) k fun q ρ1 G1 H1 As1 v Bs e1 nd1 r1 s1 k1 => ?_
  obtain ⟨rfl, rfl⟩ := r1
  by_cases c : v = true
  · rw [if_pos c] at k1 ⊢
    exact ⟨pins, G1, ρ1, As1, s1, by simpa using k1⟩
  · rw [if_neg c] at k1 ⊢
    exact ⟨pins, G1, ρ1, As1, s1, by simpa using k1⟩
/-! #### and, or as values -/
def andE (f g : EF) : EF := fun ρ => (f ρ).bind fun o ρ1 => match o with
  | .dat (.bool true) => g ρ1
  | .dat (.bool false) => .ok (.dat (.bool false)) ρ1
  | _ => .stuck
def orE (f g : EF) : EF := fun ρ => (f ρ).bind fun o ρ1 => match o with
  | .dat (.bool true) => .ok (.dat (.bool true)) ρ1
  | .dat (.bool false) => g ρ1
  | _ => .stuck
theorem pf_one {op} {x : EF} (h : PE X a (liftE X.K R x)) : PE X (.BoolOp op [a] pos) (liftE X.K R x) := pe_one h
theorem pf_and {x y : EF} (ha : PE X a (liftE X.K R x)) (hb : PE X (.BoolOp .And (b :: rest) pos) (liftE X.K R y)) : PE X (.BoolOp .And (a :: b :: rest) pos) (liftE X.K R (andE x y)) := by
  refine PE.weak (pe_and ha hb) fun σ H Q ⟨pins, G, ρ, As, s, k⟩ => ⟨pins, G, ρ, As, s, ?_⟩
  refine Kont.bind (T := []) (Q := Q) s.nd (fun a z => nomatch z) k fun q ρ1 G1 H1 As1 v Bs e1 nd1 r1 s1 k1 => ?_
  split at k1
  · cases dat_bool r1
    cases r1
    exact ⟨true, rfl, pins, G1, ρ1, As1, s1, by simpa using k1⟩
  · cases dat_bool r1
    exact ⟨false, rfl, Kont.now k1 s1 (Bs := []) (fun a z => List.mem_append_right _ (List.mem_append_right _ z)) s1.nd (.dat (.bl _))⟩
  · exact k1.elim
theorem pf_or {x y : EF} (ha : PE X a (liftE X.K R x)) (hb : PE X (.BoolOp .Or (b :: rest) pos) (liftE X.K R y)) : PE X (.BoolOp .Or (a :: b :: rest) pos) (liftE X.K R (orE x y)) := by
  refine PE.weak (pe_or ha hb) fun σ H Q ⟨pins, G, ρ, As, s, k⟩ => ⟨pins, G, ρ, As, s, ?_⟩
  refine Kont.bind (T := []) (Q := Q) s.nd (fun a z => nomatch z) k fun q ρ1 G1 H1 As1 v Bs e1 nd1 r1 s1 k1 => ?_
  split at k1
  · cases dat_bool r1
    exact ⟨true, rfl, Kont.now k1 s1 (Bs := []) (fun a z => List.mem_append_right _ (List.mem_append_right _ z)) s1.nd (.dat (.bl _))⟩
  · cases dat_bool r1
    cases r1
    exact ⟨false, rfl, pins, G1, ρ1, As1, s1, by simpa using k1⟩
  · exact k1.elim
end
end Vs

namespace Vs
open PySem PySem.Spec PyProof.Rows L2 Ww

/-! ### displays -/
def nilA : AF := fun ρ => .ok [] ρ
def consA (f : EF) (g : AF) : AF := fun ρ => (f ρ).bind fun o ρ1 => (g ρ1).bind fun os ρ2 => .ok (o :: os) ρ2
def dvs : List O → Option (List PyData)
  | [] => some []
  | o :: os => match o.dv, dvs os with
    | some d, some ds => some (d :: ds)
    | _, _ => none
def tupF (g : AF) : EF := fun ρ => (g ρ).bind fun os ρ1 => match dvs os with
  | some ds => if ds.length ≤ sizeLine then .ok (.dat (.tuple ds)) ρ1 else .stuck
  | none => .stuck
def lstF (g : AF) : EF := fun ρ => (g ρ).bind fun os ρ1 => match dvs os with
  | some ds => if ds.length ≤ sizeLine then .ok (.ls ds) ρ1 else .stuck
  | none => .stuck
section
variable {K : PySem.W.Frag} {R : RK} {pins σ : L2.St} {G H G' H' : Hp} {As Bs Cs T : List Addr} {Q : VK} {ρ : En} {X : Cx}
/-- one cell shared -/
theorem share_cell {a : Addr} {u : HO} (s : Sub G H) (g1 : G a = none) (g2 : H a = some u) : Ext G H [a] (upd G a u) H [] ∧ Sub (upd G a u) H := by
  refine ⟨⟨fun b x q => by rw [upd_ne (ne_of_none q g1)]; exact q, fun _ _ q _ => q, fun b q _ n => by
      rw [upd_ne fun z => n (by rw [z]; exact List.mem_cons_self)]; exact q, fun _ z => nomatch z⟩, fun b x q => ?_⟩
  by_cases z : b = a
  · subst z
    rw [upd_same] at q
    rw [g2, q]
  · rw [upd_ne z] at q
    exact s b x q
theorem RepEls.share {vs : List V} {es : List El} {Bs : List Addr} (r : RepEls K G H vs es Bs) : Bs.Nodup → Sub G H → ∃ G', Ext G H Bs G' H [] ∧ Sub G' H ∧ DpAll K G' vs (es.map El.dv) := by
  induction r with
  | nil => exact fun _ s => ⟨G, Ext.refl, s, .nil⟩
  | d q _ ih =>
    intro nd s
    obtain ⟨G2, e2, s2, d2⟩ := ih nd s
    exact ⟨G2, e2, s2, .cons (dp_same e2.sub q) d2⟩
  | @l a us xs vs es Bs h1 h2 h3 _ ih =>
    intro nd s
    obtain ⟨n1, n2⟩ := List.nodup_cons.mp nd
    obtain ⟨G2, e2, s2, d2⟩ := ih n2 s
    have g1 : G2 a = none := e2.frz a h1 (by rw [h2]; exact fun z => nomatch z) n1
    obtain ⟨e3, s3⟩ := share_cell s2 g1 h2
    refine ⟨_, ?_, s3, .cons (.lst (SqL.of upd_same) (dps_same (e2.sub.trans e3.sub) h3)) (dps_same e3.sub d2)⟩
    exact (e2.frame [a]).trans (e3.perm (fun a => by simp) fun a z => nomatch z)
/-- shared from now on -/
theorem RepO.share {v : V} {o : O} {B : List Addr} {d : PyData} (r : RepO K G H v o B) (nd : B.Nodup) (s : Sub G H) (h : o.dv = some d) : ∃ G', Ext G H B G' H [] ∧ Sub G' H ∧ Dp K G' v d := by
  cases r with
  | dat q =>
    cases (Option.some.inj h : _ = d)
    exact ⟨G, Ext.refl, s, q⟩
  | @ls a vs ds g1 g2 g3 =>
    cases (Option.some.inj h : _ = d)
    have e : Ext G H [a] (upd G a (.lst vs)) H [] := ⟨fun b x q => by rw [upd_ne (ne_of_none q g1)]; exact q, fun _ _ q _ => q, fun b q _ n => by
      rw [upd_ne fun z => n (by rw [z]; exact List.mem_cons_self)]; exact q, fun _ z => nomatch z⟩
    refine ⟨_, e, fun b x q => ?_, .lst (SqL.of upd_same) (dps_same e.sub g3)⟩
    by_cases z : b = a
    · subst z
      rw [upd_same] at q
      rw [g2, q]
    · rw [upd_ne z] at q
      exact s b x q
  | dk _ _ _ => cases h
  | @tp a vs es Bs g1 g2 g3 =>
    cases (Option.some.inj h : _ = d)
    obtain ⟨n1, n2⟩ := List.nodup_cons.mp nd
    obtain ⟨G2, e2, s2, d2⟩ := g3.share n2 s
    have h1 : G2 a = none := e2.frz a g1 (by rw [g2]; exact fun z => nomatch z) n1
    obtain ⟨e3, s3⟩ := share_cell s2 h1 g2
    refine ⟨_, ?_, s3, .tup (SqT.of upd_same) (dps_same e3.sub d2)⟩
    exact (e2.frame [a]).trans (e3.perm (fun a => by simp) fun a z => nomatch z)
theorem RepOs.share {vs : List V} {os : List O} {Bs : List Addr} (r : RepOs K G H vs os Bs) : ∀ {ds : List PyData}, Bs.Nodup → Sub G H → dvs os = some ds → ∃ G', Ext G H Bs G' H [] ∧ Sub G' H ∧ DpAll K G' vs ds := by
  induction r with
  | nil =>
    intro ds _ s h
    cases (Option.some.inj h : [] = ds)
    exact ⟨G, Ext.refl, s, .nil⟩
  | @cons v vs o os B Bs r rs ih =>
    intro ds nd s h
    unfold dvs at h
    split at h
    · rename_i d ds' h1 h2
      cases (Option.some.inj h : _ = ds)
      obtain ⟨n1, n2, n3⟩ := List.nodup_append.mp nd
      obtain ⟨G2, e2, s2, d2⟩ := ih n2 s h2
      have r' := r.ext e2 fun a ha hb => n3 a ha a hb rfl
      obtain ⟨G3, e3, s3, d3⟩ := r'.share n1 s2 h1
      refine ⟨G3, ?_, s3, .cons d3 (dps_same e3.sub d2)⟩
      exact ((e2.frame B).trans ((e3.perm (fun a => by simp) fun a z => nomatch z)))
    · cases h
theorem pa_nilF : PA X [] (liftA X.K R nilA) := by
  refine PA.weak pa_nil fun σ H Q ⟨pins, G, ρ, As, s, k⟩ => ?_
  exact Kont.now k s (Bs := []) (fun a z => z) s.nd .nil
theorem pa_consF {e : Expr} {es : List Expr} {f : EF} {g : AF} (h1 : PE X e (liftE X.K R f)) (h2 : PA X es (liftA X.K R g)) (hs : starEach (e :: es) X.env = (false, eval e X.env) :: starEach es X.env := by rfl) : PA X (e :: es) (liftA X.K R (consA f g)) := by
  refine PA.weak (pa_cons h1 h2 hs) fun σ H Q ⟨pins, G, ρ, As, s, k⟩ => ⟨pins, G, ρ, As, s, ?_⟩
  refine Kont.bind (T := []) (Q := Q) s.nd (fun a z => nomatch z) k fun o ρ1 G1 H1 As1 v Bs e1 nd1 r1 s1 k1 => ⟨pins, G1, ρ1, As1, s1, ?_⟩
  have nd1' : (Bs ++ As1).Nodup := by simpa using nd1
  refine Kont.bind (T := Bs) (Q := Q) nd1' (fun a h => (RepO.there r1 a h).1) (by simpa using k1) fun os ρ2 G2 H2 As2 vs Cs e2 nd2 r2 s2 k2 => ?_
  have r1' := RepO.ext r1 e2 (nd_disj nd1')
  exact Kont.now (Bs := Bs ++ Cs) k2 s2 (fun a z => by simpa using z) (by simpa using nd2) (.cons r1' r2)
/-- behind a display: all items shared -/
theorem Kont.shared {os : List O} {ds : List PyData} {vs : List V} {Q1 : VK} {p : Addr} {u : HO} {o : O} (s : Ste K pins G H σ ρ As) (r : RepOs K G H vs os Bs) (nd : (Bs ++ As).Nodup) (hd : dvs os = some ds) (k : KontE K R pins σ G H (Bs ++ As) Q (.ok o ρ))
    (np : H p = none) (hn : ∀ G', Sub G' H → DpAll K G' vs ds → ∃ G2 H2 v Ds, Grow G' H G2 H2 Ds ∧ RepO K G2 H2 v o Ds ∧ Q1 v H2 = Q v H2 ∧ v = .ref p ∧ H2 = upd H p u) : Q (.ref p) (upd H p u) := by
  obtain ⟨G1, e1, s1, d1⟩ := r.share (List.nodup_append.mp nd).1 s.sub hd
  obtain ⟨G2, H2, v, Ds, g, r2, _, rfl, rfl⟩ := hn G1 s1 d1
  have st1 := s.ext e1 (fun a ha hb => nd_disj nd a hb ha) s1
  have e2 : Ext G H (Bs ++ As) G1 H As := by
    have := e1.frame As
    exact this.perm (fun a => by simp only [List.mem_append]; exact Or.comm) fun a ha => by simpa using ha
  exact KontE.grow st1 (T := []) (Kont.re k e2) g r2
theorem pf_tup {es : List Expr} {g : AF} {x1 pos} (h : PA X es (liftA X.K R g)) : PE X (.Tuple es x1 pos) (liftE X.K R (tupF g)) := by
  refine PE.weak (pe_tup h) fun σ H Q ⟨pins, G, ρ, As, s, k⟩ => ⟨pins, G, ρ, As, s, ?_⟩
  refine Kont.bind (T := []) (Q := Q) s.nd (fun a z => nomatch z) k fun os ρ1 G1 H1 As1 vs Bs e1 nd1 r1 s1 k1 => ?_
  split at k1
  · rename_i ds hd
    split at k1
    · rename_i hz
      have nd1' : (Bs ++ As1).Nodup := by simpa using nd1
      obtain ⟨G2, e2, s2, d2⟩ := RepOs.share r1 (List.nodup_append.mp nd1').1 s1.sub hd
      refine ⟨by rw [dps_len d2]; exact hz, fun p np => ?_⟩
      exact Kont.shared (Q1 := Q) s1 r1 nd1' hd (by simpa using k1) np fun G3 s3 d3 => ⟨_, _, _, _, grow_sh s3 np, sh_tup s3 np d3, rfl, rfl, rfl⟩
    · exact k1.elim
  · exact k1.elim
theorem pf_lst {es : List Expr} {g : AF} {pos} (h : PA X es (liftA X.K R g)) : PE X (.List es pos) (liftE X.K R (lstF g)) := by
  refine PE.weak (pe_lst h) fun σ H Q ⟨pins, G, ρ, As, s, k⟩ => ⟨pins, G, ρ, As, s, ?_⟩
  refine Kont.bind (T := []) (Q := Q) s.nd (fun a z => nomatch z) k fun os ρ1 G1 H1 As1 vs Bs e1 nd1 r1 s1 k1 => ?_
  split at k1
  · rename_i ds hd
    split at k1
    · rename_i hz
      have nd1' : (Bs ++ As1).Nodup := by simpa using nd1
      obtain ⟨G2, e2, s2, d2⟩ := RepOs.share r1 (List.nodup_append.mp nd1').1 s1.sub hd
      refine ⟨by rw [dps_len d2]; exact hz, fun p np => ?_⟩
      exact Kont.shared (Q1 := Q) s1 r1 nd1' hd (by simpa using k1) np fun G3 s3 d3 => ⟨_, _, _, _, grow_new s3 np, grow_ls s3 np d3, rfl, rfl, rfl⟩
    · exact k1.elim
  · exact k1.elim
end

/-! ### calls -/
/-- an argument: a value, or what stands in a slot, lent for the call -/
inductive AO where
  | vl (x : O)
  | ln (i : Nat) (x : O)
def AO.val : AO → O
  | .vl x => x
  | .ln _ x => x
inductive FRs where
  | ok (o : O) (ss : List Sl)
  | er (c : Str) (o : O) (ss : List Sl)
  | stuck
abbrev FF := List O → FRs
inductive RepC (K : PySem.W.Frag) (G H : Hp) (σ : L2.St) : List V → List AO → List Addr → Prop
  | nil : RepC K G H σ [] [] []
  | o {v : V} {vs : List V} {o : O} {os : List AO} {B Bs : List Addr} : RepO K G H v o B → RepC K G H σ vs os Bs → RepC K G H σ (v :: vs) (.vl o :: os) (B ++ Bs)
  | b {v : V} {vs : List V} {i : Nat} {o : O} {os : List AO} {B Bs : List Addr} : σ[i]? = some (some v) → RepO K G H v o B → RepC K G H σ vs os Bs → RepC K G H σ (v :: vs) (.ln i o :: os) (B ++ Bs)
inductive RepC1 (K : PySem.W.Frag) (G H : Hp) (σ : L2.St) : V → AO → List Addr → Prop
  | o {v : V} {o : O} {B : List Addr} : RepO K G H v o B → RepC1 K G H σ v (.vl o) B
  | b {v : V} {i : Nat} {o : O} {B : List Addr} : σ[i]? = some (some v) → RepO K G H v o B → RepC1 K G H σ v (.ln i o) B
abbrev C1F := En → Rs AO
abbrev CF := En → Rs (List AO)
abbrev liftC1 (K : PySem.W.Frag) (R : RK) (f : C1F) : TE := lift (fun σ G H => RepC1 K G H σ) K R f
abbrev liftC (K : PySem.W.Frag) (R : RK) (f : CF) : TA := lift (fun σ G H => RepC K G H σ) K R f
/-- an argument that is shared -/
def aD (f : EF) : C1F := fun ρ => (f ρ).bind fun o ρ1 => match o.dv with
  | some d => .ok (.vl (.dat d)) ρ1
  | none => .stuck
/-- one's own, handed over for the call -/
def aT (f : EF) : C1F := fun ρ => (f ρ).bind fun o ρ1 => .ok (.vl o) ρ1
/-- lent -/
def aB (i : Nat) : C1F := fun ρ => match ρ[i]? with
  | some (.val o) => .ok (.ln i o) (ρ.set i .no)
  | some (.bor o) => .ok (.ln i o) (ρ.set i .lent)
  | _ => .stuck
def nilC : CF := fun ρ => .ok [] ρ
def consC (f : C1F) (g : CF) : CF := fun ρ => (f ρ).bind fun o ρ1 => (g ρ1).bind fun os ρ2 => .ok (o :: os) ρ2
def putB (i : Nat) (o : O) (ρ : En) : En := match ρ[i]? with
  | some .no => ρ.set i (.val o)
  | some .lent => ρ.set i (.bor o)
  | _ => ρ
def backF : List AO → List Sl → En → En
  | .ln i _ :: r, .bor o :: ss, ρ => backF r ss (putB i o ρ)
  | _ :: r, _ :: ss, ρ => backF r ss ρ
  | _, _, ρ => ρ
def callF (F : FF) (g : CF) : EF := fun ρ => (g ρ).bind fun os ρ1 => match F (os.map AO.val) with
  | .ok o ss => .ok o (backF os ss ρ1)
  | .er c o ss => .er c o (backF os ss ρ1)
  | .stuck => .stuck
/-- a def's promise -/
def spF (K : PySem.W.Frag) (cl : Str → Option Addr) (F : FF) : Sp := fun vs H Q E => ∃ G os As, RepOs K G H vs os As ∧ As.Nodup ∧ Sub G H ∧ match F os with
  | .ok o ss => ∀ G' H' v Bs As', Ext G H As G' H' (Bs ++ As') → (Bs ++ As').Nodup → RepO K G' H' v o Bs → Sub G' H' → Slots K G' H' (vs.map some) ss As' → Q v H'
  | .er c o ss => ∀ G' H' v Bs As' d, Ext G H As G' H' (Bs ++ As') → (Bs ++ As').Nodup → RepO K G' H' v o Bs → Sub G' H' → Slots K G' H' (vs.map some) ss As' → H' d = some (.xd [("value", v)]) → ∃ C, cl c = some C ∧ E (.ref C) (some d) H'
  | .stuck => False
/-- nothing is raised -/
def R0 : RK := fun _ _ _ _ => False
section
variable {K : PySem.W.Frag} {R : RK} {pins σ : L2.St} {G H G' H' : Hp} {As Bs Cs T : List Addr} {Q : VK} {ρ : En} {X : Cx}
theorem RepC1.there {v : V} {o : AO} {B : List Addr} (r : RepC1 K G H σ v o B) : ∀ a ∈ B, H a ≠ none := by
  cases r with
  | o r => exact fun a h => (r.there a h).1
  | b _ r => exact fun a h => (r.there a h).1
theorem RepC1.ext {v : V} {o : AO} {B : List Addr} (r : RepC1 K G H σ v o B) (e : Ext G H As G' H' Cs) (d : ∀ a ∈ B, a ∉ As) : RepC1 K G' H' σ v o B := by
  cases r with
  | o r => exact .o (r.ext e d)
  | b h r => exact .b h (r.ext e d)
theorem RepC.os {vs : List V} {os : List AO} {Bs : List Addr} (r : RepC K G H σ vs os Bs) : RepOs K G H vs (os.map AO.val) Bs := by
  induction r with
  | nil => exact .nil
  | o r _ ih => exact .cons r ih
  | b _ r _ ih => exact .cons r ih
theorem aD_ok {e : Expr} {f : EF} (h : PE X e (liftE X.K R f)) : PE X e (liftC1 X.K R (aD f)) := by
  refine PE.weak h fun σ H Q ⟨pins, G, ρ, As, s, k⟩ => ⟨pins, G, ρ, As, s, ?_⟩
  refine Kont.bind (T := []) (Q := Q) s.nd (fun a z => nomatch z) k fun o ρ1 G1 H1 As1 v Bs e1 nd1 r1 s1 k1 => ?_
  split at k1
  · rename_i d hd
    have nd1' : (Bs ++ As1).Nodup := by simpa using nd1
    obtain ⟨G2, e2, s2, d2⟩ := RepO.share r1 (List.nodup_append.mp nd1').1 s1.sub hd
    have st := s1.ext e2 (fun a ha hb => nd_disj nd1' a hb ha) s2
    have e3 : Ext G1 H1 ([] ++ (Bs ++ As1)) G2 H1 ([] ++ As1) := (e2.frame As1).perm (fun a => by simp only [List.mem_append, List.nil_append]; exact Or.comm) fun a ha => by simpa using ha
    exact k1 G2 H1 As1 v [] e3 st.nd (.o (.dat d2)) st
  · exact k1.elim
theorem aT_ok {e : Expr} {f : EF} (h : PE X e (liftE X.K R f)) : PE X e (liftC1 X.K R (aT f)) := by
  refine PE.weak h fun σ H Q ⟨pins, G, ρ, As, s, k⟩ => ⟨pins, G, ρ, As, s, ?_⟩
  refine Kont.bind (T := []) (Q := Q) s.nd (fun a z => nomatch z) k fun o ρ1 G1 H1 As1 v Bs e1 nd1 r1 s1 k1 => ?_
  exact Kont.now k1 s1 (Bs := Bs) (fun a z => by simpa using z) (by simpa using nd1) (.o r1)
theorem Pin.lent {i : Nat} (p : Pin pins σ ρ) {o : O} (h : ρ[i]? = some (.bor o)) : Pin pins σ (ρ.set i .lent) := by
  refine ⟨p.1, fun j hj => p.2 j ?_⟩
  by_cases e : i = j
  · subst e
    exact .inr ⟨o, h⟩
  · rw [List.getElem?_set_ne e] at hj
    exact hj
theorem Pin.back {i : Nat} (p : Pin pins σ ρ) (h : ρ[i]? = some .lent) (x : Sl) : Pin pins σ (ρ.set i x) := by
  refine ⟨p.1, fun j hj => p.2 j ?_⟩
  by_cases e : i = j
  · subst e
    exact .inl h
  · rw [List.getElem?_set_ne e] at hj
    exact hj
theorem aB_ok {e : Expr} {i : Nat} (h : PE X e (tVar i)) : PE X e (liftC1 X.K R (aB i)) := by
  refine PE.weak h fun σ H Q ⟨pins, G, ρ, As, s, k⟩ => ?_
  unfold aB at k
  split at k
  · rename_i o ho
    obtain ⟨v, B, Cs, h1, h2, h3, h4, h5⟩ := Slots.out (y := .no) trivial s.slots (getS_val ho)
    exact ⟨v, h1, Kont.now k (Cs := Cs) ⟨h5, (List.nodup_append.mp (h4 s.nd)).2.1, s.sub, s.pin.set trivial⟩ (fun a z => (h3 a).2 z) (h4 s.nd) (.b h1 h2)⟩
  · rename_i o ho
    obtain ⟨v, B, Cs, h1, h2, h3, h4, h5⟩ := Slots.out (y := .lent) trivial s.slots (getS_bor ho)
    exact ⟨v, h1, Kont.now k (Cs := Cs) ⟨h5, (List.nodup_append.mp (h4 s.nd)).2.1, s.sub, s.pin.lent ho⟩ (fun a z => (h3 a).2 z) (h4 s.nd) (.b h1 h2)⟩
  · exact k.elim
theorem pa_nilC : PA X [] (liftC X.K R nilC) := by
  refine PA.weak pa_nil fun σ H Q ⟨pins, G, ρ, As, s, k⟩ => ?_
  exact Kont.now k s (Bs := []) (fun a z => z) s.nd .nil
theorem pa_consC {e : Expr} {es : List Expr} {f : C1F} {g : CF} (h1 : PE X e (liftC1 X.K R f)) (h2 : PA X es (liftC X.K R g)) (hs : starEach (e :: es) X.env = (false, eval e X.env) :: starEach es X.env := by rfl) : PA X (e :: es) (liftC X.K R (consC f g)) := by
  refine PA.weak (pa_cons h1 h2 hs) fun σ H Q ⟨pins, G, ρ, As, s, k⟩ => ⟨pins, G, ρ, As, s, ?_⟩
  refine Kont.bind (T := []) (Q := Q) s.nd (fun a z => nomatch z) k fun o ρ1 G1 H1 As1 v Bs e1 nd1 r1 s1 k1 => ⟨pins, G1, ρ1, As1, s1, ?_⟩
  have nd1' : (Bs ++ As1).Nodup := by simpa using nd1
  refine Kont.bind (T := Bs) (Q := Q) nd1' (RepC1.there r1) (by simpa using k1) fun os ρ2 G2 H2 As2 vs Cs e2 nd2 r2 s2 k2 => ?_
  have r1' := RepC1.ext r1 e2 (nd_disj nd1')
  refine Kont.now (Bs := Bs ++ Cs) k2 s2 (fun a z => by simpa using z) (by simpa using nd2) ?_
  cases r1' with
  | o r => exact .o r r2
  | b h r => exact .b h r r2
/-- what was lent comes back -/
theorem Ste.back {vs : List V} {os : List AO} {Ds : List Addr} (r : RepC K G H σ vs os Ds) : ∀ {ρ : En} {ss : List Sl} {G' H' : Hp} {As Bs : List Addr}, Ste K pins G' H' σ ρ As → Slots K G' H' (vs.map some) ss Bs → (Bs ++ As).Nodup →
    ∃ Cs, Ste K pins G' H' σ (backF os ss ρ) Cs ∧ ∀ a ∈ Cs, a ∈ Bs ++ As := by
  induction r with
  | nil =>
    intro ρ ss G' H' As Bs s p nd
    have e : backF [] ss ρ = ρ := by cases ss <;> rfl
    rw [e]
    exact ⟨As, s, fun a z => List.mem_append_right _ z⟩
  | @o v vs o os B Bs' q _ ih =>
    intro ρ ss G' H' As Bs s p nd
    cases ss with
    | nil => cases p
    | cons y ss =>
      have e : backF (.vl o :: os) (y :: ss) ρ = backF os ss ρ := by cases y <;> rfl
      rw [e]
      rcases Slots.inv p with ⟨_, p⟩ | ⟨_, _, D, E, _, _, rfl, _, p⟩
      · exact ih s p nd
      · obtain ⟨Cs, h1, h2⟩ := ih s p (by rw [List.append_assoc] at nd; exact (List.nodup_append.mp nd).2.1)
        exact ⟨Cs, h1, fun a z => by rw [List.append_assoc]; exact List.mem_append_right _ (h2 a z)⟩
  | @b v vs i o os B Bs' hv q _ ih =>
    intro ρ ss G' H' As Bs s p nd
    cases ss with
    | nil => cases p
    | cons y ss =>
      by_cases hy : ∃ x, y = .bor x
      · obtain ⟨x, rfl⟩ := hy
        have e : backF (.ln i o :: os) (.bor x :: ss) ρ = backF os ss (putB i x ρ) := rfl
        rw [e]
        rcases Slots.inv p with ⟨h, _⟩ | ⟨v', x', D, E, e1, e2, rfl, q', p⟩
        · exact h.elim
        · cases (Option.some.inj e1 : v = v')
          cases (Option.some.inj e2 : x = x')
          have nd' : (E ++ (D ++ As)).Nodup := nd_swap (by rw [List.append_assoc] at nd; exact nd)
          have hD : (D ++ As).Nodup := (List.nodup_append.mp nd').2.1
          have key : ∃ Cs, Ste K pins G' H' σ (putB i x ρ) Cs ∧ ∀ a ∈ Cs, a ∈ D ++ As := by
            unfold putB
            split
            · rename_i hi
              obtain ⟨Cs, w1, w2, w3⟩ := Slots.into (z := .val x) rfl q' s.slots hi trivial hv
              exact ⟨Cs, ⟨w1, w3 hD, s.sub, s.pin.set trivial⟩, fun a z => (w2 a).1 z⟩
            · rename_i hi
              obtain ⟨Cs, w1, w2, w3⟩ := Slots.into (z := .bor x) rfl q' s.slots hi trivial hv
              exact ⟨Cs, ⟨w1, w3 hD, s.sub, s.pin.back hi _⟩, fun a z => (w2 a).1 z⟩
            · exact ⟨As, s, fun a z => List.mem_append_right _ z⟩
          obtain ⟨Cs, w1, w2⟩ := key
          have nd2 : (E ++ Cs).Nodup := List.nodup_append.mpr ⟨(List.nodup_append.mp nd').1, w1.nd, fun a ha b hb z => (List.nodup_append.mp nd').2.2 a ha b (w2 b hb) z⟩
          obtain ⟨Fs, u1, u2⟩ := ih w1 p nd2
          refine ⟨Fs, u1, fun a z => ?_⟩
          rw [List.append_assoc]
          rcases List.mem_append.mp (u2 a z) with w | w
          · exact List.mem_append_right _ (List.mem_append_left _ w)
          · exact (app_swap (B := E) (A := D) (C := As) a).2 (List.mem_append_right _ (w2 a w))
      · have e : backF (.ln i o :: os) (y :: ss) ρ = backF os ss ρ := by
          cases y with
          | bor x => exact absurd ⟨x, rfl⟩ hy
          | _ => rfl
        rw [e]
        rcases Slots.inv p with ⟨_, p⟩ | ⟨_, _, D, E, _, _, rfl, _, p⟩
        · exact ih s p nd
        · obtain ⟨Cs, h1, h2⟩ := ih s p (by rw [List.append_assoc] at nd; exact (List.nodup_append.mp nd).2.1)
          exact ⟨Cs, h1, fun a z => by rw [List.append_assoc]; exact List.mem_append_right _ (h2 a z)⟩
theorem call_le {F : FF} {g : CF} {cl : Str → Option Addr} {E : XK} (hE : ∀ σ c d H, R c d σ H → ∃ C, cl c = some C ∧ E (.ref C) (some d) H) (σ : L2.St) (H : Hp) (Q : VK) (h : liftE K R (callF F g) σ H Q) : tCall (spF K cl F) [] E (liftC K R g) σ H Q := by
  obtain ⟨pins, G, ρ, As, s, k⟩ := h
  refine ⟨pins, G, ρ, As, s, ?_⟩
  refine Kont.bind (T := []) (Q := Q) s.nd (fun a z => nomatch z) k fun os ρ1 G1 H1 As1 vs Bs e1 nd1 r1 s1 k1 => ?_
  have nd1' : (Bs ++ As1).Nodup := by simpa using nd1
  rw [List.append_nil]
  have k1 : KontE K R pins σ G1 H1 ([] ++ (Bs ++ As1)) Q (match F (os.map AO.val) with
    | .ok o ss => .ok o (backF os ss ρ1)
    | .er c o ss => .er c o (backF os ss ρ1)
    | .stuck => .stuck) := k1
  refine ⟨G1, os.map AO.val, Bs, RepC.os r1, (List.nodup_append.mp nd1').1, s1.sub, ?_⟩
  have stay : ∀ {G' H' : Hp} {Ds As' : List Addr}, Ext G1 H1 Bs G' H' (Ds ++ As') → (Ds ++ As').Nodup → Sub G' H' → ∀ {ss : List Sl}, Slots K G' H' (vs.map some) ss As' → ∃ Cs, Ste K pins G' H' σ (backF os ss ρ1) Cs ∧ (Ds ++ Cs).Nodup ∧ Ext G1 H1 ([] ++ (Bs ++ As1)) G' H' (Ds ++ Cs) := by
    intro G' H' Ds As' e nd sub ss p
    have dj : ∀ a ∈ As1, a ∉ Bs := fun a ha hb => nd_disj nd1' a hb ha
    have s2 := s1.ext e dj sub
    have hA : ∀ a ∈ As1, H1 a ≠ none := fun a m => (s1.slots.there a m).1
    have out : ∀ a ∈ As1, a ∉ Ds ++ As' := fun a ha hb => by
      rcases e.own a hb with w | w
      · exact dj a ha w
      · exact hA a ha w
    have nd2 : (As' ++ As1).Nodup := List.nodup_append.mpr ⟨(List.nodup_append.mp nd).2.1, s1.nd, fun a ha b hb z => by subst z; exact out a hb (List.mem_append_right _ ha)⟩
    obtain ⟨Cs, w1, w2⟩ := Ste.back r1 s2 p nd2
    refine ⟨Cs, w1, List.nodup_append.mpr ⟨(List.nodup_append.mp nd).1, w1.nd, fun a ha b hb z => ?_⟩, ?_⟩
    · subst z
      rcases List.mem_append.mp (w2 a hb) with w | w
      · exact nd_disj nd a ha w
      · exact out a w (List.mem_append_left _ ha)
    · refine ((e.frame As1).perm (fun a => by simp only [List.nil_append, List.mem_append]; exact Or.comm) fun a ha => ?_)
      rcases List.mem_append.mp ha with w | w
      · exact List.mem_append_right _ (List.mem_append_left _ w)
      · rcases List.mem_append.mp (w2 a w) with w | w
        · exact List.mem_append_right _ (List.mem_append_right _ w)
        · exact List.mem_append_left _ w
  cases hF : F (os.map AO.val) with
  | ok o ss =>
    rw [hF] at k1
    intro G' H' v Ds As' e nd r sub p
    obtain ⟨Cs, w1, w2, w3⟩ := stay e nd sub p
    exact k1 G' H' Cs v Ds w3 w2 r w1
  | er c o ss =>
    rw [hF] at k1
    intro G' H' v Ds As' d e nd r sub p hd
    obtain ⟨Cs, w1, w2, w3⟩ := stay e nd sub p
    exact hE σ c d H' (k1 σ G' H' Cs v Ds d w3 w2 r w1 hd)
  | stuck =>
    rw [hF] at k1
    exact k1
theorem pf_call {CX : CXT} {n : Nat} {f : Addr} {fd : FuncData} {ps : List Str} {F : FF} {g : CF} {cl : Str → Option Addr} {x : Str} {p pos : Pos} {e : Expr} {es : List Expr} (Fn : FnOk X.prog X.w X.K X.mg X.base CX n f fd ps (spF X.K cl F)) (hr : Room n X.A) (hg : Gl X x) (hm : X.mg x = some (.ref f)) (hk : PySem.W.keepIn X.K (.ref f) = true) (hb : Binds X.K fd ps [])
    (hx : Passes CX X (fun _ _ _ => False)) (ha : PA X (e :: es) (liftC X.K R0 g)) (hdb : (x == ("__debug__" : Str)) = false := by decide) (he : starEach (e :: es) X.env = (false, eval e X.env) :: starEach es X.env := by rfl) (hpl : (backTo pos (starEach es X.env)).any (·.1) = false := by rfl) :
    PE X (.Call (.Name x p) (e :: es) [] pos) (liftE X.K R0 (callF F g)) := PE.weak (pe_call Fn hr hg hm hk hb .nil hx ha hdb he hpl) (call_le fun _ _ _ _ z => z.elim)
theorem pf_call0 {CX : CXT} {n : Nat} {f : Addr} {fd : FuncData} {ps : List Str} {F : FF} {cl : Str → Option Addr} {x : Str} {p pos : Pos} (Fn : FnOk X.prog X.w X.K X.mg X.base CX n f fd ps (spF X.K cl F)) (hr : Room n X.A) (hg : Gl X x) (hm : X.mg x = some (.ref f)) (hk : PySem.W.keepIn X.K (.ref f) = true) (hb : Binds X.K fd ps [])
    (hx : Passes CX X (fun _ _ _ => False)) (hdb : (x == ("__debug__" : Str)) = false := by decide) :
    PE X (.Call (.Name x p) [] [] pos) (liftE X.K R0 (callF F nilC)) := by
  refine PE.weak (pe_call0 Fn hr hg hm hk hb .nil hx hdb) fun σ H Q h => ?_
  obtain ⟨pins, G, ρ, As, s, k⟩ := call_le (cl := cl) (E := fun _ _ _ => False) (fun _ _ _ _ z => z.elim) σ H Q h
  exact Kont.now k s (Bs := []) (fun a z => z) s.nd .nil
end
end Vs

namespace Vs
open PySem PySem.Spec PyProof.Rows L2 Ww

/-! ### statements -/
inductive Out where
  | nx (ρ : En)
  | rt (o : O) (ρ : En)
  | bk (ρ : En)
  | ct (ρ : En)
  | er (c : Str) (o : O) (ρ : En)
  | stuck
abbrev SF := En → Out
def Rs.bindS {α : Type} (r : Rs α) (k : α → En → Out) : Out := match r with
  | .ok o ρ => k o ρ
  | .er c o ρ => .er c o ρ
  | .stuck => .stuck
def Out.seq (r : Out) (k : En → Out) : Out := match r with
  | .nx ρ => k ρ
  | r => r
def KontS (K : PySem.W.Frag) (R : RK) (pins : L2.St) (G H : Hp) (As : List Addr) (D : Ends) : Out → Prop
  | .nx ρ' => ∀ σ' G' H' As', Ext G H As G' H' As' → Ste K pins G' H' σ' ρ' As' → D.nx σ' H'
  | .rt o ρ' => ∀ σ' G' H' As' v Bs, Ext G H As G' H' (Bs ++ As') → (Bs ++ As').Nodup → RepO K G' H' v o Bs → Ste K pins G' H' σ' ρ' As' → D.rt v H'
  | .bk ρ' => ∀ σ' G' H' As', Ext G H As G' H' As' → Ste K pins G' H' σ' ρ' As' → D.bk σ' H'
  | .ct ρ' => ∀ σ' G' H' As', Ext G H As G' H' As' → Ste K pins G' H' σ' ρ' As' → D.ct σ' H'
  | .er c o ρ' => ErOk K R pins G H As c o ρ'
  | .stuck => False
def liftS (K : PySem.W.Frag) (R : RK) (f : SF) : TS := fun D σ H => ∃ pins G ρ As, Ste K pins G H σ ρ As ∧ KontS K R pins G H As D (f ρ)
def seqS (f g : SF) : SF := fun ρ => (f ρ).seq g
def nxS : SF := fun ρ => .nx ρ
def bkS : SF := fun ρ => .bk ρ
def ctS : SF := fun ρ => .ct ρ
def noS : SF := fun _ => .stuck
def retS (f : EF) : SF := fun ρ => (f ρ).bindS fun o ρ1 => .rt o ρ1
def retN : SF := fun ρ => .rt (.dat .none) ρ
def exS (f : EF) : SF := fun ρ => (f ρ).bindS fun _ ρ1 => .nx ρ1
def ifS (t : TF) (f g : SF) : SF := fun ρ => (t ρ).bindS fun b ρ1 => if b = true then f ρ1 else g ρ1
/-- a slot stored -/
def stO (i : Nat) (o : O) (ρ : En) : Option En := match ρ[i]? with
  | some .no => some (ρ.set i (.val o))
  | some (.val _) => some (ρ.set i (.val o))
  | _ => none
def setS (i : Nat) (f : EF) : SF := fun ρ => (f ρ).bindS fun o ρ1 => match stO i o ρ1 with
  | some ρ2 => .nx ρ2
  | none => .stuck
section
variable {K : PySem.W.Frag} {R : RK} {pins σ : L2.St} {G H G' H' : Hp} {As Bs Cs T : List Addr} {Q : VK} {ρ : En} {X : Cx} {D : Ends}
theorem KontS.re {r : Out} (k : KontS K R pins G H As D r) (e : Ext G H As G' H' Cs) : KontS K R pins G' H' Cs D r := by
  cases r with
  | nx ρ => exact fun σ2 G2 H2 As2 e2 st => k σ2 G2 H2 As2 (e.trans e2) st
  | rt o ρ => exact fun σ2 G2 H2 As2 v Bs e2 nd r st => k σ2 G2 H2 As2 v Bs (e.trans e2) nd r st
  | bk ρ => exact fun σ2 G2 H2 As2 e2 st => k σ2 G2 H2 As2 (e.trans e2) st
  | ct ρ => exact fun σ2 G2 H2 As2 e2 st => k σ2 G2 H2 As2 (e.trans e2) st
  | er c o ρ => exact ErOk.re k e
  | stuck => exact k
theorem Kont.bindS {α β : Type} {rel : Hp → Hp → β → α → List Addr → Prop} {r : Rs α} {k : α → En → Out} {Q1 : β → Hp → Prop} (h : KontS K R pins G H As D (r.bindS k))
    (step : ∀ o ρ G' H' As' v Bs, Ext G H As G' H' (Bs ++ As') → (Bs ++ As').Nodup → rel G' H' v o Bs → Ste K pins G' H' σ ρ As' → KontS K R pins G' H' (Bs ++ As') D (k o ρ) → Q1 v H') : Kont rel K R pins σ G H As Q1 r := by
  cases r with
  | ok o ρ => exact fun G2 H2 As2 v Bs e2 nd2 r2 st2 => step o ρ G2 H2 As2 v Bs e2 nd2 r2 st2 (KontS.re h e2)
  | er c o ρ => exact h
  | stuck => exact h
theorem KontS.now (k : KontS K R pins G H As D (.nx ρ)) (s : Ste K pins G H σ ρ Cs) (e : ∀ a ∈ Cs, a ∈ As) : D.nx σ H := k σ G H Cs (Ext.refl.less e) s
/-- a statement's continuation by a statement -/
theorem KontS.seq {r : Out} {g : SF} (h : KontS K R pins G H As D (r.seq g)) : KontS K R pins G H As { D with nx := liftS K R g D } r := by
  cases r with
  | nx ρ => exact fun σ2 G2 H2 As2 e2 st => ⟨pins, G2, ρ, As2, st, KontS.re h e2⟩
  | rt o ρ => exact h
  | bk ρ => exact h
  | ct ρ => exact h
  | er c o ρ => exact h
  | stuck => exact h
variable {st : Stmt} {rest : List Stmt} {f g : SF} {e a b : Expr} {x y : EF} {pos : Pos}
theorem ss_nil : PSs X [] (liftS X.K R nxS) := PSs.weak pss_nil fun D σ H ⟨pins, G, ρ, As, s, k⟩ => KontS.now k s fun _ z => z
theorem ss_cons (h1 : PS X st (liftS X.K R f)) (h2 : PSs X rest (liftS X.K R g)) : PSs X (st :: rest) (liftS X.K R (seqS f g)) :=
  PSs.weak (pss_cons h1 h2) fun D σ H ⟨pins, G, ρ, As, s, k⟩ => ⟨pins, G, ρ, As, s, KontS.seq k⟩
theorem ss_one (h1 : PS X st (liftS X.K R f)) : PSs X [st] (liftS X.K R f) := pss_one h1
theorem s_pass : PS X (.Pass pos) (liftS X.K R nxS) := PS.weak ps_pass fun D σ H ⟨pins, G, ρ, As, s, k⟩ => KontS.now k s fun _ z => z
theorem s_break : PS X (.Break pos) (liftS X.K R bkS) := PS.weak ps_break fun D σ H ⟨pins, G, ρ, As, s, k⟩ => (show KontS X.K R pins G H As D (.bk ρ) from k) σ G H As Ext.refl s
theorem s_cont : PS X (.Continue pos) (liftS X.K R ctS) := PS.weak ps_continue fun D σ H ⟨pins, G, ρ, As, s, k⟩ => (show KontS X.K R pins G H As D (.ct ρ) from k) σ G H As Ext.refl s
theorem s_doc {z j pos pos'} : PS X (.Expr (.Constant (.str z) j pos) pos') (liftS X.K R nxS) := PS.weak ps_doc fun D σ H ⟨pins, G, ρ, As, s, k⟩ => KontS.now k s fun _ z => z
theorem s_never : PS X st (liftS X.K R noS) := PS.weak ps_never fun D σ H ⟨pins, G, ρ, As, s, k⟩ => k
theorem ss_never {sts : List Stmt} : PSs X sts (liftS X.K R noS) := PSs.weak pss_never fun D σ H ⟨pins, G, ρ, As, s, k⟩ => k
theorem s_expr (he : PE X e (liftE X.K R x)) (hs : swapsWith e none pos.line X.env = pure false := by rfl) : PS X (.Expr e pos) (liftS X.K R (exS x)) := by
  refine PS.weak (ps_expr he hs) fun D σ H ⟨pins, G, ρ, As, s, k⟩ => ⟨pins, G, ρ, As, s, ?_⟩
  refine Kont.bindS k fun o ρ1 G1 H1 As1 v Bs e1 nd1 r1 s1 k1 => ?_
  exact KontS.now k1 s1 fun a z => List.mem_append_right _ z
theorem s_ret (he : PE X e (liftE X.K R x)) : PS X (.Return (some e) pos) (liftS X.K R (retS x)) := by
  refine PS.weak (ps_ret he) fun D σ H ⟨pins, G, ρ, As, s, k⟩ => ⟨pins, G, ρ, As, s, ?_⟩
  refine Kont.bindS k fun o ρ1 G1 H1 As1 v Bs e1 nd1 r1 s1 k1 => ?_
  exact (show KontS X.K R pins G1 H1 (Bs ++ As1) D (.rt o ρ1) from k1) σ G1 H1 As1 v Bs Ext.refl nd1 r1 s1
theorem s_retN : PS X (.Return none pos) (liftS X.K R retN) :=
  PS.weak ps_retN fun D σ H ⟨pins, G, ρ, As, s, k⟩ => (show KontS X.K R pins G H As D (.rt (.dat .none) ρ) from k) σ G H As .non [] Ext.refl s.nd (.dat .non) s
theorem s_if {t : TF} {c : Expr} {p q : List Stmt} (hc : PT X c (liftT X.K R t)) (ha : PSs X p (liftS X.K R f)) (hb : PSs X q (liftS X.K R g)) : PS X (.If c p q pos) (liftS X.K R (ifS t f g)) := by
  refine PS.weak (ps_if hc ha hb) fun D σ H ⟨pins, G, ρ, As, s, k⟩ => ⟨pins, G, ρ, As, s, ?_⟩
  refine Kont.bindS k fun o ρ1 G1 H1 As1 v Bs e1 nd1 r1 s1 k1 => ?_
  obtain ⟨rfl, rfl⟩ := r1
  by_cases c : v = true
  · rw [if_pos c] at k1 ⊢
    exact ⟨pins, G1, ρ1, As1, s1, by simpa using k1⟩
  · rw [if_neg c] at k1 ⊢
    exact ⟨pins, G1, ρ1, As1, s1, by simpa using k1⟩
/-- a slot is stored -/
theorem Slots.put {v : V} {o : O} {B : List Addr} (q : RepO K G H v o B) : ∀ {σ : L2.St} {ρ : En} {As : List Addr} {i : Nat}, Slots K G H σ ρ As → i < ρ.length → (B ++ As).Nodup → ∃ Cs, Slots K G H (σ.set i (some v)) (ρ.set i (.val o)) Cs ∧ (∀ a ∈ Cs, a ∈ B ++ As) ∧ Cs.Nodup
  | [], [], _, i, _, h, _ => by simp at h
  | [], _ :: _, _, i, r, _, _ => by cases r
  | _ :: _, [], _, i, r, _, _ => by cases r
  | x :: σ, u :: ρ, As, 0, r, _, nd => by
    rcases r.inv with ⟨_, r⟩ | ⟨v', o', D, E, rfl, _, rfl, _, r⟩
    · exact ⟨_, .val q r, fun a z => z, nd⟩
    · refine ⟨_, .val q r, fun a z => ?_, ?_⟩
      · rcases List.mem_append.mp z with w | w
        · exact List.mem_append_left _ w
        · exact List.mem_append_right _ (List.mem_append_right _ w)
      · exact (List.nodup_append.mp (nd_swap nd)).2.1
  | x :: σ, u :: ρ, As, i + 1, r, h, nd => by
    have h' : i < ρ.length := by simpa using h
    rcases r.inv with ⟨hg, r⟩ | ⟨v', o', D, E, rfl, hu, rfl, q2, r⟩
    · obtain ⟨Cs, h1, h2, h3⟩ := Slots.put q r h' nd
      exact ⟨Cs, .mkGap hg h1, h2, h3⟩
    · have nd2 := nd_swap nd
      obtain ⟨Cs, h1, h2, h3⟩ := Slots.put q r h' (List.nodup_append.mp nd2).2.1
      refine ⟨D ++ Cs, .mkFull hu q2 h1, fun a z => ?_, ?_⟩
      · rw [app_swap a]
        rcases List.mem_append.mp z with w | w
        · exact List.mem_append_left _ w
        · exact List.mem_append_right _ (h2 a w)
      · exact List.nodup_append.mpr ⟨(List.nodup_append.mp nd2).1, h3, fun a ha b hb z => (List.nodup_append.mp nd2).2.2 a ha b (h2 b hb) z⟩
theorem Pin.put {i : Nat} {v : Option V} {x : Sl} {y : Sl} (p : Pin pins σ ρ) (h : ρ[i]? = some y) (hy : y.free) (hx : x.free) : Pin pins (σ.set i v) (ρ.set i x) := by
  refine ⟨by rw [List.length_set]; exact p.1, fun j hj => ?_⟩
  by_cases e : i = j
  · subst e
    rw [List.getElem?_set_self (List.getElem?_eq_some_iff.mp h).1] at hj
    rcases hj with z | ⟨o, z⟩
    · rw [Option.some.inj z] at hx; exact hx.elim
    · rw [Option.some.inj z] at hx; exact hx.elim
  · rw [List.getElem?_set_ne e] at hj ⊢
    exact p.2 j hj
theorem Ste.put {i : Nat} {v : V} {o : O} {B : List Addr} {ρ' : En} (s : Ste K pins G H σ ρ As) (q : RepO K G H v o B) (nd : (B ++ As).Nodup) (h : stO i o ρ = some ρ') : ∃ Cs, Ste K pins G H (σ.set i (some v)) ρ' Cs ∧ ∀ a ∈ Cs, a ∈ B ++ As := by
  unfold stO at h
  split at h
  · rename_i hi
    cases Option.some.inj h
    obtain ⟨Cs, h1, h2, h3⟩ := Slots.put q s.slots (List.getElem?_eq_some_iff.mp hi).1 nd
    exact ⟨Cs, ⟨h1, h3, s.sub, s.pin.put hi trivial trivial⟩, h2⟩
  · rename_i hi
    cases Option.some.inj h
    obtain ⟨Cs, h1, h2, h3⟩ := Slots.put q s.slots (List.getElem?_eq_some_iff.mp hi).1 nd
    exact ⟨Cs, ⟨h1, h3, s.sub, s.pin.put hi trivial trivial⟩, h2⟩
  · cases h
theorem s_set {i : Nat} (h : PS X st (tAsg (liftE X.K R x) (gName i))) : PS X st (liftS X.K R (setS i x)) := by
  refine PS.weak h fun D σ H ⟨pins, G, ρ, As, s, k⟩ => ⟨pins, G, ρ, As, s, ?_⟩
  refine Kont.bindS k fun o ρ1 G1 H1 As1 v Bs e1 nd1 r1 s1 k1 => ?_
  split at k1
  · rename_i ρ2 h2
    obtain ⟨Cs, w1, w2⟩ := s1.put r1 nd1 h2
    exact KontS.now k1 w1 w2
  · exact k1.elim
end

/-! ### targets -/
structure Tg where
  f : PyData → En → Option En
  ws : List Nat
def liftG (K : PySem.W.Frag) (t : Tg) : TG := fun v σ H Q => ∃ pins G ρ As d ρ', Ste K pins G H σ ρ As ∧ Dp K G v d ∧ t.f d ρ = some ρ' ∧ ∀ σ' As', Ste K pins G H σ' ρ' As' → (∀ a ∈ As', a ∈ As) → σ'.length = σ.length → (∀ j, j ∉ t.ws → σ'[j]? = σ[j]?) → Q σ' H
structure Tgs where
  f : List PyData → En → Option En
  ws : List Nat
def liftGs (K : PySem.W.Frag) (t : Tgs) : TGs := fun vs σ H Q => ∃ pins G ρ As ds ρ', Ste K pins G H σ ρ As ∧ DpAll K G vs ds ∧ t.f ds ρ = some ρ' ∧ ∀ σ' As', Ste K pins G H σ' ρ' As' → (∀ a ∈ As', a ∈ As) → σ'.length = σ.length → (∀ j, j ∉ t.ws → σ'[j]? = σ[j]?) → Q σ' H
def nmT (i : Nat) : Tg := ⟨fun d ρ => stO i (.dat d) ρ, [i]⟩
def nilTs : Tgs := ⟨fun ds ρ => match ds with
  | [] => some ρ
  | _ => none, []⟩
def consTs (t : Tg) (u : Tgs) : Tgs := ⟨fun ds ρ => match ds with
  | d :: ds => (t.f d ρ).bind fun ρ1 => u.f ds ρ1
  | [] => none, t.ws ++ u.ws⟩
def tupT (n : Nat) (t : Tgs) : Tg := ⟨fun d ρ => match d with
  | .tuple ds => if ds.length = n then t.f ds ρ else none
  | .list ds => if ds.length = n then t.f ds ρ else none
  | _ => none, t.ws⟩
def asgS (t : Tg) (f : EF) : SF := fun ρ => (f ρ).bindS fun o ρ1 => match o.dv with
  | some d => match t.f d ρ1 with
    | some ρ2 => .nx ρ2
    | none => .stuck
  | none => .stuck
theorem PG.weak {X : Cx} {e : Expr} {t t' : TG} (h : PG X e t) (k : ∀ v σ H Q, t' v σ H Q → t v σ H Q) : PG X e t' := ⟨fun pins s σ H v u Q I r q => h.run pins s σ H v u Q I r (k v σ H Q q)⟩
theorem PGs.weak {X : Cx} {e : List Expr} {t t' : TGs} (h : PGs X e t) (k : ∀ v σ H Q, t' v σ H Q → t v σ H Q) : PGs X e t' := ⟨fun pins s σ H v u Q I r q => h.run pins s σ H v u Q I r (k v σ H Q q)⟩
section
variable {K : PySem.W.Frag} {R : RK} {pins σ : L2.St} {G H G' H' : Hp} {As Bs Cs T : List Addr} {Q : VK} {ρ : En} {X : Cx} {D : Ends}
theorem g_name {e : Expr} {i : Nat} (h : PG X e (gName i)) : PG X e (liftG X.K (nmT i)) := by
  refine PG.weak h fun v σ H Q ⟨pins, G, ρ, As, d, ρ', s, hd, ht, q⟩ => ?_
  obtain ⟨Cs, w1, w2⟩ := Ste.put (B := []) s (.dat hd) s.nd ht
  exact q _ Cs w1 w2 (List.length_set ..) fun j hj => List.getElem?_set_ne fun z => hj (by rw [z]; exact List.mem_cons_self)
theorem gs_nil : PGs X [] (liftGs X.K nilTs) := by
  refine PGs.weak pgs_nil fun vs σ H Q ⟨pins, G, ρ, As, ds, ρ', s, hd, ht, q⟩ => ?_
  cases ds with
  | nil =>
    cases hd
    cases (Option.some.inj ht : ρ = ρ')
    exact ⟨rfl, q σ As s (fun _ z => z) rfl fun _ _ => rfl⟩
  | cons _ _ => cases ht
theorem gs_cons {e : Expr} {es : List Expr} {t : Tg} {u : Tgs} (h1 : PG X e (liftG X.K t)) (h2 : PGs X es (liftGs X.K u)) (hs : (assignEach (e :: es) X.env).map (·.2) = assign e X.env :: (assignEach es X.env).map (·.2) := by rfl) : PGs X (e :: es) (liftGs X.K (consTs t u)) := by
  refine PGs.weak (pgs_cons h1 h2 hs) fun vs σ H Q ⟨pins, G, ρ, As, ds, ρ', s, hd, ht, q⟩ => ?_
  cases ds with
  | nil => cases ht
  | cons d ds =>
    cases hd with
    | @cons v vr _ _ a r =>
      obtain ⟨ρ1, t1, t2⟩ := Option.bind_eq_some_iff.mp ht
      refine ⟨v, vr, rfl, pins, G, ρ, As, d, ρ1, s, a, t1, fun σ1 As1 s1 l1 n1 w1 => ?_⟩
      exact ⟨pins, G, ρ1, As1, ds, ρ', s1, r, t2, fun σ2 As2 s2 l2 n2 w2 => q σ2 As2 s2 (fun a z => l1 a (l2 a z)) (n2.trans n1) fun j hj =>
        (w2 j fun z => hj (List.mem_append_right _ z)).trans (w1 j fun z => hj (List.mem_append_left _ z))⟩
theorem g_tup {es : List Expr} {k : Nat} {t : Tgs} {n : Nat} {pos : Pos} (hc : X.calm = true) (h : PGs X es (liftGs X.K t)) (hn : (assignEach es X.env).length = n := by rfl) (hst : (assignEach es X.env).findIdx? (·.1) = none := by rfl) : PG X (.Tuple es k pos) (liftG X.K (tupT n t)) := by
  refine ⟨fun pins0 s0 σ H v u Q I r w => ?_⟩
  obtain ⟨pins, G, ρ, As, d, ρ', s, hd, ht, q⟩ := w
  cases d with
  | tuple ds =>
    have ht : (if ds.length = n then t.f ds ρ else none) = some ρ' := ht
    split at ht
    · rename_i hl
      cases hd with
      | @tup a xs _ h1 h2 => exact (pg_tup hc h hn hst).run pins0 s0 σ H _ u Q I r ⟨a, xs, rfl, s.sub.sqt h1, (dps_len h2).trans hl, pins, G, ρ, As, ds, ρ', s, h2, ht, q⟩
    · cases ht
  | list ds =>
    have ht : (if ds.length = n then t.f ds ρ else none) = some ρ' := ht
    split at ht
    · rename_i hl
      cases hd with
      | @lst a xs _ h1 h2 => exact (pg_lst hc h hn hst).run pins0 s0 σ H _ u Q I r ⟨a, xs, rfl, s.sub.seq h1, (dps_len h2).trans hl, pins, G, ρ, As, ds, ρ', s, h2, ht, q⟩
    · cases ht
  | _ => cases ht
theorem s_asg {st : Stmt} {x : EF} {t : Tg} (h : PS X st (tAsg (liftE X.K R x) (liftG X.K t))) : PS X st (liftS X.K R (asgS t x)) := by
  refine PS.weak h fun D σ H ⟨pins, G, ρ, As, s, k⟩ => ⟨pins, G, ρ, As, s, ?_⟩
  refine Kont.bindS k fun o ρ1 G1 H1 As1 v Bs e1 nd1 r1 s1 k1 => ?_
  split at k1
  · rename_i d hd
    split at k1
    · rename_i ρ2 h2
      obtain ⟨G2, e2, sb2, d2⟩ := RepO.share r1 (List.nodup_append.mp nd1).1 s1.sub hd
      have st2 := s1.ext e2 (fun a ha hb => nd_disj nd1 a hb ha) sb2
      refine ⟨pins, G2, ρ1, As1, d, ρ2, st2, d2, h2, fun σ' As' s' l' _ _ => ?_⟩
      have e3 : Ext G1 H1 (Bs ++ As1) G2 H1 As' := (e2.frame As1).perm (fun a => by simp only [List.mem_append]; exact Or.comm) fun a ha => by
        rw [List.append_nil]; exact l' a ha
      exact k1 σ' G2 H1 As' e3 s'
    · exact k1.elim
  · exact k1.elim
end
end Vs

namespace Vs
open PySem PySem.Spec PyProof.Rows L2 Ww

/-! ### what a loop walks: so many data, in their order -/
def WalkF (K : PySem.W.Frag) (G : Hp) (J : It) (ds : List PyData) : Prop := ∀ G' H', Sub G G' → Sub G' H' →
  (∀ i d, ds[i]? = some d → J.go i H' ∧ ∀ x H2, J.yld i H' x H2 → ∃ G2, Grow G' H' G2 H2 [] ∧ Dp K G2 x d) ∧ ∀ i, ds.length ≤ i → J.stop i H'
abbrev IF := En → Rs (List PyData)
abbrev relI (K : PySem.W.Frag) : L2.St → Hp → Hp → It → List PyData → List Addr → Prop := fun _ G _ J ds Bs => Bs = [] ∧ WalkF K G J ds
abbrev liftI (K : PySem.W.Frag) (R : RK) (f : IF) : TI := lift (relI K) K R f
/-- a list, a tuple -/
def itL (f : EF) : IF := fun ρ => (f ρ).bind fun o ρ1 => match o.lv with
  | some ds => .ok ds ρ1
  | none => .stuck
def itT (f : EF) : IF := fun ρ => (f ρ).bind fun o ρ1 => match o with
  | .dat (.tuple ds) => .ok ds ρ1
  | _ => .stuck
def itR (f : EF) : IF := fun ρ => (f ρ).bind fun o ρ1 => match o with
  | .dat (.int n) => if n < 2 ^ 62 then .ok ((List.range n.toNat).map fun i : Nat => .int ((i : Nat) : Int)) ρ1 else .stuck
  | _ => .stuck
def loopF (t : Tg) (body : SF) : List PyData → SF
  | [] => fun ρ => .nx ρ
  | d :: ds => fun ρ => match t.f d ρ with
    | none => .stuck
    | some ρ1 => match body ρ1 with
      | .nx ρ2 => loopF t body ds ρ2
      | .ct ρ2 => loopF t body ds ρ2
      | .bk ρ2 => .nx ρ2
      | .rt o ρ2 => .rt o ρ2
      | .er c o ρ2 => .er c o ρ2
      | .stuck => .stuck
def forS (it : IF) (t : Tg) (body : SF) : SF := fun ρ => (it ρ).bindS fun ds ρ1 => loopF t body ds ρ1
def whileN (t : TF) (body : SF) : Nat → SF
  | 0 => fun _ => .stuck
  | n + 1 => fun ρ => (t ρ).bindS fun b ρ1 => if b = true then (match body ρ1 with
      | .nx ρ2 => whileN t body n ρ2
      | .ct ρ2 => whileN t body n ρ2
      | .bk ρ2 => .nx ρ2
      | .rt o ρ2 => .rt o ρ2
      | .er c o ρ2 => .er c o ρ2
      | .stuck => .stuck) else .nx ρ1
open Classical in
noncomputable def whileS (t : TF) (body : SF) : SF := fun ρ => if h : ∃ n, whileN t body n ρ ≠ .stuck then whileN t body h.choose ρ else .stuck
theorem whileN_more {t : TF} {body : SF} : ∀ {n : Nat} {ρ : En}, whileN t body n ρ ≠ .stuck → whileN t body (n + 1) ρ = whileN t body n ρ
  | 0, ρ, h => absurd rfl h
  | n + 1, ρ, h => by
    have u : ∀ m, whileN t body (m + 1) ρ = (t ρ).bindS fun b ρ1 => if b = true then (match body ρ1 with
      | .nx ρ2 => whileN t body m ρ2
      | .ct ρ2 => whileN t body m ρ2
      | .bk ρ2 => .nx ρ2
      | .rt o ρ2 => .rt o ρ2
      | .er c o ρ2 => .er c o ρ2
      | .stuck => .stuck) else .nx ρ1 := fun m => rfl
    rw [u (n + 1), u n]
    rw [u n] at h
    cases ht : t ρ with
    | er c o ρ' => rfl
    | stuck => rfl
    | ok b ρ1 =>
      rw [ht] at h
      cases b with
      | false => rfl
      | true =>
        show (match body ρ1 with
          | .nx ρ2 => whileN t body (n + 1) ρ2
          | .ct ρ2 => whileN t body (n + 1) ρ2
          | .bk ρ2 => .nx ρ2
          | .rt o ρ2 => .rt o ρ2
          | .er c o ρ2 => .er c o ρ2
          | .stuck => .stuck) = (match body ρ1 with
          | .nx ρ2 => whileN t body n ρ2
          | .ct ρ2 => whileN t body n ρ2
          | .bk ρ2 => .nx ρ2
          | .rt o ρ2 => .rt o ρ2
          | .er c o ρ2 => .er c o ρ2
          | .stuck => .stuck)
        have h : (match body ρ1 with
          | .nx ρ2 => whileN t body n ρ2
          | .ct ρ2 => whileN t body n ρ2
          | .bk ρ2 => .nx ρ2
          | .rt o ρ2 => .rt o ρ2
          | .er c o ρ2 => .er c o ρ2
          | .stuck => .stuck) ≠ .stuck := h
        cases hb : body ρ1 with
        | nx ρ2 =>
          rw [hb] at h
          exact whileN_more h
        | ct ρ2 =>
          rw [hb] at h
          exact whileN_more h
        | _ => rfl
theorem whileN_le {t : TF} {body : SF} {n : Nat} {ρ : En} (h : whileN t body n ρ ≠ .stuck) : ∀ k, whileN t body (n + k) ρ = whileN t body n ρ
  | 0 => rfl
  | k + 1 => by
    have e := whileN_le h k
    rw [← Nat.add_assoc, whileN_more (by rw [e]; exact h), e]
theorem whileS_of {t : TF} {body : SF} {n : Nat} {ρ : En} (h : whileN t body n ρ ≠ .stuck) : whileS t body ρ = whileN t body n ρ := by
  have hx : ∃ n, whileN t body n ρ ≠ .stuck := ⟨n, h⟩
  have e1 : whileS t body ρ = whileN t body hx.choose ρ := by
    unfold whileS
    rw [dif_pos hx]
  rw [e1, ← whileN_le hx.choose_spec n, ← whileN_le h hx.choose, Nat.add_comm]
/-- how the while goes on -/
theorem whileS_next {t : TF} {body : SF} {ρ ρ1 ρ2 : En} {r : Out} (ht : t ρ = .ok true ρ1) (hb : body ρ1 = .nx ρ2) (hr : whileS t body ρ2 = r) (hn : r ≠ .stuck) : whileS t body ρ = r := by
  subst hr
  have hx : ∃ n, whileN t body n ρ2 ≠ .stuck := by
    by_cases c : ∃ n, whileN t body n ρ2 ≠ .stuck
    · exact c
    · unfold whileS at hn
      rw [dif_neg c] at hn
      exact absurd rfl hn
  obtain ⟨n, hn'⟩ := hx
  have e : whileN t body (n + 1) ρ = whileN t body n ρ2 := by
    show (t ρ).bindS _ = _
    rw [ht]
    show (match body ρ1 with
      | .nx ρ2 => whileN t body n ρ2
      | .ct ρ2 => whileN t body n ρ2
      | .bk ρ2 => .nx ρ2
      | .rt o ρ2 => .rt o ρ2
      | .er c o ρ2 => .er c o ρ2
      | .stuck => .stuck) = _
    rw [hb]
  rw [whileS_of (n := n + 1) (by rw [e]; exact hn'), e, whileS_of hn']
/-- how it ends -/
theorem whileS_done {t : TF} {body : SF} {ρ ρ1 : En} (ht : t ρ = .ok false ρ1) : whileS t body ρ = .nx ρ1 := by
  have e : whileN t body 1 ρ = .nx ρ1 := by
    show (t ρ).bindS _ = _
    rw [ht]
    rfl
  rw [whileS_of (n := 1) (by rw [e]; exact fun z => nomatch z), e]
theorem whileS_ret {t : TF} {body : SF} {ρ ρ1 ρ2 : En} {o : O} (ht : t ρ = .ok true ρ1) (hb : body ρ1 = .rt o ρ2) : whileS t body ρ = .rt o ρ2 := by
  have e : whileN t body 1 ρ = .rt o ρ2 := by
    show (t ρ).bindS _ = _
    rw [ht]
    show (match body ρ1 with
      | .nx ρ2 => whileN t body 0 ρ2
      | .ct ρ2 => whileN t body 0 ρ2
      | .bk ρ2 => .nx ρ2
      | .rt o ρ2 => .rt o ρ2
      | .er c o ρ2 => .er c o ρ2
      | .stuck => .stuck) = _
    rw [hb]
  rw [whileS_of (n := 1) (by rw [e]; exact fun z => nomatch z), e]
theorem whileS_bk {t : TF} {body : SF} {ρ ρ1 ρ2 : En} (ht : t ρ = .ok true ρ1) (hb : body ρ1 = .bk ρ2) : whileS t body ρ = .nx ρ2 := by
  have e : whileN t body 1 ρ = .nx ρ2 := by
    show (t ρ).bindS _ = _
    rw [ht]
    show (match body ρ1 with
      | .nx ρ2 => whileN t body 0 ρ2
      | .ct ρ2 => whileN t body 0 ρ2
      | .bk ρ2 => .nx ρ2
      | .rt o ρ2 => .rt o ρ2
      | .er c o ρ2 => .er c o ρ2
      | .stuck => .stuck) = _
    rw [hb]
  rw [whileS_of (n := 1) (by rw [e]; exact fun z => nomatch z), e]
section
variable {K : PySem.W.Frag} {R : RK} {pins σ : L2.St} {G H G' H' : Hp} {As Bs Cs T : List Addr} {Q : VK} {ρ : En} {X : Cx} {D : Ends}
theorem walk_list {a : Addr} {vs : List V} {ds : List PyData} (h : SqL K G a vs) (hd : DpAll K G vs ds) : WalkF K G (Itl K a) ds := by
  intro G' H' s1 s2
  have hH : SqL K H' a vs := s2.seq (s1.seq h)
  refine ⟨fun i d hi => ?_, fun i hi => ⟨vs, hH, by rw [dps_len hd]; exact hi⟩⟩
  obtain ⟨v, hv, dv⟩ := DpAll.get hd hi
  refine ⟨⟨vs, v, hH, hv⟩, fun x H2 ⟨e, y⟩ => ?_⟩
  subst e
  have e2 := y vs hH
  rw [hv] at e2
  cases Option.some.inj e2
  exact ⟨G', Grow.same s2, dp_same s1 dv⟩
theorem walk_tup {a : Addr} {vs : List V} {ds : List PyData} (h : SqT K G a vs) (hd : DpAll K G vs ds) : WalkF K G (Itt K a) ds := by
  intro G' H' s1 s2
  have hH : SqT K H' a vs := s2.sqt (s1.sqt h)
  refine ⟨fun i d hi => ?_, fun i hi => ⟨vs, hH, by rw [dps_len hd]; exact hi⟩⟩
  obtain ⟨v, hv, dv⟩ := DpAll.get hd hi
  refine ⟨⟨vs, v, hH, hv⟩, fun x H2 ⟨e, y⟩ => ?_⟩
  subst e
  have e2 := y vs hH
  rw [hv] at e2
  cases Option.some.inj e2
  exact ⟨G', Grow.same s2, dp_same s1 dv⟩
theorem walk_range {lo : Int} {n : Nat} : WalkF K G (Itr lo n) ((List.range n).map fun i : Nat => .int (lo + (i : Int))) := by
  intro G' H' s1 s2
  refine ⟨fun i d hi => ?_, fun i hi => ?_⟩
  · by_cases c : i < n
    · rw [List.getElem?_map, List.getElem?_range c] at hi
      cases (Option.some.inj hi : PyData.int (lo + (i : Int)) = d)
      exact ⟨c, fun x H2 ⟨e, y⟩ => by subst e; subst y; exact ⟨G', Grow.same s2, .int _⟩⟩
    · rw [List.getElem?_map, List.getElem?_eq_none (by simpa using c)] at hi
      cases hi
  · show n ≤ i
    simpa using hi
theorem i_list {tg e : Expr} {f : EF} (h : PE X e (liftE X.K R f)) : PI X tg e (liftI X.K R (itL f)) := by
  have w := pi_list (tg := tg) h
  refine ⟨fun pins s σ H Rr I ⟨pn, G, ρ, As, st, k⟩ => w.run pins s σ H Rr I ⟨pn, G, ρ, As, st, ?_⟩⟩
  refine Kont.bind (T := []) (Q := Rr) st.nd (fun a z => nomatch z) k fun o ρ1 G1 H1 As1 v Bs e1 nd1 r1 s1 k1 => ?_
  split at k1
  · rename_i ds hd
    have nd1' : (Bs ++ As1).Nodup := by simpa using nd1
    have hd2 : o.dv = some (.list ds) := by
      unfold O.lv at hd
      split at hd
      · cases Option.some.inj hd; rfl
      · cases Option.some.inj hd; rfl
      · cases hd
    obtain ⟨G2, e2, sb2, d2⟩ := RepO.share r1 (List.nodup_append.mp nd1').1 s1.sub hd2
    have st2 := s1.ext e2 (fun a ha hb => nd_disj nd1' a hb ha) sb2
    cases d2 with
    | @lst a vs _ h1 h2 =>
      refine ⟨a, rfl, ⟨vs, sb2.seq h1⟩, ?_⟩
      have e3 : Ext G1 H1 ([] ++ (Bs ++ As1)) G2 H1 ([] ++ As1) := (e2.frame As1).perm (fun a => by simp only [List.mem_append, List.nil_append]; exact Or.comm) fun a ha => by simpa using ha
      exact k1 G2 H1 As1 _ [] e3 st2.nd ⟨rfl, walk_list h1 h2⟩ st2
  · exact k1.elim
theorem i_tup {tg e : Expr} {f : EF} (h : PE X e (liftE X.K R f)) : PI X tg e (liftI X.K R (itT f)) := by
  have w := pi_tup (tg := tg) h
  refine ⟨fun pins s σ H Rr I ⟨pn, G, ρ, As, st, k⟩ => w.run pins s σ H Rr I ⟨pn, G, ρ, As, st, ?_⟩⟩
  refine Kont.bind (T := []) (Q := Rr) st.nd (fun a z => nomatch z) k fun o ρ1 G1 H1 As1 v Bs e1 nd1 r1 s1 k1 => ?_
  split at k1
  · rename_i ds
    obtain ⟨a, vs, rfl, h1, h2⟩ := dat_tup r1
    refine ⟨a, rfl, ⟨vs, s1.sub.sqt h1⟩, ?_⟩
    exact Kont.now k1 s1 (Bs := []) (fun a z => List.mem_append_right _ (List.mem_append_right _ z)) s1.nd ⟨rfl, walk_tup h1 h2⟩
  · exact k1.elim
theorem lift_orI {tg e : Expr} {f f1 f2 : IF} (h1 : PI X tg e (liftI X.K R f1)) (h2 : PI X tg e (liftI X.K R f2)) (h : ∀ ρ, f ρ = f1 ρ ∨ f ρ = f2 ρ) : PI X tg e (liftI X.K R f) := by
  refine ⟨fun pins s σ H Q I ⟨pn, G, ρ, As, st, k⟩ => ?_⟩
  rcases h ρ with q | q
  · exact h1.run pins s σ H Q I ⟨pn, G, ρ, As, st, by rw [← q]; exact k⟩
  · exact h2.run pins s σ H Q I ⟨pn, G, ρ, As, st, by rw [← q]; exact k⟩
/-- a list or a tuple -/
def itS (f : EF) : IF := fun ρ => (f ρ).bind fun o ρ1 => match o with
  | .dat (.list ds) => .ok ds ρ1
  | .ls ds => .ok ds ρ1
  | .dat (.tuple ds) => .ok ds ρ1
  | _ => .stuck
theorem i_seq {tg e : Expr} {f : EF} (h : PE X e (liftE X.K R f)) : PI X tg e (liftI X.K R (itS f)) := by
  refine lift_orI (i_list h) (i_tup h) fun ρ => ?_
  unfold itS itL itT
  cases f ρ with
  | er c o ρ => exact .inl rfl
  | stuck => exact .inl rfl
  | ok o ρ =>
    cases o with
    | dat d => cases d <;> first | exact .inl rfl | exact .inr rfl
    | ls ds => exact .inl rfl
    | dk _ => exact .inl rfl
    | tp _ => exact .inl rfl
theorem s_for {iter tg : Expr} {body : List Stmt} {it : IF} {t : Tg} {bd : SF} {pos : Pos} (hp : PassesOwn (model X.prog X.w) X.A X.env X.xe) (hc : X.calm = true) (hi : PI X tg iter (liftI X.K R it)) (hg : PG X tg (liftG X.K t)) (hb : PSs X body (liftS X.K R bd))
    (hs : ∀ x, foldedSetIterable iter X.env x = pure x := by intro _; rfl) : PS X (.For tg iter body [] pos) (liftS X.K R (forS it t bd)) := by
  refine PS.weak (ps_for hp hc hi hg hb hs) fun D σ H ⟨pins, G, ρ, As, s, k⟩ => ⟨pins, G, ρ, As, s, ?_⟩
  refine Kont.bindS k fun ds ρ1 G1 H1 As1 J Bs e1 nd1 r1 s1 k1 => ?_
  obtain ⟨rfl, wk⟩ := r1
  refine ⟨fun i m σ' H' => m = ds.length - i ∧ i ≤ ds.length ∧ ∃ G2 ρ2 As2, Ste X.K pins G2 H' σ' ρ2 As2 ∧ Sub G1 G2 ∧ KontS X.K R pins G2 H' As2 D (loopF t bd (ds.drop i) ρ2), ⟨_, rfl, Nat.zero_le _, G1, ρ1, As1, s1, Sub.refl _, by simpa using k1⟩, ?_⟩
  rintro i m σ' H' ⟨rfl, hi, G2, ρ2, As2, s2, sb, k2⟩
  obtain ⟨w1, w2⟩ := wk G2 H' sb s2.sub
  by_cases hlt : i < ds.length
  · have hd : ds[i]? = some ds[i] := List.getElem?_eq_getElem hlt
    obtain ⟨hgo, hy⟩ := w1 i _ hd
    have ed : ds.drop i = ds[i] :: ds.drop (i + 1) := List.drop_eq_getElem_cons hlt
    rw [ed] at k2
    generalize ds[i] = d at *
    have k2 : KontS X.K R pins G2 H' As2 D (match t.f d ρ2 with
      | none => .stuck
      | some ρ1 => match bd ρ1 with
        | .nx ρ2 => loopF t bd (ds.drop (i + 1)) ρ2
        | .ct ρ2 => loopF t bd (ds.drop (i + 1)) ρ2
        | .bk ρ2 => .nx ρ2
        | .rt o ρ2 => .rt o ρ2
        | .er c o ρ2 => .er c o ρ2
        | .stuck => .stuck) := k2
    refine .inr ⟨hgo, fun σ3 H3 => ∃ G3 ρ3 As3, Ste X.K pins G3 H3 σ3 ρ3 As3 ∧ Sub G1 G3 ∧ KontS X.K R pins G3 H3 As3 D (loopF t bd (ds.drop (i + 1)) ρ3), fun σ3 H3 h3 => ⟨ds.length - (i + 1), by omega, rfl, hlt, h3⟩, fun x H3 hx => ?_⟩
    obtain ⟨G3, g3, dx⟩ := hy x H3 hx
    have s3 := s2.ext g3.ext (fun a _ z => nomatch z) g3.sub
    have e3 : Ext G2 H' As2 G3 H3 As2 := (g3.ext.frame As2).perm (fun a => by simp) fun a ha => by simpa using ha
    split at k2
    · exact k2.elim
    · rename_i ρ4 h4
      refine ⟨pins, G3, ρ2, As2, d, ρ4, s3, dx, h4, fun σ5 As5 s5 l5 _ _ => ⟨pins, G3, ρ4, As5, s5, ?_⟩⟩
      have k3 := KontS.re k2 (e3.less l5)
      cases hb4 : bd ρ4 with
      | nx ρ6 =>
        rw [hb4] at k3
        exact fun σ7 G7 H7 As7 e7 s7 => ⟨G7, ρ6, As7, s7, (sb.trans g3.ext.sub).trans e7.sub, KontS.re k3 e7⟩
      | ct ρ6 =>
        rw [hb4] at k3
        exact fun σ7 G7 H7 As7 e7 s7 => ⟨G7, ρ6, As7, s7, (sb.trans g3.ext.sub).trans e7.sub, KontS.re k3 e7⟩
      | bk ρ6 =>
        rw [hb4] at k3
        exact k3
      | rt o ρ6 =>
        rw [hb4] at k3
        exact k3
      | er c o ρ6 =>
        rw [hb4] at k3
        exact k3
      | stuck =>
        rw [hb4] at k3
        exact k3
  · have e : ds.drop i = [] := List.drop_eq_nil_of_le (by omega)
    rw [e] at k2
    exact .inl ⟨w2 i (by omega), KontS.now k2 s2 fun _ z => z⟩
theorem s_while {c : Expr} {body : List Stmt} {t : TF} {bd : SF} {pos : Pos} (hp : PassesOwn (model X.prog X.w) X.A X.env X.xe) (hc : PT X c (liftT X.K R t)) (hb : PSs X body (liftS X.K R bd)) : PS X (.While c body [] pos) (liftS X.K R (whileS t bd)) := by
  refine PS.weak (ps_while hp hc hb) fun D σ H ⟨pins, G, ρ, As, s, k⟩ => ?_
  unfold whileS at k
  split at k
  · rename_i hx
    refine ⟨fun m σ' H' => ∃ G2 ρ2 As2, Ste X.K pins G2 H' σ' ρ2 As2 ∧ KontS X.K R pins G2 H' As2 D (whileN t bd m ρ2), ⟨_, G, ρ, As, s, k⟩, ?_⟩
    rintro m σ' H' ⟨G2, ρ2, As2, s2, k2⟩
    cases m with
    | zero => exact k2.elim
    | succ m =>
      refine ⟨pins, G2, ρ2, As2, s2, ?_⟩
      refine Kont.bindS k2 fun b ρ3 G3 H3 As3 v Bs e3 nd3 r3 s3 k3 => ?_
      obtain ⟨rfl, rfl⟩ := r3
      by_cases c : v = true
      · rw [if_pos c] at k3 ⊢
        refine ⟨fun σ4 H4 => ∃ G4 ρ4 As4, Ste X.K pins G4 H4 σ4 ρ4 As4 ∧ KontS X.K R pins G4 H4 As4 D (whileN t bd m ρ4), fun σ4 H4 h => ⟨m, by omega, h⟩, pins, G3, ρ3, As3, s3, ?_⟩
        have k3 : KontS X.K R pins G3 H3 As3 D (match bd ρ3 with
          | .nx ρ2 => whileN t bd m ρ2
          | .ct ρ2 => whileN t bd m ρ2
          | .bk ρ2 => .nx ρ2
          | .rt o ρ2 => .rt o ρ2
          | .er c o ρ2 => .er c o ρ2
          | .stuck => .stuck) := by simpa using k3
        cases hb4 : bd ρ3 with
        | nx ρ6 =>
          rw [hb4] at k3
          exact fun σ7 G7 H7 As7 e7 s7 => ⟨G7, ρ6, As7, s7, KontS.re k3 e7⟩
        | ct ρ6 =>
          rw [hb4] at k3
          exact fun σ7 G7 H7 As7 e7 s7 => ⟨G7, ρ6, As7, s7, KontS.re k3 e7⟩
        | bk ρ6 =>
          rw [hb4] at k3
          exact k3
        | rt o ρ6 =>
          rw [hb4] at k3
          exact k3
        | er c o ρ6 =>
          rw [hb4] at k3
          exact k3
        | stuck =>
          rw [hb4] at k3
          exact k3
      · rw [if_neg c] at k3 ⊢
        exact KontS.now k3 s3 fun a z => List.mem_append_right _ z
  · exact k.elim
end

/-! ### defs -/
def toSl : O → Sl
  | .dat d => .val (.dat d)
  | o => .bor o
def entry (n : Nat) (os : List O) : En := os.map toSl ++ List.replicate (n - os.length) .no
def outSl : Sl → Sl
  | .bor o => .bor o
  | _ => .no
def leave (np : Nat) (ρ : En) : List Sl := (ρ.take np).map outSl
def defF (np n : Nat) (body : SF) : FF := fun os => if os.length = np then (match body (entry n os) with
  | .rt o ρ => .ok o (leave np ρ)
  | .nx ρ => .ok (.dat .none) (leave np ρ)
  | .er c o ρ => .er c o (leave np ρ)
  | _ => .stuck) else .stuck
section
variable {K : PySem.W.Frag} {R : RK} {pins σ : L2.St} {G H G' H' : Hp} {As Bs Cs T : List Addr} {Q : VK} {ρ : En} {X : Cx} {D : Ends}
theorem toSl_get (o : O) : (toSl o).get = some o := by cases o <;> rfl
theorem slots_none : ∀ n : Nat, Slots K G H (List.replicate n none) (List.replicate n .no) []
  | 0 => .nil
  | n + 1 => .no (slots_none n)
theorem RepOs.len {vs : List V} {os : List O} (r : RepOs K G H vs os Bs) : vs.length = os.length := by
  induction r with
  | nil => rfl
  | cons _ _ ih => simp [ih]
theorem slots_start {vs : List V} {os : List O} (r : RepOs K G H vs os Bs) (n : Nat) : Slots K G H (vs.map some ++ List.replicate n none) (os.map toSl ++ List.replicate n .no) Bs := by
  induction r with
  | nil => exact slots_none n
  | cons q _ ih => exact .mkFull (toSl_get _) q ih
theorem slots_leave : ∀ (np : Nat) {σ pn : L2.St} {ρ : En} {As : List Addr}, Slots K G H σ ρ As → As.Nodup → (∀ i : Nat, (∃ o, ρ[i]? = some (.bor o)) → σ[i]? = pn[i]?) → np ≤ σ.length → np ≤ pn.length → (∀ i, i < np → ∃ v, pn[i]? = some (some v)) →
    ∃ Cs, Slots K G H (pn.take np) (leave np ρ) Cs ∧ (∀ a ∈ Cs, a ∈ As) ∧ Cs.Nodup
  | 0, σ, pn, ρ, As, r, nd, p, h1, h2, h3 => ⟨[], Slots.nil, (fun a z => nomatch z), List.nodup_nil⟩
  | np + 1, [], pn, ρ, As, r, nd, p, h1, h2, h3 => by simp at h1
  | np + 1, x :: σ, [], ρ, As, r, nd, p, h1, h2, h3 => by simp at h2
  | np + 1, x :: σ, y :: pn, [], As, r, nd, p, h1, h2, h3 => by cases r
  | np + 1, x :: σ, y :: pn, z :: ρ, As, r, nd, p, h1, h2, h3 => by
    have e : leave (np + 1) (z :: ρ) = outSl z :: leave np ρ := rfl
    have pp : ∀ i : Nat, (∃ o, ρ[i]? = some (.bor o)) → σ[i]? = pn[i]? := fun i hi => by simpa using p (i + 1) (by simpa using hi)
    have h3' : ∀ i, i < np → ∃ v, pn[i]? = some (some v) := fun i hi => by simpa using h3 (i + 1) (by omega)
    rw [e, List.take_succ_cons]
    rcases r.inv with ⟨hg, r⟩ | ⟨v, o, B, E, rfl, ho, rfl, q, r⟩
    · obtain ⟨Cs, w1, w2, w3⟩ := slots_leave np r nd pp (by simpa using h1) (by simpa using h2) h3'
      refine ⟨Cs, ?_, w2, w3⟩
      have : outSl z = .no := by cases z <;> first | rfl | exact hg.elim
      rw [this]
      exact .no w1
    · obtain ⟨n1, n2, n3⟩ := List.nodup_append.mp nd
      obtain ⟨Cs, w1, w2, w3⟩ := slots_leave np r n2 pp (by simpa using h1) (by simpa using h2) h3'
      cases z with
      | no => cases ho
      | lent => cases ho
      | val o' => exact ⟨Cs, .no w1, fun a ha => List.mem_append_right _ (w2 a ha), w3⟩
      | bor o' =>
        cases (Option.some.inj ho : o' = o)
        have e2 : some v = y := by simpa using p 0 ⟨_, rfl⟩
        subst e2
        refine ⟨B ++ Cs, .bor q w1, fun a ha => ?_, List.nodup_append.mpr ⟨n1, w3, fun a ha b hb => n3 a ha b (w2 b hb)⟩⟩
        rcases List.mem_append.mp ha with w | w
        · exact List.mem_append_left _ w
        · exact List.mem_append_right _ (w2 a w)
/-- a def's body: what its promise asks of it (nothing is raised) -/
theorem def_ok {vs : List V} {np n : Nat} {body : SF} {cl : Str → Option Addr} {E : XK} {N : List Str} (hN : N.length = n) (h : spF K cl (defF np n body) vs H Q E) (hnp : np ≤ n) (hr : ∀ σ c d H, (∃ C, cl c = some C ∧ E (.ref C) (some d) H) → R c d σ H) :
    liftS K R body { nx := fun _ H' => Q .non H', rt := Q } (start N vs) H := by
  obtain ⟨G, os, As, r, nd, sub, k⟩ := h
  unfold defF at k
  by_cases hl : os.length = np
  · rw [if_pos hl] at k
    have hv : vs.length = np := (RepOs.len r).trans hl
    have es : start N vs = vs.map some ++ List.replicate (n - os.length) none := by unfold L2.start; rw [hN, hv, hl]
    have s0 : Ste K (start N vs) G H (start N vs) (entry n os) As := by
      refine ⟨?_, nd, sub, rfl, fun i _ => rfl⟩
      rw [es]
      exact slots_start r _
    refine ⟨start N vs, G, entry n os, As, s0, ?_⟩
    have tk : (start N vs).take np = vs.map some := by
      unfold L2.start
      rw [List.take_append_of_le_length (by rw [List.length_map, hv]; exact Nat.le_refl _), List.take_of_length_le (by rw [List.length_map, hv]; exact Nat.le_refl _)]
    have ln : (start N vs).length = n := by
      unfold L2.start
      rw [List.length_append, List.length_map, List.length_replicate, hN, hv]
      omega
    have out : ∀ {σ' : L2.St} {ρ' : En} {G' H' : Hp} {Bs As' : List Addr}, Ext G H As G' H' (Bs ++ As') → (Bs ++ As').Nodup → Ste K (start N vs) G' H' σ' ρ' As' → ∃ Cs, Slots K G' H' (vs.map some) (leave np ρ') Cs ∧ (Bs ++ Cs).Nodup ∧ Ext G H As G' H' (Bs ++ Cs) := by
      intro σ' ρ' G' H' Bs As' e nd2 st
      obtain ⟨Cs, w1, w2, w3⟩ := slots_leave (pn := start N vs) np st.slots st.nd (fun i hi => st.pin.2 i (.inr hi)) (by rw [st.pin.1, ln]; exact hnp) (by rw [ln]; exact hnp) (fun i hi => by
        have : (start N vs)[i]? = (vs.map some)[i]? := by
          rw [← tk, List.getElem?_take_of_lt hi]
        rw [this, List.getElem?_map, List.getElem?_eq_getElem (by omega)]
        exact ⟨_, rfl⟩)
      rw [tk] at w1
      refine ⟨Cs, w1, List.nodup_append.mpr ⟨(List.nodup_append.mp nd2).1, w3, fun a ha b hb => (List.nodup_append.mp nd2).2.2 a ha b (w2 b hb)⟩, e.less fun a ha => ?_⟩
      rcases List.mem_append.mp ha with w | w
      · exact List.mem_append_left _ w
      · exact List.mem_append_right _ (w2 a w)
    cases hb : body (entry n os) with
    | nx ρ' =>
      rw [hb] at k
      intro σ' G' H' As' e st
      obtain ⟨Cs, w1, w2, w3⟩ := out (Bs := []) e st.nd st
      exact k G' H' .non [] Cs w3 w2 (.dat .non) st.sub w1
    | rt o ρ' =>
      rw [hb] at k
      intro σ' G' H' As' v Bs e nd2 rv st
      obtain ⟨Cs, w1, w2, w3⟩ := out e nd2 st
      exact k G' H' v Bs Cs w3 w2 rv st.sub w1
    | er c o ρ' =>
      rw [hb] at k
      intro σ' G' H' As' v Bs d e nd2 rv st hd
      obtain ⟨Cs, w1, w2, w3⟩ := out e nd2 st
      exact hr σ' c d H' (k G' H' v Bs Cs d w3 w2 rv st.sub w1 hd)
    | bk ρ' => rw [hb] at k; exact k.elim
    | ct ρ' => rw [hb] at k; exact k.elim
    | stuck => rw [hb] at k; exact k.elim
  · rw [if_neg hl] at k
    exact k.elim
end
end Vs

namespace Vs
open PySem PySem.Spec PyProof.Rows L2 Ww

/-! ### comprehensions -/
def Rs.bindX {α γ : Type} (r : Rs α) (k : α → En → Rs γ) : Rs γ := match r with
  | .ok o ρ => k o ρ
  | _ => .stuck
def wipeR (ρ : En) : List Nat → En
  | [] => ρ
  | v :: vs => (wipeR ρ vs).set v .no
def restF (ρ1 : En) : List Nat → En → En
  | [], ρ => ρ
  | i :: is, ρ => match ρ1[i]? with
    | some (.val (.dat d)) => match (restF ρ1 is ρ)[i]? with
      | some .no => (restF ρ1 is ρ).set i (.val (.dat d))
      | _ => restF ρ1 is ρ
    | _ => restF ρ1 is ρ
def yesT : TF := fun ρ => .ok true ρ
def lcL (t : Tg) (c : TF) (e : EF) (own : List Nat) : List PyData → En → Rs (List PyData)
  | [], ρ => .ok [] ρ
  | d :: ds, ρ => match t.f d ρ with
    | none => .stuck
    | some ρ1 => (c ρ1).bindX fun b ρ2 => if b = true then (e ρ2).bindX fun o ρ3 => match o.dv with
        | some x => (lcL t c e own ds (wipeR ρ3 own)).bindX fun xs ρ4 => .ok (x :: xs) ρ4
        | none => .stuck
      else lcL t c e own ds (wipeR ρ2 own)
def lcFin (own : List Nat) (ρ1 : En) (acc : List PyData) (r : Rs (List PyData)) : Res := r.bindX fun xs ρ2 => .ok (.ls (acc ++ xs)) (restF ρ1 own ρ2)
def lcF (it : IF) (t : Tg) (c : TF) (e : EF) (own : List Nat) : EF := fun ρ => (it ρ).bind fun ds ρ1 => if ds.length ≤ sizeLine then lcFin own ρ1 [] (lcL t c e own ds (wipeR ρ1 own)) else .stuck
section
variable {K : PySem.W.Frag} {R : RK} {pins σ : L2.St} {G H G' H' : Hp} {As Bs Cs T : List Addr} {Q : VK} {ρ : En} {X : Cx} {D : Ends}
theorem Slots.unset : ∀ {σ : L2.St} {ρ : En} {As : List Addr} (i : Nat), Slots K G H σ ρ As → As.Nodup → ∃ Cs, Slots K G H (σ.set i none) (ρ.set i .no) Cs ∧ (∀ a ∈ Cs, a ∈ As) ∧ Cs.Nodup
  | [], [], As, i, r, nd => ⟨As, r, fun a z => z, nd⟩
  | [], _ :: _, _, i, r, _ => by cases r
  | _ :: _, [], _, i, r, _ => by cases r
  | x :: σ, u :: ρ, As, 0, r, nd => by
    rcases r.inv with ⟨_, r⟩ | ⟨v', o', D, E, rfl, _, rfl, _, r⟩
    · exact ⟨_, .no r, fun a z => z, nd⟩
    · exact ⟨_, .no r, fun a z => List.mem_append_right _ z, (List.nodup_append.mp nd).2.1⟩
  | x :: σ, u :: ρ, As, i + 1, r, nd => by
    rcases r.inv with ⟨hg, r⟩ | ⟨v', o', D, E, rfl, hu, rfl, q2, r⟩
    · obtain ⟨Cs, h1, h2, h3⟩ := Slots.unset i r nd
      exact ⟨Cs, .mkGap hg h1, h2, h3⟩
    · obtain ⟨n1, n2, n3⟩ := List.nodup_append.mp nd
      obtain ⟨Cs, h1, h2, h3⟩ := Slots.unset i r n2
      refine ⟨D ++ Cs, .mkFull hu q2 h1, fun a z => ?_, List.nodup_append.mpr ⟨n1, h3, fun a ha b hb => n3 a ha b (h2 b hb)⟩⟩
      rcases List.mem_append.mp z with w | w
      · exact List.mem_append_left _ w
      · exact List.mem_append_right _ (h2 a w)
theorem Slots.wiped : ∀ (vs : List Nat) {σ : L2.St} {ρ : En} {As : List Addr}, Slots K G H σ ρ As → As.Nodup → ∃ Cs, Slots K G H (wipe σ vs) (wipeR ρ vs) Cs ∧ (∀ a ∈ Cs, a ∈ As) ∧ Cs.Nodup
  | [], σ, ρ, As, r, nd => ⟨As, r, fun _ z => z, nd⟩
  | v :: vs, σ, ρ, As, r, nd => by
    obtain ⟨Cs, h1, h2, h3⟩ := Slots.wiped vs r nd
    obtain ⟨Ds, w1, w2, w3⟩ := Slots.unset v h1 h3
    exact ⟨Ds, w1, fun a z => h2 a (w2 a z), w3⟩
theorem Slots.unwipe1 : ∀ {σ : L2.St} {ρ : En} {As : List Addr} (i : Nat), Slots K G H (σ.set i none) ρ As → Slots K G H σ ρ As
  | [], ρ, As, i, r => r
  | x :: σ, [], As, i, r => by cases i <;> cases r
  | x :: σ, u :: ρ, As, 0, r => by
    rcases r.inv with ⟨hg, r⟩ | ⟨v', o', D, E, h, _⟩
    · exact .mkGap hg r
    · cases h
  | x :: σ, u :: ρ, As, i + 1, r => by
    rcases Slots.inv (x := x) (σ := σ.set i none) r with ⟨hg, r⟩ | ⟨v', o', D, E, rfl, hu, rfl, q2, r⟩
    · exact .mkGap hg (Slots.unwipe1 i r)
    · exact .mkFull hu q2 (Slots.unwipe1 i r)
theorem Slots.unwipe : ∀ (vs : List Nat) {σ : L2.St} {ρ : En} {As : List Addr}, Slots K G H (wipe σ vs) ρ As → Slots K G H σ ρ As
  | [], σ, ρ, As, r => r
  | v :: vs, σ, ρ, As, r => Slots.unwipe vs (Slots.unwipe1 v r)
theorem wipeR_in {vs : List Nat} {ρ : En} {i : Nat} (h : i ∈ vs) : (wipeR ρ vs)[i]? = some .no ∨ (wipeR ρ vs)[i]? = none := by
  induction vs with
  | nil => cases h
  | cons v vs ih =>
    have u : wipeR ρ (v :: vs) = (wipeR ρ vs).set v .no := rfl
    rw [u]
    by_cases e : v = i
    · subst e
      by_cases hl : v < (wipeR ρ vs).length
      · exact .inl (List.getElem?_set_self hl)
      · exact .inr (List.getElem?_eq_none (by rw [List.length_set]; omega))
    · rw [List.getElem?_set_ne e]
      exact ih ((List.mem_cons.mp h).resolve_left fun z => e z.symm)
theorem wipeR_out {vs : List Nat} {ρ : En} {i : Nat} (h : i ∉ vs) : (wipeR ρ vs)[i]? = ρ[i]? := by
  induction vs with
  | nil => rfl
  | cons v vs ih =>
    show ((wipeR ρ vs).set v .no)[i]? = _
    rw [List.getElem?_set_ne fun e => h (by rw [e]; exact List.mem_cons_self)]
    exact ih fun z => h (List.mem_cons_of_mem _ z)
theorem wipe_out' {vs : List Nat} {σ : L2.St} {i : Nat} (h : i ∉ vs) : (wipe σ vs)[i]? = σ[i]? := wipe_out h
theorem Pin.wipe {vs : List Nat} (p : Pin pins σ ρ) : Pin pins (wipe σ vs) (wipeR ρ vs) := by
  refine ⟨by rw [wipe_length]; exact p.1, fun i hi => ?_⟩
  by_cases h : i ∈ vs
  · rcases wipeR_in (ρ := ρ) h with z | z <;> rw [z] at hi <;> rcases hi with w | ⟨o, w⟩ <;> cases w
  · rw [wipeR_out h] at hi
    rw [wipe_out' h]
    exact p.2 i hi
theorem Pin.unwipe {vs : List Nat} (p : Pin pins (L2.wipe σ vs) (wipeR ρ vs)) : Pin pins σ (wipeR ρ vs) := by
  refine ⟨by rw [← p.1, wipe_length], fun i hi => ?_⟩
  by_cases h : i ∈ vs
  · rcases wipeR_in (ρ := ρ) h with z | z <;> rw [z] at hi <;> rcases hi with w | ⟨o, w⟩ <;> cases w
  · rw [← wipe_out' h]
    exact p.2 i hi
theorem Ste.wiped (s : Ste K pins G H σ ρ As) (vs : List Nat) : ∃ Cs, Ste K pins G H (wipe σ vs) (wipeR ρ vs) Cs ∧ ∀ a ∈ Cs, a ∈ As := by
  obtain ⟨Cs, h1, h2, h3⟩ := s.slots.wiped vs s.nd
  exact ⟨Cs, ⟨h1, h3, s.sub, s.pin.wipe⟩, h2⟩
theorem Ste.rest {ρ1 : En} {G1 : Hp} {H1 : Hp} {As1 : List Addr} (s1 : Ste K pins G1 H1 σ ρ1 As1) (sb : Sub G1 G) : ∀ (is : List Nat) {ρ : En} {As : List Addr}, Ste K pins G H σ ρ As → ∃ Cs, Ste K pins G H σ (restF ρ1 is ρ) Cs ∧ ∀ a ∈ Cs, a ∈ As
  | [], ρ, As, s => ⟨As, s, fun _ z => z⟩
  | i :: is, ρ, As, s => by
    obtain ⟨Cs, h1, h2⟩ := Ste.rest s1 sb is s
    unfold restF
    split
    · rename_i d hd
      split
      · rename_i hi
        obtain ⟨v, hv⟩ := s1.slots.has (getS_val hd)
        obtain ⟨Bs, r, _⟩ := s1.slots.at hv (getS_val hd)
        obtain ⟨Ds, w1, w2, w3⟩ := Slots.into (B := []) (z := .val (.dat d)) rfl (.dat (dp_same sb r.dp0)) h1.slots hi trivial hv
        exact ⟨Ds, ⟨w1, w3 h1.nd, s.sub, h1.pin.set trivial⟩, fun a z => h2 a (by simpa using (w2 a).1 z)⟩
      · exact ⟨Cs, h1, h2⟩
    · exact ⟨Cs, h1, h2⟩
theorem wipe_eq {vs ws : List Nat} {σ σ' : L2.St} (hl : σ'.length = σ.length) (h : ∀ j, j ∉ ws → σ'[j]? = σ[j]?) (hs : ∀ i ∈ ws, i ∈ vs) : wipe σ' vs = wipe σ vs := by
  refine List.ext_getElem? fun i => ?_
  by_cases hi : i ∈ vs
  · have q : ∀ (τ : L2.St), (wipe τ vs)[i]? = if i < τ.length then some none else none := fun τ => by
      by_cases c : i < τ.length
      · rw [if_pos c]
        have hw : i < (wipe τ vs).length := by rw [wipe_length]; exact c
        cases e : (wipe τ vs)[i]? with
        | none => rw [List.getElem?_eq_none_iff] at e; omega
        | some x =>
          cases x with
          | none => rfl
          | some v => exact absurd hi (wipe_some e).2
      · rw [if_neg c]
        exact List.getElem?_eq_none (by rw [wipe_length]; omega)
    rw [q, q, hl]
  · rw [wipe_out' hi, wipe_out' hi]
    exact h i fun z => hi (hs i z)
theorem wipe_wipe {vs : List Nat} {σ : L2.St} : wipe (wipe σ vs) vs = wipe σ vs := by
  refine List.ext_getElem? fun i => ?_
  by_cases hi : i ∈ vs
  · have q : ∀ (τ : L2.St), (wipe τ vs)[i]? = if i < τ.length then some none else none := fun τ => by
      by_cases c : i < τ.length
      · rw [if_pos c]
        have hw : i < (wipe τ vs).length := by rw [wipe_length]; exact c
        cases e : (wipe τ vs)[i]? with
        | none => rw [List.getElem?_eq_none_iff] at e; omega
        | some x =>
          cases x with
          | none => rfl
          | some v => exact absurd hi (wipe_some e).2
      · rw [if_neg c]
        exact List.getElem?_eq_none (by rw [wipe_length]; omega)
    rw [q, q, wipe_length]
  · rw [wipe_out' hi]
theorem lc_le {it : IF} {t : Tg} {c : TF} {e : EF} {vs : List Nat} (hws : ∀ i ∈ t.ws, i ∈ vs) (σ : L2.St) (H : Hp) (Q : VK) (h : liftE K R (lcF it t c e vs) σ H Q) :
    tLc (liftI K R it) (liftG K t) (liftT K R0 c) (liftE K R0 e) vs σ H Q := by
  obtain ⟨pins, G, ρ, As, s, k⟩ := h
  refine ⟨pins, G, ρ, As, s, ?_⟩
  refine Kont.bind (T := []) (Q := Q) s.nd (fun a z => nomatch z) k fun ds ρ1 G1 H1 As1 J Bs e1 nd1 r1 s1 k1 => ?_
  obtain ⟨rfl, wk⟩ := r1
  intro L hL
  split at k1
  · rename_i hz
    have gL : G1 L = none := s1.sub.free hL
    have nL : L ∉ As1 := fun z => (s1.slots.there L z).1 hL
    have eN : Ext G1 H1 As1 G1 (upd H1 L (.lst [])) (L :: As1) := ⟨Sub.refl _, fun a o q _ => by rw [upd_ne (ne_of_none q hL)]; exact q, fun _ q _ _ => q, fun a q => by
      rcases List.mem_cons.mp q with z | z
      · exact .inr (by rw [z]; exact hL)
      · exact .inl z⟩
    obtain ⟨Cs1, sw, lw⟩ := s1.wiped vs
    have sN : Ste K pins G1 (upd H1 L (.lst [])) (wipe σ vs) (wipeR ρ1 vs) Cs1 := by
      refine sw.ext (As := []) (Cs := []) ⟨Sub.refl _, fun a o q _ => by rw [upd_ne (ne_of_none q hL)]; exact q, fun _ q _ _ => q, fun a q => nomatch q⟩ (fun a _ z => nomatch z) fun a o q => by
        rw [upd_ne (ne_of_none (s1.sub a o q) hL)]; exact s1.sub a o q
    refine ⟨fun i m H' => m = ds.length - i ∧ i ≤ ds.length ∧ ∃ G2 ρ2 ρ0 As2 acc xs, Ste K pins G2 H' (wipe σ vs) ρ2 As2 ∧ ρ2 = wipeR ρ0 vs ∧ Sub G1 G2 ∧ G2 L = none ∧ L ∉ As2 ∧ H' L = some (.lst acc) ∧ DpAll K G2 acc xs ∧ xs.length ≤ i ∧
      KontE K R pins σ G2 H' (L :: As2) Q (lcFin vs ρ1 xs (lcL t c e vs (ds.drop i) ρ2)), ⟨_, rfl, Nat.zero_le _, G1, _, ρ1, Cs1, [], [], sN, rfl, Sub.refl _, gL, fun z => nL (lw L z), upd_same, .nil, Nat.le_refl _, ?_⟩, ?_⟩
    · refine Kont.re (by simpa using k1) (eN.less fun a q => ?_)
      rcases List.mem_cons.mp q with z | z
      · rw [z]; exact List.mem_cons_self
      · exact List.mem_cons_of_mem _ (lw a z)
    · rintro i m H' ⟨rfl, hi, G2, ρ2, ρ0, As2, acc, xs, s2, hρ, sb, g2, n2, hL2, hx, hxi, k2⟩
      obtain ⟨w1, w2⟩ := wk G2 H' sb s2.sub
      by_cases hlt : i < ds.length
      · have hd : ds[i]? = some ds[i] := List.getElem?_eq_getElem hlt
        obtain ⟨hgo, hy⟩ := w1 i _ hd
        have ed : ds.drop i = ds[i] :: ds.drop (i + 1) := List.drop_eq_getElem_cons hlt
        rw [ed] at k2
        generalize ds[i] = d at *
        have accz : acc.length < sizeLine := by rw [dps_len hx]; omega
        refine .inr ⟨hgo, fun H3 => ∃ G2 ρ2 ρ0 As2 acc xs, Ste K pins G2 H3 (wipe σ vs) ρ2 As2 ∧ ρ2 = wipeR ρ0 vs ∧ Sub G1 G2 ∧ G2 L = none ∧ L ∉ As2 ∧ H3 L = some (.lst acc) ∧ DpAll K G2 acc xs ∧ xs.length ≤ i + 1 ∧
          KontE K R pins σ G2 H3 (L :: As2) Q (lcFin vs ρ1 xs (lcL t c e vs (ds.drop (i + 1)) ρ2)), fun H3 h3 => ⟨ds.length - (i + 1), by omega, rfl, hlt, h3⟩, fun x H3 hx3 => ?_⟩
        obtain ⟨G3, g3, dx⟩ := hy x H3 hx3
        have s3 := s2.ext g3.ext (fun a _ z => nomatch z) g3.sub
        have e3 : Ext G2 H' (L :: As2) G3 H3 (L :: As2) := (g3.ext.frame (L :: As2)).perm (fun a => by simp) fun a ha => by simpa using ha
        have hL3 := g3.ext.keep L _ hL2 (fun z => nomatch z)
        have gL3 := g3.ext.frz L g2 (by rw [hL2]; exact fun z => nomatch z) (fun z => nomatch z)
        have hxs3 := dps_same g3.ext.sub hx
        -- one turn
        have k2 : KontE K R pins σ G2 H' (L :: As2) Q (lcFin vs ρ1 xs (match t.f d ρ2 with
          | none => .stuck
          | some ρ1 => (c ρ1).bindX fun b ρ2 => if b = true then (e ρ2).bindX fun o ρ3 => match o.dv with
              | some x => (lcL t c e vs (ds.drop (i + 1)) (wipeR ρ3 vs)).bindX fun xs ρ4 => .ok (x :: xs) ρ4
              | none => .stuck
            else lcL t c e vs (ds.drop (i + 1)) (wipeR ρ2 vs))) := k2
        cases ht : t.f d ρ2 with
        | none => rw [ht] at k2; exact k2.elim
        | some ρ4 =>
          rw [ht] at k2
          refine ⟨pins, G3, ρ2, As2, d, ρ4, s3, dx, ht, fun σ5 As5 s5 l5 ln5 w5 => ⟨(wipe_eq ln5 w5 hws).trans wipe_wipe, ?_⟩⟩
          have wσ : wipe σ5 vs = wipe σ vs := (wipe_eq ln5 w5 hws).trans wipe_wipe
          have k5 : KontE K R pins σ G3 H3 (L :: As5) Q (lcFin vs ρ1 xs ((c ρ4).bindX fun b ρ2 => if b = true then (e ρ2).bindX fun o ρ3 => match o.dv with
              | some x => (lcL t c e vs (ds.drop (i + 1)) (wipeR ρ3 vs)).bindX fun xs ρ4 => .ok (x :: xs) ρ4
              | none => .stuck
            else lcL t c e vs (ds.drop (i + 1)) (wipeR ρ2 vs))) := Kont.re k2 (e3.less fun a ha => by
              rcases List.mem_cons.mp ha with z | z
              · rw [z]; exact List.mem_cons_self
              · exact List.mem_cons_of_mem _ (l5 a z))
          have nL5 : L ∉ As5 := fun z => n2 (l5 L z)
          refine ⟨pins, G3, ρ4, As5, s5, ?_⟩
          cases hc : c ρ4 with
          | er c o ρ => rw [hc] at k5; exact k5.elim
          | stuck => rw [hc] at k5; exact k5.elim
          | ok b ρ6 =>
            rw [hc] at k5
            intro G6 H6 As6 b' Bs6 e6 nd6 r6 s6
            obtain ⟨rfl, rfl⟩ := r6
            have e6 : Ext G3 H3 As5 G6 H6 As6 := e6
            have hL6 := e6.keep L _ hL3 nL5
            have gL6 := e6.frz L gL3 (by rw [hL3]; exact fun z => nomatch z) nL5
            have nL6 : L ∉ As6 := fun z => by
              rcases e6.own L z with w | w
              · exact nL5 w
              · rw [hL3] at w; cases w
            have k6 := Kont.re k5 (e6.frame [L])
            have hxs6 := dps_same e6.sub hxs3
            cases b' with
            | true =>
              have k6 : KontE K R pins σ G6 H6 ([L] ++ As6) Q (lcFin vs ρ1 xs ((e ρ6).bindX fun o ρ3 => match o.dv with
                | some x => (lcL t c e vs (ds.drop (i + 1)) (wipeR ρ3 vs)).bindX fun xs ρ4 => .ok (x :: xs) ρ4
                | none => .stuck)) := k6
              show liftE K R0 e σ5 H6 _
              refine ⟨pins, G6, ρ6, As6, s6, ?_⟩
              cases he : e ρ6 with
              | er c o ρ => rw [he] at k6; exact k6.elim
              | stuck => rw [he] at k6; exact k6.elim
              | ok o ρ7 =>
                rw [he] at k6
                intro G7 H7 As7 y Bs7 e7 nd7 r7 s7
                have hL7 := e7.keep L _ hL6 nL6
                have gL7 := e7.frz L gL6 (by rw [hL6]; exact fun z => nomatch z) nL6
                have nL7 : L ∉ Bs7 ++ As7 := fun z => by
                  rcases e7.own L z with w | w
                  · exact nL6 w
                  · rw [hL6] at w; cases w
                have k7 := Kont.re k6 (e7.frame [L])
                have k7 : KontE K R pins σ G7 H7 ([L] ++ (Bs7 ++ As7)) Q (lcFin vs ρ1 xs (match o.dv with
                  | some x => (lcL t c e vs (ds.drop (i + 1)) (wipeR ρ7 vs)).bindX fun xs ρ4 => .ok (x :: xs) ρ4
                  | none => .stuck)) := k7
                cases hdv : o.dv with
                | none => rw [hdv] at k7; exact k7.elim
                | some z =>
                  rw [hdv] at k7
                  obtain ⟨G8, e8, sb8, d8⟩ := RepO.share r7 (List.nodup_append.mp nd7).1 s7.sub hdv
                  have s8 := s7.ext e8 (fun a ha hb => nd_disj nd7 a hb ha) sb8
                  obtain ⟨As9, s9, l9⟩ := s8.wiped vs
                  rw [wσ] at s9
                  refine ⟨acc, hL7, accz, G8, wipeR ρ7 vs, ρ7, As9, acc ++ [y], xs ++ [z], ?_, rfl, ((sb.trans g3.ext.sub).trans e6.sub).trans (e7.sub.trans e8.sub), ?_, ?_, upd_same, DpAll.app (dps_same (e7.sub.trans e8.sub) hxs6) (.cons d8 .nil), by rw [List.length_append]; show xs.length + 1 ≤ i + 1; omega, ?_⟩
                  · have eL : Ext G8 H7 [L] G8 (upd H7 L (.lst (acc ++ [y]))) [] := ⟨Sub.refl _, fun a u q n => by rw [upd_ne fun w => n (by rw [w]; exact List.mem_cons_self)]; exact q, fun _ q _ _ => q, fun a q => nomatch q⟩
                    refine s9.ext eL (fun a ha hb => ?_) fun a u q => ?_
                    · rw [List.mem_singleton.mp hb] at ha
                      exact nL7 (List.mem_append_right _ (l9 L ha))
                    · have hne : a ≠ L := fun w => by
                        subst w
                        have := e8.frz a gL7 (by rw [hL7]; exact fun z => nomatch z) fun w => nL7 (List.mem_append_left _ w)
                        rw [this] at q; cases q
                      rw [upd_ne hne]
                      exact sb8 a u q
                  · exact e8.frz L gL7 (by rw [hL7]; exact fun z => nomatch z) fun w => nL7 (List.mem_append_left _ w)
                  · exact fun w => nL7 (List.mem_append_right _ (l9 L w))
                  · have e9 : Ext G7 H7 ([L] ++ (Bs7 ++ As7)) G8 (upd H7 L (.lst (acc ++ [y]))) (L :: As9) := by
                      refine ⟨e8.sub, fun a u q n => ?_, fun a q h n => e8.frz a q h fun w => n (List.mem_append_right _ (List.mem_append_left _ w)), fun a q => .inl ?_⟩
                      · rw [upd_ne fun w => n (by rw [w]; exact List.mem_append_left _ List.mem_cons_self)]
                        exact q
                      · rcases List.mem_cons.mp q with w | w
                        · rw [w]; exact List.mem_append_left _ List.mem_cons_self
                        · exact List.mem_append_right _ (List.mem_append_right _ (l9 a w))
                    have k9 := Kont.re k7 e9
                    cases hll : lcL t c e vs (ds.drop (i + 1)) (wipeR ρ7 vs) with
                    | ok ys ρ10 =>
                      have k9' : KontE K R pins σ G8 (upd H7 L (.lst (acc ++ [y]))) (L :: As9) Q (lcFin vs ρ1 xs ((lcL t c e vs (ds.drop (i + 1)) (wipeR ρ7 vs)).bindX fun xs ρ4 => .ok (z :: xs) ρ4)) := k9
                      rw [hll] at k9'
                      show KontE K R pins σ _ _ _ Q (.ok (.ls ((xs ++ [z]) ++ ys)) (restF ρ1 vs ρ10))
                      rw [List.append_assoc]
                      exact k9'
                    | er cc oo rr =>
                      have k9' : KontE K R pins σ G8 (upd H7 L (.lst (acc ++ [y]))) (L :: As9) Q (lcFin vs ρ1 xs ((lcL t c e vs (ds.drop (i + 1)) (wipeR ρ7 vs)).bindX fun xs ρ4 => .ok (z :: xs) ρ4)) := k9
                      rw [hll] at k9'
                      exact k9'.elim
                    | stuck =>
                      have k9' : KontE K R pins σ G8 (upd H7 L (.lst (acc ++ [y]))) (L :: As9) Q (lcFin vs ρ1 xs ((lcL t c e vs (ds.drop (i + 1)) (wipeR ρ7 vs)).bindX fun xs ρ4 => .ok (z :: xs) ρ4)) := k9
                      rw [hll] at k9'
                      exact k9'.elim
            | false =>
              have k6 : KontE K R pins σ G6 H6 ([L] ++ As6) Q (lcFin vs ρ1 xs (lcL t c e vs (ds.drop (i + 1)) (wipeR ρ6 vs))) := k6
              obtain ⟨As9, s9, l9⟩ := s6.wiped vs
              rw [wσ] at s9
              refine ⟨G6, wipeR ρ6 vs, ρ6, As9, acc, xs, s9, rfl, (sb.trans g3.ext.sub).trans e6.sub, gL6, fun w => nL6 (l9 L w), hL6, hxs6, by omega, Kont.re k6 (Ext.refl.less fun a ha => ?_)⟩
              rcases List.mem_cons.mp ha with w | w
              · rw [w]; exact List.mem_append_left _ List.mem_cons_self
              · exact List.mem_append_right _ (l9 a w)
      · have ee : ds.drop i = [] := List.drop_eq_nil_of_le (by omega)
        rw [ee] at k2
        refine .inl ⟨w2 i (by omega), ?_⟩
        have k2 : KontE K R pins σ G2 H' (L :: As2) Q (.ok (.ls (xs ++ [])) (restF ρ1 vs ρ2)) := k2
        rw [List.append_nil] at k2
        have su : Ste K pins G2 H' σ ρ2 As2 := ⟨s2.slots.unwipe vs, s2.nd, s2.sub, by rw [hρ]; exact Pin.unwipe (by rw [← hρ]; exact s2.pin)⟩
        obtain ⟨Cs, sr, lr⟩ := Ste.rest s1 sb vs su
        exact Kont.now k2 sr (Bs := [L]) (fun a ha => by
          rcases List.mem_append.mp ha with z | z
          · rw [List.mem_singleton.mp z]; exact List.mem_cons_self
          · exact List.mem_cons_of_mem _ (lr a z)) (List.nodup_append.mpr ⟨by simp, sr.nd, fun a ha b hb z => by
            rw [List.mem_singleton.mp ha] at z; subst z; exact n2 (lr _ hb)⟩) (.ls g2 hL2 hx)
  · exact k1.elim
end
end Vs

namespace Vs
open PySem PySem.Spec PyProof.Rows L2 Ww

/-! ### a list, a dict of one's own is changed -/
def updS (i : Nat) (c : O) (ρ : En) : En := match ρ[i]? with
  | some (.val _) => ρ.set i (.val c)
  | some (.bor _) => ρ.set i (.bor c)
  | _ => ρ
def O.own : O → Prop
  | .dat _ => False
  | .tp _ => False
  | _ => True
section
variable {K : PySem.W.Frag} {R : RK} {pins σ : L2.St} {G H G' H' : Hp} {As Bs Cs T : List Addr} {Q : VK} {ρ : En} {X : Cx} {D : Ends}
theorem RepO.one {v : V} {o : O} {B : List Addr} (r : RepO K G H v o B) (h : o.own) : ∃ a, v = .ref a ∧ B = [a] := by
  cases r with
  | dat _ => exact h.elim
  | ls _ _ _ => exact ⟨_, rfl, rfl⟩
  | dk _ _ _ => exact ⟨_, rfl, rfl⟩
  | tp _ _ _ => exact h.elim
theorem Pin.keepB {i : Nat} {o c : O} (p : Pin pins σ ρ) (h : ρ[i]? = some (.bor o)) : Pin pins σ (ρ.set i (.bor c)) := by
  refine ⟨p.1, fun j hj => p.2 j ?_⟩
  by_cases e : i = j
  · subst e
    exact .inr ⟨o, h⟩
  · rw [List.getElem?_set_ne e] at hj
    exact hj
theorem getS_cases {i : Nat} {o : O} (h : getS ρ i = some o) : ρ[i]? = some (.val o) ∨ ρ[i]? = some (.bor o) := by
  unfold getS at h
  obtain ⟨s, h1, h2⟩ := Option.bind_eq_some_iff.mp h
  cases s with
  | no => cases h2
  | lent => cases h2
  | val x => cases (Option.some.inj h2 : x = o); exact .inl h1
  | bor x => cases (Option.some.inj h2 : x = o); exact .inr h1
theorem Ste.mut {i : Nat} {o : O} (s : Ste K pins G H σ ρ As) (h : getS ρ i = some o) (ho : o.own) : ∃ a, σ[i]? = some (some (.ref a)) ∧ RepO K G H (.ref a) o [a] ∧
    ∀ u o', RepO K G (upd H a u) (.ref a) o' [a] → ∃ Cs, Ste K pins G (upd H a u) σ (updS i o' ρ) Cs ∧ Ext G H As G (upd H a u) Cs := by
  obtain ⟨v, B, Cs, h1, h2, h3, h4, h5⟩ := Slots.out (y := .no) trivial s.slots h
  obtain ⟨a, rfl, rfl⟩ := h2.one ho
  refine ⟨a, h1, h2, fun u o' r' => ?_⟩
  have nd := h4 s.nd
  have na : a ∉ Cs := fun z => nd_disj nd a List.mem_cons_self z
  have ga : G a = none := (h2.there a List.mem_cons_self).2
  have e : Ext G H [a] G (upd H a u) [] := ⟨Sub.refl _, fun b x q n => by rw [upd_ne fun z => n (by rw [z]; exact List.mem_cons_self)]; exact q, fun _ q _ _ => q, fun _ z => nomatch z⟩
  have sub : Sub G (upd H a u) := fun b x q => by rw [upd_ne (ne_of_none q ga)]; exact s.sub b x q
  have h6 := h5.ext e fun b hb z => by rw [List.mem_singleton.mp z] at hb; exact na hb
  have hl : i < ρ.length := by
    rcases getS_cases h with z | z <;> exact (List.getElem?_eq_some_iff.mp z).1
  have e2 : ∀ Ds : List Addr, (∀ b, b ∈ Ds ↔ b ∈ [a] ++ Cs) → Ext G H As G (upd H a u) Ds := fun Ds hD =>
    ⟨Sub.refl _, fun b x q n => by rw [upd_ne fun z => n ((h3 b).2 (by rw [z]; exact List.mem_append_left _ List.mem_cons_self))]; exact q, fun _ q _ _ => q, fun b hb => .inl ((h3 b).2 ((hD b).1 hb))⟩
  rcases getS_cases h with z | z
  · obtain ⟨Ds, w1, w2, w3⟩ := Slots.into (z := .val o') rfl r' h6 (List.getElem?_set_self hl) trivial h1
    rw [List.set_set] at w1
    have eu : updS i o' ρ = ρ.set i (.val o') := by unfold updS; rw [z]
    exact ⟨Ds, ⟨by rw [eu]; exact w1, w3 nd, sub, by rw [eu]; exact s.pin.set trivial⟩, e2 Ds w2⟩
  · obtain ⟨Ds, w1, w2, w3⟩ := Slots.into (z := .bor o') rfl r' h6 (List.getElem?_set_self hl) trivial h1
    rw [List.set_set] at w1
    have eu : updS i o' ρ = ρ.set i (.bor o') := by unfold updS; rw [z]
    exact ⟨Ds, ⟨by rw [eu]; exact w1, w3 nd, sub, by rw [eu]; exact s.pin.keepB z⟩, e2 Ds w2⟩
end
def isL : Option O → Bool
  | some (.ls _) => true
  | _ => false
def isD : Option O → Bool
  | some (.dk _) => true
  | _ => false
/-- what a change gives: the new content, the answer -/
abbrev Ch := Option (O × PyData)
def finM (i : Nat) (r : Ch) (ρ : En) : Res := match r with
  | some (c, d) => .ok (.dat d) (updS i c ρ)
  | none => .stuck
def mm0 (i : Nat) (F : O → Ch) : EF := fun ρ => match getS ρ i with
  | some c => if isL (some c) = true then finM i (F c) ρ else .stuck
  | none => .stuck
/-- one argument, shared -/
def shE (f : EF) : En → Rs PyData := fun ρ => (f ρ).bind fun o ρ1 => match o.dv with
  | some d => .ok d ρ1
  | none => .stuck
def mm1 (i : Nat) (F : O → PyData → Ch) (f : EF) : EF := fun ρ => if isL (getS ρ i) = true then (shE f ρ).bind fun d ρ1 => match getS ρ1 i with
  | some c => finM i (F c d) ρ1
  | none => .stuck else .stuck
def mm2 (i : Nat) (F : O → PyData → PyData → Ch) (f g : EF) : EF := fun ρ => if isL (getS ρ i) = true then (shE f ρ).bind fun d ρ1 => (shE g ρ1).bind fun e ρ2 => match getS ρ2 i with
  | some c => finM i (F c d e) ρ2
  | none => .stuck else .stuck
def Mut0 (K : PySem.W.Frag) (r : V → List V → Hp → VK → Prop) (F : O → Ch) : Prop :=
  ∀ (G H : Hp) (a : Addr) (o o' : O) (d : PyData) (Q : VK), Sub G H → RepO K G H (.ref a) o [a] → F o = some (o', d) → o.own ∧ ((∀ u v, RepO K G (upd H a u) (.ref a) o' [a] → Dp K G v d → Q v (upd H a u)) → r (.ref a) [] H Q)
def Mut1 (K : PySem.W.Frag) (r : V → List V → Hp → VK → Prop) (F : O → PyData → Ch) : Prop :=
  ∀ (G H : Hp) (a : Addr) (x : V) (o o' : O) (e d : PyData) (Q : VK), Sub G H → F o e = some (o', d) → o.own ∧ (RepO K G H (.ref a) o [a] → Dp K G x e → (∀ u v, RepO K G (upd H a u) (.ref a) o' [a] → Dp K G v d → Q v (upd H a u)) → r (.ref a) [x] H Q)
def Mut2 (K : PySem.W.Frag) (r : V → List V → Hp → VK → Prop) (F : O → PyData → PyData → Ch) : Prop :=
  ∀ (G H : Hp) (a : Addr) (x y : V) (o o' : O) (e f d : PyData) (Q : VK), Sub G H → F o e f = some (o', d) → o.own ∧ (RepO K G H (.ref a) o [a] → Dp K G x e → Dp K G y f → (∀ u v, RepO K G (upd H a u) (.ref a) o' [a] → Dp K G v d → Q v (upd H a u)) → r (.ref a) [x, y] H Q)
abbrev relD (K : PySem.W.Frag) : L2.St → Hp → Hp → V → PyData → List Addr → Prop := fun _ G _ v d Bs => Bs = [] ∧ Dp K G v d
abbrev liftD (K : PySem.W.Frag) (R : RK) (f : En → Rs PyData) : TE := lift (relD K) K R f
section
variable {K : PySem.W.Frag} {R : RK} {pins σ : L2.St} {G H G' H' : Hp} {As Bs Cs T : List Addr} {Q : VK} {ρ : En} {X : Cx} {D : Ends}
theorem shE_le {f : EF} {α : Type} {rel2 : Hp → Hp → V → O → List Addr → Prop} (σ : L2.St) (H : Hp) (Q : VK) (h : liftD K R (shE f) σ H Q) : liftE K R f σ H Q := by
  obtain ⟨pins, G, ρ, As, s, k⟩ := h
  refine ⟨pins, G, ρ, As, s, ?_⟩
  refine Kont.bind (T := []) (Q := Q) s.nd (fun a z => nomatch z) k fun o ρ1 G1 H1 As1 v Bs e1 nd1 r1 s1 k1 => ?_
  have nd1' : (Bs ++ As1).Nodup := by simpa using nd1
  split at k1
  · rename_i d hd
    obtain ⟨G2, e2, s2, d2⟩ := RepO.share r1 (List.nodup_append.mp nd1').1 s1.sub hd
    have st := s1.ext e2 (fun a ha hb => nd_disj nd1' a hb ha) s2
    have e3 : Ext G1 H1 ([] ++ (Bs ++ As1)) G2 H1 ([] ++ As1) := (e2.frame As1).perm (fun a => by simp only [List.mem_append, List.nil_append]; exact Or.comm) fun a ha => by simpa using ha
    exact k1 G2 H1 As1 v [] e3 st.nd ⟨rfl, d2⟩ st
  · exact k1.elim
theorem finM_ok {i : Nat} {c : O} {r : Ch} (s : Ste K pins G H σ ρ As) (hc : getS ρ i = some c) (k : KontE K R pins σ G H As Q (finM i r ρ)) : ∃ o' d, r = some (o', d) ∧ (c.own → ∃ a, σ[i]? = some (some (.ref a)) ∧ RepO K G H (.ref a) c [a] ∧ ∀ u v, RepO K G (upd H a u) (.ref a) o' [a] → Dp K G v d → Q v (upd H a u)) := by
  unfold finM at k
  split at k
  · rename_i o' d
    refine ⟨o', d, rfl, fun ho => ?_⟩
    obtain ⟨a, h1, h2, h3⟩ := s.mut hc ho
    refine ⟨a, h1, h2, fun u v r' dv => ?_⟩
    obtain ⟨Cs, w1, w2⟩ := h3 u o' r'
    exact k G _ Cs v [] w2 w1.nd (.dat dv) w1
  · exact k.elim
theorem ty_ls {i : Nat} (s : Ste K pins G H σ ρ As) (h : isL (getS ρ i) = true) : ∃ v, σ[i]? = some (some v) ∧ tyV K "list" v H := by
  cases hc : getS ρ i with
  | none => rw [hc] at h; cases h
  | some c =>
    obtain ⟨v, hv⟩ := s.slots.has hc
    obtain ⟨B, r, _⟩ := s.slots.at hv hc
    rw [hc] at h
    cases c with
    | dat d => cases h
    | dk _ => cases h
    | tp _ => cases h
    | ls ds =>
      cases r with
      | ls h1 h2 h3 => exact ⟨_, hv, .inl ⟨rfl, _, SqL.of h2⟩⟩
theorem mm0_le {i : Nat} {r : V → List V → Hp → VK → Prop} {F : O → Ch} (p : Mut0 K r F) (σ : L2.St) (H : Hp) (Q : VK) (h : liftE K R (mm0 i F) σ H Q) : tBM0 K "list" r (tVar i) σ H Q := by
  obtain ⟨pins, G, ρ, As, s, k⟩ := h
  have k : KontE K R pins σ G H As Q (match getS ρ i with
    | some c => if isL (some c) = true then finM i (F c) ρ else .stuck
    | none => .stuck) := k
  split at k
  · rename_i c hc
    split at k
    · rename_i hl
      obtain ⟨o', d, e1, w⟩ := finM_ok s hc k
      obtain ⟨v, hv, ty⟩ := ty_ls (i := i) s (by rw [hc]; exact hl)
      have ho : c.own := by cases c <;> first | trivial | cases hl
      obtain ⟨a, h1, h2, h3⟩ := w ho
      rw [hv] at h1
      cases (Option.some.inj (Option.some.inj h1))
      exact ⟨_, hv, ty, (p G H a c o' d Q s.sub h2 e1).2 h3⟩
    · exact k.elim
  · exact k.elim
theorem mm1_le {i : Nat} {r : V → List V → Hp → VK → Prop} {F : O → PyData → Ch} {f : EF} (p : Mut1 K r F) (σ : L2.St) (H : Hp) (Q : VK) (h : liftE K R (mm1 i F f) σ H Q) : tBM K "list" r (tVar i) (tCons (liftE K R f) tNil) σ H Q := by
  obtain ⟨pins, G, ρ, As, s, k⟩ := h
  have k : KontE K R pins σ G H As Q (if isL (getS ρ i) = true then (shE f ρ).bind fun d ρ1 => match getS ρ1 i with
    | some c => finM i (F c d) ρ1
    | none => .stuck else .stuck) := k
  split at k
  · rename_i hl
    obtain ⟨v, hv, ty⟩ := ty_ls (i := i) s hl
    refine ⟨v, hv, ty, shE_le (α := Nat) (rel2 := RepO K) σ H _ ⟨pins, G, ρ, As, s, ?_⟩⟩
    refine Kont.bind (T := []) (Q := Q) s.nd (fun a z => nomatch z) k fun e ρ1 G1 H1 As1 x Bs e1 nd1 r1 s1 k1 => ?_
    obtain ⟨rfl, dx⟩ := r1
    split at k1
    · rename_i c hc
      obtain ⟨o', d, e2, w⟩ := finM_ok s1 hc (by simpa using k1)
      have q := p G1 H1
      obtain ⟨ho, _⟩ := q 0 x c o' e d Q s1.sub e2
      obtain ⟨a, h1, h2, h3⟩ := w ho
      rw [hv] at h1
      cases (Option.some.inj (Option.some.inj h1))
      exact (q a x c o' e d Q s1.sub e2).2 h2 dx h3
    · exact k1.elim
  · exact k.elim
theorem mm2_le {i : Nat} {r : V → List V → Hp → VK → Prop} {F : O → PyData → PyData → Ch} {f g : EF} (p : Mut2 K r F) (σ : L2.St) (H : Hp) (Q : VK) (h : liftE K R (mm2 i F f g) σ H Q) : tBM K "list" r (tVar i) (tCons (liftE K R f) (tCons (liftE K R g) tNil)) σ H Q := by
  obtain ⟨pins, G, ρ, As, s, k⟩ := h
  have k : KontE K R pins σ G H As Q (if isL (getS ρ i) = true then (shE f ρ).bind fun d ρ1 => (shE g ρ1).bind fun e ρ2 => match getS ρ2 i with
    | some c => finM i (F c d e) ρ2
    | none => .stuck else .stuck) := k
  split at k
  · rename_i hl
    obtain ⟨v, hv, ty⟩ := ty_ls (i := i) s hl
    refine ⟨v, hv, ty, shE_le (α := Nat) (rel2 := RepO K) σ H _ ⟨pins, G, ρ, As, s, ?_⟩⟩
    refine Kont.bind (T := []) (Q := Q) s.nd (fun a z => nomatch z) k fun e ρ1 G1 H1 As1 x Bs e1 nd1 r1 s1 k1 => ?_
    obtain ⟨rfl, dx⟩ := r1
    refine shE_le (α := Nat) (rel2 := RepO K) σ H1 _ ⟨pins, G1, ρ1, As1, s1, ?_⟩
    refine Kont.bind (T := []) (Q := Q) s1.nd (fun a z => nomatch z) (by simpa using k1) fun e' ρ2 G2 H2 As2 y Bs2 e2 nd2 r2 s2 k2 => ?_
    obtain ⟨rfl, dy⟩ := r2
    split at k2
    · rename_i c hc
      obtain ⟨o', d, e3, w⟩ := finM_ok s2 hc (by simpa using k2)
      have q := p G2 H2
      obtain ⟨ho, _⟩ := q 0 x y c o' e e' d Q s2.sub e3
      obtain ⟨a, h1, h2, h3⟩ := w ho
      rw [hv] at h1
      cases (Option.some.inj (Option.some.inj h1))
      exact (q a x y c o' e e' d Q s2.sub e3).2 h2 (dp_same (e2.sub) dx) dy h3
    · exact k2.elim
  · exact k.elim
end
/-! the methods of lists -/
def appO : O → PyData → Ch
  | .ls ds, d => if ds.length < sizeLine then some (.ls (ds ++ [d]), .none) else none
  | _, _ => none
def popO : O → Ch
  | .ls ds => match ds.getLast? with
    | some d => some (.ls ds.dropLast, d)
    | none => none
  | _ => none
def popAtO : O → PyData → Ch
  | .ls ds, .int i => if -(2 ^ 63) ≤ i ∧ i < 2 ^ 63 then (seqIndex? i ds.length).bind fun k => (ds[k]?).map fun d => (.ls (ds.eraseIdx k), d) else none
  | _, _ => none
def clearO : O → Ch
  | .ls _ => some (.ls [], .none)
  | _ => none
def revO : O → Ch
  | .ls ds => some (.ls ds.reverse, .none)
  | _ => none
section
variable {K : PySem.W.Frag} {G H : Hp}
theorem ls_inv {a : Addr} {ds : List PyData} {B : List Addr} (r : RepO K G H (.ref a) (.ls ds) B) : ∃ vs, G a = none ∧ H a = some (.lst vs) ∧ DpAll K G vs ds := by
  cases r with
  | ls h1 h2 h3 => exact ⟨_, h1, h2, h3⟩
theorem mut_append : Mut1 K rAppend appO := by
  intro G H a x o o' e d Q s h
  unfold appO at h
  split at h
  · split at h
    · rename_i ds hz
      cases Option.some.inj h
      refine ⟨trivial, fun r dx k => ?_⟩
      obtain ⟨vs, h1, h2, h3⟩ := ls_inv r
      exact ⟨a, vs, x, rfl, rfl, h2, by rw [dps_len h3]; exact hz, k _ _ (.ls h1 upd_same (DpAll.app h3 (.cons dx .nil))) .non⟩
    · cases h
  · cases h
theorem mut_pop : Mut0 K rPop popO := by
  intro G H a o o' d Q s r h
  unfold popO at h
  split at h
  · rename_i ds
    split at h
    · rename_i e he
      cases Option.some.inj h
      refine ⟨trivial, fun k => ?_⟩
      obtain ⟨vs, h1, h2, h3⟩ := ls_inv r
      rw [List.getLast?_eq_getElem?] at he
      obtain ⟨v, hv, dv⟩ := DpAll.get h3 he
      exact ⟨a, vs, v, rfl, rfl, h2, by rw [dps_len h3]; exact hv, k _ _ (.ls h1 upd_same (DpAll.dropLast h3)) dv⟩
    · cases h
  · cases h
theorem mut_popAt : Mut1 K rPopAt popAtO := by
  intro G H a x o o' e d Q s h
  unfold popAtO at h
  split at h
  · split at h
    · rename_i ds i hz
      obtain ⟨j, hj, h⟩ := Option.bind_eq_some_iff.mp h
      obtain ⟨y, hy, h⟩ := Option.map_eq_some_iff.mp h
      cases h
      refine ⟨trivial, fun r dx k => ?_⟩
      obtain ⟨vs, h1, h2, h3⟩ := ls_inv r
      obtain ⟨v, hv, dv⟩ := DpAll.get h3 hy
      cases dx
      exact ⟨a, vs, i, j, v, rfl, rfl, h2, hz.1, hz.2, by rw [dps_len h3]; exact hj, hv, k _ _ (.ls h1 upd_same (DpAll.erase _ h3)) dv⟩
    · cases h
  · cases h
theorem mut_clear : Mut0 K rClear clearO := by
  intro G H a o o' d Q s r h
  unfold clearO at h
  split at h
  · cases Option.some.inj h
    refine ⟨trivial, fun k => ?_⟩
    obtain ⟨vs, h1, h2, h3⟩ := ls_inv r
    exact ⟨a, vs, rfl, rfl, h2, k _ _ (.ls h1 upd_same .nil) .non⟩
  · cases h
theorem mut_rev : Mut0 K rReverse revO := by
  intro G H a o o' d Q s r h
  unfold revO at h
  split at h
  · cases Option.some.inj h
    refine ⟨trivial, fun k => ?_⟩
    obtain ⟨vs, h1, h2, h3⟩ := ls_inv r
    exact ⟨a, vs, rfl, rfl, h2, k _ _ (.ls h1 upd_same (DpAll.rev h3)) .non⟩
  · cases h
end
end Vs

namespace Vs
open PySem PySem.Spec PyProof.Rows L2 Ww

/-! ### several names at once -/
def par2S (i j : Nat) (g : AF) : SF := fun ρ => (g ρ).bindS fun os ρ1 => match os with
  | [a, b] => match (stO i a ρ1).bind (stO j b) with
    | some ρ2 => .nx ρ2
    | none => .stuck
  | _ => .stuck
def par3S (i j l : Nat) (g : AF) : SF := fun ρ => (g ρ).bindS fun os ρ1 => match os with
  | [a, b, c] => match ((stO i a ρ1).bind (stO j b)).bind (stO l c) with
    | some ρ2 => .nx ρ2
    | none => .stuck
  | _ => .stuck
section
variable {K : PySem.W.Frag} {R : RK} {pins σ : L2.St} {G H G' H' : Hp} {As Bs Cs T : List Addr} {Q : VK} {ρ : En} {X : Cx} {D : Ends}
/-- a store while C is still held -/
theorem Ste.putT {i : Nat} {v : V} {o : O} {B C : List Addr} {ρ' : En} (s : Ste K pins G H σ ρ As) (q : RepO K G H v o B) (nd : (B ++ (C ++ As)).Nodup) (h : stO i o ρ = some ρ') : ∃ Cs, Ste K pins G H (σ.set i (some v)) ρ' Cs ∧ (∀ a ∈ Cs, a ∈ B ++ As) ∧ (C ++ Cs).Nodup := by
  have nd2 := nd_swap nd
  obtain ⟨Cs, w1, w2⟩ := s.put q (List.nodup_append.mp nd2).2.1 h
  exact ⟨Cs, w1, w2, List.nodup_append.mpr ⟨(List.nodup_append.mp nd2).1, w1.nd, fun a ha b hb => (List.nodup_append.mp nd2).2.2 a ha b (w2 b hb)⟩⟩
theorem s_par2 {st : Stmt} {i j : Nat} {g : AF} (h : PS X st (tPar i j (liftA X.K R g))) : PS X st (liftS X.K R (par2S i j g)) := by
  refine PS.weak h fun D σ H ⟨pins, G, ρ, As, s, k⟩ => ⟨pins, G, ρ, As, s, ?_⟩
  refine Kont.bindS k fun os ρ1 G1 H1 As1 vs Bs e1 nd1 r1 s1 k1 => ?_
  split at k1
  · rename_i a b
    split at k1
    · rename_i ρ2 h2
      obtain ⟨ρ3, h3, h4⟩ := Option.bind_eq_some_iff.mp h2
      cases r1 with
      | @cons v vs _ _ B Bs' ra r1 =>
        cases r1 with
        | @cons w vs _ _ C Bs'' rb r1 =>
          cases r1
          have nd1' : (B ++ (C ++ As1)).Nodup := by simpa using nd1
          obtain ⟨Cs, s3, l3, n3⟩ := s1.putT ra nd1' h3
          obtain ⟨Ds, s4, l4⟩ := s3.put rb n3 h4
          refine ⟨v, w, rfl, KontS.now k1 s4 fun a z => ?_⟩
          rcases List.mem_append.mp (l4 a z) with w | w
          · simp [w]
          · rcases List.mem_append.mp (l3 a w) with w | w <;> simp [w]
    · exact k1.elim
  · exact k1.elim
theorem s_par3 {st : Stmt} {i j l : Nat} {g : AF} (h : PS X st (tPar3 i j l (liftA X.K R g))) : PS X st (liftS X.K R (par3S i j l g)) := by
  refine PS.weak h fun D σ H ⟨pins, G, ρ, As, s, k⟩ => ⟨pins, G, ρ, As, s, ?_⟩
  refine Kont.bindS k fun os ρ1 G1 H1 As1 vs Bs e1 nd1 r1 s1 k1 => ?_
  split at k1
  · rename_i a b c
    split at k1
    · rename_i ρ2 h2
      obtain ⟨ρ4, h2, h5⟩ := Option.bind_eq_some_iff.mp h2
      obtain ⟨ρ3, h3, h4⟩ := Option.bind_eq_some_iff.mp h2
      cases r1 with
      | @cons v vs _ _ B Bs' ra r1 =>
        cases r1 with
        | @cons w vs _ _ C Bs'' rb r1 =>
          cases r1 with
          | @cons u vs _ _ E Bs3 rc r1 =>
            cases r1
            have nd1' : (B ++ ((C ++ E) ++ As1)).Nodup := by simpa using nd1
            obtain ⟨Cs, s3, l3, n3⟩ := s1.putT ra nd1' h3
            obtain ⟨Ds, s4, l4, n4⟩ := s3.putT rb (by simpa using n3) h4
            obtain ⟨Es, s5, l5⟩ := s4.put rc n4 h5
            refine ⟨v, w, u, rfl, KontS.now k1 s5 fun a z => ?_⟩
            rcases List.mem_append.mp (l5 a z) with w | w
            · simp [w]
            · rcases List.mem_append.mp (l4 a w) with w | w
              · simp [w]
              · rcases List.mem_append.mp (l3 a w) with w | w <;> simp [w]
    · exact k1.elim
  · exact k1.elim
end

/-! ### what is walked -/
def dvI (o : O) : Option Int := match o with
  | .dat (.int i) => some i
  | _ => none
def rng1 (f : PF) : IF := fun ρ => (f ρ).bind fun p ρ1 => match (p.get ρ1).bind dvI with
  | some n => if -(2 ^ 62) ≤ n ∧ n < 2 ^ 62 then .ok ((List.range n.toNat).map fun i : Nat => .int ((0 : Int) + (i : Int))) ρ1 else .stuck
  | none => .stuck
def rng2 (f g : PF) : IF := fun ρ => (f ρ).bind fun p ρ1 => (g ρ1).bind fun q ρ2 => match (p.get ρ2).bind dvI, (q.get ρ2).bind dvI with
  | some m, some n => if -(2 ^ 62) ≤ m ∧ m < 2 ^ 62 ∧ -(2 ^ 62) ≤ n ∧ n < 2 ^ 62 then .ok ((List.range (n - m).toNat).map fun i : Nat => .int (m + (i : Int))) ρ2 else .stuck
  | _, _ => .stuck
def strI (f : EF) : IF := fun ρ => (f ρ).bind fun o ρ1 => match o with
  | .dat (.str z) => .ok (z.cps.toList.map fun c => .str ⟨#[c]⟩) ρ1
  | _ => .stuck
def zipI (f g : EF) : IF := fun ρ => (shE f ρ).bind fun a ρ1 => (shE g ρ1).bind fun b ρ2 => match a, b with
  | .list xs, .list ys => .ok ((xs.zip ys).map fun z => .tuple [z.1, z.2]) ρ2
  | .tuple xs, .tuple ys => .ok ((xs.zip ys).map fun z => .tuple [z.1, z.2]) ρ2
  | _, _ => .stuck
def enuI (f : EF) : IF := fun ρ => (shE f ρ).bind fun a ρ1 => match a with
  | .list xs => .ok ((xs.zipIdx).map fun z => .tuple [.int ((z.2 : Nat) : Int), z.1]) ρ1
  | _ => .stuck
section
variable {K : PySem.W.Frag} {R : RK} {pins σ : L2.St} {G H G' H' : Hp} {As Bs Cs T : List Addr} {Q : VK} {ρ : En} {X : Cx} {D : Ends}
theorem dvI_of {o : O} {i : Int} (h : dvI o = some i) : o = .dat (.int i) := by
  unfold dvI at h
  split at h
  · cases Option.some.inj h; rfl
  · cases h
theorem PI.weak {tg e : Expr} {t t' : TI} (h : PI X tg e t) (k : ∀ σ H Rr, t' σ H Rr → t σ H Rr) : PI X tg e t' := ⟨fun pins s σ H Rr I q => h.run pins s σ H Rr I (k σ H Rr q)⟩
theorem pa_one {e : Expr} {t : TE} (h : PE X e t) (hs : starEach [e] X.env = (false, eval e X.env) :: starEach [] X.env := by rfl) : PA X [e] (tCons t tNil) := pa_cons h pa_nil hs
theorem i_rng1 {tg a : Expr} {f : PF} {p pos : Pos} (hg : Gl X "range") (hm : X.mg "range" = none) (ha : PE X a (liftP X.K R f)) (hs : starEach [a] X.env = [(false, eval a X.env)] := by rfl) : PI X tg (.Call (.Name "range" p) [a] [] pos) (liftI X.K R (rng1 f)) := by
  refine PI.weak (pi_range1 hg hm (pa_one ha hs) hs) fun σ H Rr ⟨pins, G, ρ, As, s, k⟩ => ⟨pins, G, ρ, As, s, ?_⟩
  refine Kont.bind (T := []) (Q := Rr) s.nd (fun a z => nomatch z) k fun q ρ1 G1 H1 As1 v Bs e1 nd1 r1 s1 k1 => ?_
  split at k1
  · rename_i n hn
    split at k1
    · rename_i hz
      obtain ⟨o, h1, h2⟩ := Option.bind_eq_some_iff.mp hn
      obtain ⟨Cs, rc⟩ := RepP.get r1 s1 h1
      rw [dvI_of h2] at rc
      exact ⟨n, by rw [dat_int rc], hz.1, hz.2, Kont.now k1 s1 (Bs := []) (fun a z => List.mem_append_right _ (List.mem_append_right _ z)) s1.nd ⟨rfl, walk_range⟩⟩
    · exact k1.elim
  · exact k1.elim
theorem i_rng2 {tg a b : Expr} {f g : PF} {p pos : Pos} (hg : Gl X "range") (hm : X.mg "range" = none) (ha : PE X a (liftP X.K R f)) (hb : PE X b (liftP X.K R g)) (hs : starEach [a, b] X.env = [(false, eval a X.env), (false, eval b X.env)] := by rfl) (hs2 : starEach [b] X.env = [(false, eval b X.env)] := by rfl) : PI X tg (.Call (.Name "range" p) [a, b] [] pos) (liftI X.K R (rng2 f g)) := by
  refine PI.weak (pi_range2 hg hm (pa_cons ha (pa_one hb hs2) (by rw [hs, hs2])) hs hs2) fun σ H Rr ⟨pins, G, ρ, As, s, k⟩ => ⟨pins, G, ρ, As, s, ?_⟩
  refine Kont.bind (T := []) (Q := Rr) s.nd (fun a z => nomatch z) k fun q ρ1 G1 H1 As1 v Bs e1 nd1 r1 s1 k1 => ⟨pins, G1, ρ1, As1, s1, ?_⟩
  have nd1' : (Bs ++ As1).Nodup := by simpa using nd1
  refine Kont.bind (T := Bs) (Q := Rr) nd1' (RepP.there r1) (by simpa using k1) fun q2 ρ2 G2 H2 As2 v2 Bs2 e2 nd2 r2 s2 k2 => ?_
  have r1' := RepP.ext r1 e2 (nd_disj nd1')
  split at k2
  · rename_i m n hm hn
    split at k2
    · rename_i hz
      obtain ⟨o, h1, h2⟩ := Option.bind_eq_some_iff.mp hm
      obtain ⟨o', h1', h2'⟩ := Option.bind_eq_some_iff.mp hn
      obtain ⟨Cs, rc⟩ := RepP.get r1' s2 h1
      obtain ⟨Cs', rc'⟩ := RepP.get r2 s2 h1'
      rw [dvI_of h2] at rc
      rw [dvI_of h2'] at rc'
      exact ⟨m, n, by rw [dat_int rc, dat_int rc'], hz, Kont.now k2 s2 (Bs := []) (fun a z => by simp only [List.nil_append, List.mem_append] at z ⊢; exact .inr (.inr z)) s2.nd ⟨rfl, walk_range⟩⟩
    · exact k2.elim
  · exact k2.elim
theorem i_str {tg e : Expr} {f : EF} (h : PE X e (liftE X.K R f)) : PI X tg e (liftI X.K R (strI f)) := by
  refine PI.weak (pi_str (tg := tg) h) fun σ H Rr ⟨pins, G, ρ, As, s, k⟩ => ⟨pins, G, ρ, As, s, ?_⟩
  refine Kont.bind (T := []) (Q := Rr) s.nd (fun a z => nomatch z) k fun o ρ1 G1 H1 As1 v Bs e1 nd1 r1 s1 k1 => ?_
  split at k1
  · rename_i z
    refine ⟨z, dat_str r1, Kont.now k1 s1 (Bs := []) (fun a z => List.mem_append_right _ (List.mem_append_right _ z)) s1.nd ⟨rfl, fun G' H' sa sb => ⟨fun i d hi => ?_, fun i hi => ?_⟩⟩⟩
    · obtain ⟨c, hc, rfl⟩ := Option.map_eq_some_iff.mp (by rw [List.getElem?_map] at hi; exact hi)
      have hc' : z.cps[i]? = some c := by simpa using hc
      refine ⟨(Array.getElem?_eq_some_iff.mp hc').1, fun x H2 ⟨e, c', hc2, ex⟩ => ?_⟩
      subst e ex
      rw [hc'] at hc2
      cases Option.some.inj hc2
      exact ⟨G', Grow.same sb, .str _⟩
    · show z.cps.size ≤ i
      simpa using hi
  · exact k1.elim
/-- items of a loop that makes a pair a turn -/
theorem walk_pairs {α : Type} {J : It} {zs : List α} {x y : α → PyData} {vx vy : α → V} (hx : ∀ z ∈ zs, Dp K G (vx z) (x z)) (hy : ∀ z ∈ zs, Dp K G (vy z) (y z))
    (hgo : ∀ G' H', Sub G G' → Sub G' H' → (∀ (i : Nat) z, zs[i]? = some z → J.go i H' ∧ ∀ v H2, J.yld i H' v H2 → ∃ T, v = .ref T ∧ H' T = none ∧ H2 = upd H' T (.tup [vx z, vy z])) ∧ ∀ i, zs.length ≤ i → J.stop i H') : WalkF K G J (zs.map fun z => .tuple [x z, y z]) := by
  intro G' H' s1 s2
  obtain ⟨h1, h2⟩ := hgo G' H' s1 s2
  refine ⟨fun i d hi => ?_, fun i hi => h2 i (by simpa using hi)⟩
  rw [List.getElem?_map] at hi
  obtain ⟨z, hz, rfl⟩ := Option.map_eq_some_iff.mp hi
  obtain ⟨hg, hy'⟩ := h1 i z hz
  refine ⟨hg, fun v H2 e => ?_⟩
  obtain ⟨T, rfl, nT, rfl⟩ := hy' v H2 e
  have m := List.mem_of_getElem? hz
  have dd : DpAll K G' [vx z, vy z] [x z, y z] := .cons (dp_same s1 (hx z m)) (.cons (dp_same s1 (hy z m)) .nil)
  refine ⟨_, grow_sh s2 nT, ?_⟩
  cases sh_tup s2 nT dd with
  | dat q => exact q
theorem zip_at {α β : Type} {xs : List α} {ys : List β} {i : Nat} {z : α × β} (h : (xs.zip ys)[i]? = some z) : xs[i]? = some z.1 ∧ ys[i]? = some z.2 := by
  rw [List.getElem?_zip_eq_some] at h
  exact h
theorem dps_zip {vs ws : List V} {xs ys : List PyData} (hx : DpAll K G vs xs) (hy : DpAll K G ws ys) {i : Nat} {z : PyData × PyData} (h : (xs.zip ys)[i]? = some z) : ∃ v w, vs[i]? = some v ∧ ws[i]? = some w ∧ Dp K G v z.1 ∧ Dp K G w z.2 := by
  obtain ⟨h1, h2⟩ := zip_at h
  obtain ⟨v, a, b⟩ := DpAll.get hx h1
  obtain ⟨w, c, d⟩ := DpAll.get hy h2
  exact ⟨v, w, a, c, b, d⟩
theorem walk_tups {J : It} {ds : List PyData} (h : ∀ G' H', Sub G G' → Sub G' H' → (∀ (i : Nat) d, ds[i]? = some d → J.go i H' ∧ ∀ v H2, J.yld i H' v H2 → ∃ T vs xs, v = .ref T ∧ H' T = none ∧ H2 = upd H' T (.tup vs) ∧ d = .tuple xs ∧ DpAll K G' vs xs) ∧ ∀ i, ds.length ≤ i → J.stop i H') : WalkF K G J ds := by
  intro G' H' s1 s2
  obtain ⟨h1, h2⟩ := h G' H' s1 s2
  refine ⟨fun i d hi => ?_, h2⟩
  obtain ⟨hg, hy⟩ := h1 i d hi
  refine ⟨hg, fun v H2 e => ?_⟩
  obtain ⟨T, vs, xs, rfl, nT, rfl, rfl, dd⟩ := hy v H2 e
  refine ⟨_, grow_sh s2 nT, ?_⟩
  cases sh_tup s2 nT dd with
  | dat q => exact q
theorem walk_zipL {a b : Addr} {vs ws : List V} {xs ys : List PyData} (ha : SqL K G a vs) (hb : SqL K G b ws) (hx : DpAll K G vs xs) (hy : DpAll K G ws ys) : WalkF K G (Itz K a b) ((xs.zip ys).map fun z => .tuple [z.1, z.2]) := by
  refine walk_tups fun G' H' s1 s2 => ?_
  have hA := s2.seq (s1.seq ha)
  have hB := s2.seq (s1.seq hb)
  refine ⟨fun i d hi => ?_, fun i hi => ⟨vs, ws, hA, hB, ?_⟩⟩
  · rw [List.getElem?_map] at hi
    obtain ⟨z, hz, rfl⟩ := Option.map_eq_some_iff.mp hi
    obtain ⟨v, w, h1, h2, d1, d2⟩ := dps_zip hx hy hz
    refine ⟨⟨vs, ws, v, w, hA, hB, h1, h2⟩, fun u H2 ⟨T, x, y, e1, e2, e3, q1, q2⟩ => ?_⟩
    have ex := q1 vs hA
    have ey := q2 ws hB
    rw [h1] at ex
    rw [h2] at ey
    cases Option.some.inj ex
    cases Option.some.inj ey
    exact ⟨T, _, _, e1, e2, e3, rfl, .cons (dp_same s1 d1) (.cons (dp_same s1 d2) .nil)⟩
  · have l1 := dps_len hx
    have l2 := dps_len hy
    rw [List.length_map, List.length_zip] at hi
    omega
theorem walk_zipT {a b : Addr} {vs ws : List V} {xs ys : List PyData} (ha : SqT K G a vs) (hb : SqT K G b ws) (hx : DpAll K G vs xs) (hy : DpAll K G ws ys) : WalkF K G (RZ.ItzT K a b) ((xs.zip ys).map fun z => .tuple [z.1, z.2]) := by
  refine walk_tups fun G' H' s1 s2 => ?_
  have hA := s2.sqt (s1.sqt ha)
  have hB := s2.sqt (s1.sqt hb)
  refine ⟨fun i d hi => ?_, fun i hi => ⟨vs, ws, hA, hB, ?_⟩⟩
  · rw [List.getElem?_map] at hi
    obtain ⟨z, hz, rfl⟩ := Option.map_eq_some_iff.mp hi
    obtain ⟨v, w, h1, h2, d1, d2⟩ := dps_zip hx hy hz
    refine ⟨⟨vs, ws, v, w, hA, hB, h1, h2⟩, fun u H2 ⟨T, x, y, e1, e2, e3, q1, q2⟩ => ?_⟩
    have ex := q1 vs hA
    have ey := q2 ws hB
    rw [h1] at ex
    rw [h2] at ey
    cases Option.some.inj ex
    cases Option.some.inj ey
    exact ⟨T, _, _, e1, e2, e3, rfl, .cons (dp_same s1 d1) (.cons (dp_same s1 d2) .nil)⟩
  · have l1 := dps_len hx
    have l2 := dps_len hy
    rw [List.length_map, List.length_zip] at hi
    omega
theorem i_zip {e e2 : Expr} {f g : EF} {p pos tpos : Pos} {elts : List Expr} {kk : Nat} (hg : Gl X "zip") (hm : X.mg "zip" = none) (ha : PE X e (liftE X.K R f)) (hb : PE X e2 (liftE X.K R g))
    (hs : starEach [e, e2] X.env = (false, eval e X.env) :: starEach [e2] X.env := by rfl) (hs2 : starEach [e2] X.env = (false, eval e2 X.env) :: starEach [] X.env := by rfl) (hpl : (backTo pos (starEach [e2] X.env)).any (·.1) = false := by rfl) :
    PI X (.Tuple elts kk tpos) (.Call (.Name "zip" p) [e, e2] [] pos) (liftI X.K R (zipI f g)) := by
  refine PI.weak (RZ.pi_zipA hg hm (pa_cons ha (pa_one hb hs2) hs) hs hpl) fun σ H Rr ⟨pins, G, ρ, As, s, k⟩ => ?_
  refine shE_le (α := Nat) (rel2 := RepO X.K) σ H _ ⟨pins, G, ρ, As, s, ?_⟩
  refine Kont.bind (T := []) (Q := Rr) s.nd (fun a z => nomatch z) k fun d ρ1 G1 H1 As1 v Bs e1 nd1 r1 s1 k1 => ?_
  obtain ⟨rfl, dx⟩ := r1
  refine shE_le (α := Nat) (rel2 := RepO X.K) σ H1 _ ⟨pins, G1, ρ1, As1, s1, ?_⟩
  refine Kont.bind (T := []) (Q := Rr) s1.nd (fun a z => nomatch z) (by simpa using k1) fun d2 ρ2 G2 H2 As2 y Bs2 e2 nd2 r2 s2 k2 => ?_
  obtain ⟨rfl, dy⟩ := r2
  have dx := dp_same e2.sub dx
  split at k2
  · cases dx with
    | @lst a vs _ ha1 ha2 =>
      cases dy with
      | @lst b ws _ hb1 hb2 =>
        exact ⟨a, b, vs, ws, rfl, .inl ⟨s2.sub.seq ha1, s2.sub.seq hb1, Kont.now k2 s2 (Bs := []) (fun a z => by simpa using z) s2.nd ⟨rfl, walk_zipL ha1 hb1 ha2 hb2⟩⟩⟩
  · cases dx with
    | @tup a vs _ ha1 ha2 =>
      cases dy with
      | @tup b ws _ hb1 hb2 =>
        exact ⟨a, b, vs, ws, rfl, .inr ⟨s2.sub.sqt ha1, s2.sub.sqt hb1, Kont.now k2 s2 (Bs := []) (fun a z => by simpa using z) s2.nd ⟨rfl, walk_zipT ha1 hb1 ha2 hb2⟩⟩⟩
  · exact k2.elim
end
end Vs

namespace Vs
open PySem PySem.Spec PyProof.Rows L2 Ww

/-! ### lists of one sort -/
def allInt : List PyData → Option (List Int)
  | [] => some []
  | .int i :: r => (allInt r).map fun x => i :: x
  | _ => none
def allStr : List PyData → Option (List Str)
  | [] => some []
  | .str i :: r => (allStr r).map fun x => i :: x
  | _ => none
def allBl : List PyData → Option (List Bool)
  | [] => some []
  | .bool i :: r => (allBl r).map fun x => i :: x
  | _ => none
section
variable {K : PySem.W.Frag} {G H : Hp}
theorem allInt_map : ∀ ns : List Int, allInt (ns.map .int) = some ns
  | [] => rfl
  | n :: ns => by show (allInt (ns.map .int)).map _ = _; rw [allInt_map ns]; rfl
theorem allStr_map : ∀ ns : List Str, allStr (ns.map .str) = some ns
  | [] => rfl
  | n :: ns => by show (allStr (ns.map .str)).map _ = _; rw [allStr_map ns]; rfl
theorem allBl_map : ∀ ns : List Bool, allBl (ns.map .bool) = some ns
  | [] => rfl
  | n :: ns => by show (allBl (ns.map .bool)).map _ = _; rw [allBl_map ns]; rfl
theorem allInt_of : ∀ {ds : List PyData} {ns : List Int}, allInt ds = some ns → ds = ns.map .int
  | [], _, h => by cases Option.some.inj h; rfl
  | .int i :: r, _, h => by
    obtain ⟨x, h1, h2⟩ := Option.map_eq_some_iff.mp h
    subst h2
    rw [allInt_of h1]; rfl
  | .none :: _, _, h => nomatch h
  | .bool _ :: _, _, h => nomatch h
  | .str _ :: _, _, h => nomatch h
  | .list _ :: _, _, h => nomatch h
  | .tuple _ :: _, _, h => nomatch h
  | .dict _ :: _, _, h => nomatch h
theorem allStr_of : ∀ {ds : List PyData} {ns : List Str}, allStr ds = some ns → ds = ns.map .str
  | [], _, h => by cases Option.some.inj h; rfl
  | .str i :: r, _, h => by
    obtain ⟨x, h1, h2⟩ := Option.map_eq_some_iff.mp h
    subst h2
    rw [allStr_of h1]; rfl
  | .none :: _, _, h => nomatch h
  | .bool _ :: _, _, h => nomatch h
  | .int _ :: _, _, h => nomatch h
  | .list _ :: _, _, h => nomatch h
  | .tuple _ :: _, _, h => nomatch h
  | .dict _ :: _, _, h => nomatch h
theorem allBl_of : ∀ {ds : List PyData} {ns : List Bool}, allBl ds = some ns → ds = ns.map .bool
  | [], _, h => by cases Option.some.inj h; rfl
  | .bool i :: r, _, h => by
    obtain ⟨x, h1, h2⟩ := Option.map_eq_some_iff.mp h
    subst h2
    rw [allBl_of h1]; rfl
  | .none :: _, _, h => nomatch h
  | .str _ :: _, _, h => nomatch h
  | .int _ :: _, _, h => nomatch h
  | .list _ :: _, _, h => nomatch h
  | .tuple _ :: _, _, h => nomatch h
  | .dict _ :: _, _, h => nomatch h
theorem dps_int : ∀ {ns : List Int} {vs : List V}, DpAll K G vs (ns.map .int) → vs = ns.map V.int
  | [], _, .nil => rfl
  | _ :: _, _, .cons a r => by cases a; rw [dps_int r]; rfl
theorem dps_str : ∀ {ns : List Str} {vs : List V}, DpAll K G vs (ns.map .str) → vs = ns.map V.str
  | [], _, .nil => rfl
  | _ :: _, _, .cons a r => by cases a; rw [dps_str r]; rfl
theorem dps_bl : ∀ {ns : List Bool} {vs : List V}, DpAll K G vs (ns.map .bool) → vs = ns.map V.bl
  | [], _, .nil => rfl
  | _ :: _, _, .cons a r => by cases a; rw [dps_bl r]; rfl
theorem dps_ints : ∀ (ns : List Int), DpAll K G (ns.map V.int) (ns.map .int)
  | [] => .nil
  | _ :: ns => .cons (.int _) (dps_ints ns)
theorem dps_strs : ∀ (ns : List Str), DpAll K G (ns.map V.str) (ns.map .str)
  | [] => .nil
  | _ :: ns => .cons (.str _) (dps_strs ns)

/-! ### sorted texts -/
def insU (x : Str) : List Str → List Str
  | [] => [x]
  | y :: l => if x.cps.toList < y.cps.toList then x :: y :: l else if x = y then y :: l else y :: insU x l
def sortU (xs : List Str) : List Str := xs.foldr insU []
theorem insU_mem (x : Str) : ∀ (l : List Str) (k : Str), k ∈ insU x l ↔ k = x ∨ k ∈ l
  | [], k => by simp [insU]
  | y :: l, k => by
    unfold insU
    split
    · simp
    · split
      · rename_i h; subst h; simp
      · simp only [List.mem_cons, insU_mem x l k]
        exact ⟨fun z => z.elim (fun z => .inr (.inl z)) (fun z => z.elim .inl fun z => .inr (.inr z)), fun z => z.elim (fun z => .inr (.inl z)) (fun z => z.elim .inl fun z => .inr (.inr z))⟩
theorem insU_up (x : Str) : ∀ {l : List Str}, (l.Pairwise fun a b : Str => a.cps.toList < b.cps.toList) → (insU x l).Pairwise fun a b : Str => a.cps.toList < b.cps.toList
  | [], _ => List.pairwise_singleton _ _
  | y :: l, h => by
    unfold insU
    obtain ⟨h1, h2⟩ := List.pairwise_cons.mp h
    split
    · rename_i c
      exact List.pairwise_cons.mpr ⟨fun z hz => by
        rcases List.mem_cons.mp hz with w | w
        · rw [w]; exact c
        · exact List.lt_trans c (h1 z w), h⟩
    · rename_i c
      split
      · exact h
      · rename_i ne
        refine List.pairwise_cons.mpr ⟨fun z hz => ?_, insU_up x h2⟩
        rcases (insU_mem x l z).1 hz with w | w
        · rw [w]
          rcases Decidable.em (y.cps.toList < x.cps.toList) with q | q
          · exact q
          · exact absurd (str_ext (List.le_antisymm (List.not_lt.mp q) (List.not_lt.mp c))) ne
        · exact h1 z w
theorem sortU_srt : ∀ xs : List Str, Srt xs (sortU xs)
  | [] => ⟨.nil, fun k => Iff.rfl⟩
  | x :: xs => by
    have ih := sortU_srt xs
    refine ⟨insU_up x ih.up, fun k => ?_⟩
    show k ∈ insU x (sortU xs) ↔ _
    rw [insU_mem, ih.mem, List.mem_cons]
end

/-! ### built-ins -/
def intO : O → Option O
  | .dat (.int i) => some (.dat (.int i))
  | .dat (.bool b) => some (.dat (.int (if b then 1 else 0)))
  | _ => none
def sumO (a : O) : Option O := (a.lv.bind allInt).map fun ns => .dat (.int ns.sum)
/-- the greatest of some numbers -/
def maxL : List Int → Int
  | [] => 0
  | [x] => x
  | x :: r => max x (maxL r)
def minL : List Int → Int
  | [] => 0
  | [x] => x
  | x :: r => min x (minL r)
def maxO (a : O) : Option O := (a.lv.bind allInt).bind fun ns => if ns = [] then none else some (.dat (.int (maxL ns)))
def minO (a : O) : Option O := (a.lv.bind allInt).bind fun ns => if ns = [] then none else some (.dat (.int (minL ns)))
def max2O : O → O → Option O
  | .dat (.int i), .dat (.int j) => some (.dat (.int (if j > i then j else i)))
  | _, _ => none
def min2O : O → O → Option O
  | .dat (.int i), .dat (.int j) => some (.dat (.int (if j < i then j else i)))
  | _, _ => none
def anyO (a : O) : Option O := (a.lv.bind allBl).map fun ns => .dat (.bool (ns.any id))
def allO (a : O) : Option O := (a.lv.bind allBl).map fun ns => .dat (.bool (ns.all id))
def listO (a : O) : Option O := a.sv.map .ls
def tupleO : O → Option O
  | .dat (.tuple ds) => some (.dat (.tuple ds))
  | a => a.lv.map fun ds => .dat (.tuple ds)
/-- sorted(set(texts)) -/
def sortedSetO (a : O) : Option O := (a.lv.bind allStr).bind fun ns => if ns.length ≤ 1000 ∧ (dedup [] ns).length < 64 then some (.ls ((sortU ns).map .str)) else none
def joinO : O → O → Option O
  | .dat (.str a), b => (b.sv.bind allStr).bind fun ys => if (ys.map (·.length)).sum + ys.length * a.length ≤ 16777216 then some (.dat (.str (Txt.join a ys))) else none
  | _, _ => none
section
variable {K : PySem.W.Frag}
theorem prim_int : Prim1 K (fun x H Q => (∃ i, [x] = [V.int i] ∧ Q (.int i) H) ∨ ∃ k, [x] = [V.bl k] ∧ Q (.int (if k then 1 else 0)) H) intO := by
  intro G H x a o B Q s ra h k
  unfold intO at h
  split at h
  · cases Option.some.inj h
    exact .inl ⟨_, by rw [dat_int ra], Grow.dat s (.int _) k⟩
  · cases Option.some.inj h
    exact .inr ⟨_, by rw [dat_bool ra], Grow.dat s (.int _) k⟩
  · cases h
theorem maxL_mem : ∀ {ns : List Int}, ns ≠ [] → maxL ns ∈ ns
  | [], h => absurd rfl h
  | [x], _ => List.mem_cons_self
  | x :: y :: r, _ => by
    show max x (maxL (y :: r)) ∈ _
    rcases Int.le_total x (maxL (y :: r)) with c | c
    · rw [Int.max_eq_right c]
      exact List.mem_cons_of_mem _ (maxL_mem (fun z => nomatch z))
    · rw [Int.max_eq_left c]
      exact List.mem_cons_self
theorem maxL_ge : ∀ {ns : List Int}, ∀ y ∈ ns, y ≤ maxL ns
  | [], y, h => nomatch h
  | [x], y, h => by rw [List.mem_singleton.mp h]; exact Int.le_refl _
  | x :: z :: r, y, h => by
    show y ≤ max x (maxL (z :: r))
    rcases List.mem_cons.mp h with c | c
    · rw [c]; exact Int.le_max_left _ _
    · exact Int.le_trans (maxL_ge y c) (Int.le_max_right _ _)
theorem minL_mem : ∀ {ns : List Int}, ns ≠ [] → minL ns ∈ ns
  | [], h => absurd rfl h
  | [x], _ => List.mem_cons_self
  | x :: y :: r, _ => by
    show min x (minL (y :: r)) ∈ _
    rcases Int.le_total x (minL (y :: r)) with c | c
    · rw [Int.min_eq_left c]
      exact List.mem_cons_self
    · rw [Int.min_eq_right c]
      exact List.mem_cons_of_mem _ (minL_mem (fun z => nomatch z))
theorem minL_le : ∀ {ns : List Int}, ∀ y ∈ ns, minL ns ≤ y
  | [], y, h => nomatch h
  | [x], y, h => by rw [List.mem_singleton.mp h]; exact Int.le_refl _
  | x :: z :: r, y, h => by
    show min x (minL (z :: r)) ≤ y
    rcases List.mem_cons.mp h with c | c
    · rw [c]; exact Int.min_le_left _ _
    · exact Int.le_trans (Int.min_le_right _ _) (minL_le y c)
theorem lv_ints {G H : Hp} {v : V} {a : O} {B : List Addr} {ns : List Int} (r : RepO K G H v a B) (s : Sub G H) (h : a.lv.bind allInt = some ns) : ∃ p, v = .ref p ∧ SqL K H p (ns.map V.int) := by
  obtain ⟨ds, h1, h2⟩ := Option.bind_eq_some_iff.mp h
  obtain ⟨p, vs, rfl, hp, dp⟩ := r.lv s h1
  rw [allInt_of h2] at dp
  rw [dps_int dp] at hp
  exact ⟨p, rfl, hp⟩
theorem lv_strs {G H : Hp} {v : V} {a : O} {B : List Addr} {ns : List Str} (r : RepO K G H v a B) (s : Sub G H) (h : a.lv.bind allStr = some ns) : ∃ p, v = .ref p ∧ SqL K H p (ns.map V.str) := by
  obtain ⟨ds, h1, h2⟩ := Option.bind_eq_some_iff.mp h
  obtain ⟨p, vs, rfl, hp, dp⟩ := r.lv s h1
  rw [allStr_of h2] at dp
  rw [dps_str dp] at hp
  exact ⟨p, rfl, hp⟩
theorem lv_bls {G H : Hp} {v : V} {a : O} {B : List Addr} {ns : List Bool} (r : RepO K G H v a B) (s : Sub G H) (h : a.lv.bind allBl = some ns) : ∃ p, v = .ref p ∧ SqL K H p (ns.map V.bl) := by
  obtain ⟨ds, h1, h2⟩ := Option.bind_eq_some_iff.mp h
  obtain ⟨p, vs, rfl, hp, dp⟩ := r.lv s h1
  rw [allBl_of h2] at dp
  rw [dps_bl dp] at hp
  exact ⟨p, rfl, hp⟩
theorem prim_sum : Prim1 K (fun x => rSum K [x]) sumO := by
  intro G H x a o B Q s ra h k
  obtain ⟨ns, h1, h2⟩ := Option.map_eq_some_iff.mp h
  subst h2
  obtain ⟨p, rfl, hp⟩ := lv_ints ra s h1
  exact ⟨p, ns, rfl, hp, Grow.dat s (.int _) k⟩
theorem prim_max : Prim1 K (fun x => rMax K [x]) maxO := by
  intro G H x a o B Q s ra h k
  obtain ⟨ns, h1, h2⟩ := Option.bind_eq_some_iff.mp h
  split at h2
  · cases h2
  · rename_i hne
    cases Option.some.inj h2
    obtain ⟨p, rfl, hp⟩ := lv_ints ra s h1
    refine ⟨p, ns, rfl, hp, List.length_pos_iff.mpr hne, fun m hm hx => ?_⟩
    have e : m = maxL ns := Int.le_antisymm (maxL_ge m hm) (hx _ (maxL_mem hne))
    rw [e]
    exact Grow.dat s (.int _) k
theorem prim_min : Prim1 K (fun x => rMin K [x]) minO := by
  intro G H x a o B Q s ra h k
  obtain ⟨ns, h1, h2⟩ := Option.bind_eq_some_iff.mp h
  split at h2
  · cases h2
  · rename_i hne
    cases Option.some.inj h2
    obtain ⟨p, rfl, hp⟩ := lv_ints ra s h1
    refine ⟨p, ns, rfl, hp, List.length_pos_iff.mpr hne, fun m hm hx => ?_⟩
    have e : m = minL ns := Int.le_antisymm (hx _ (minL_mem hne)) (minL_le m hm)
    rw [e]
    exact Grow.dat s (.int _) k
theorem prim_max2 : Prim2 K (fun x y H Q => ∃ i j, [x, y] = [V.int i, V.int j] ∧ Q (.int (if j > i then j else i)) H) max2O := by
  intro G H x y a b o B C Q s ra rb h k
  unfold max2O at h
  split at h
  · cases Option.some.inj h
    exact ⟨_, _, by rw [dat_int ra, dat_int rb], Grow.dat s (.int _) k⟩
  · cases h
theorem prim_min2 : Prim2 K (fun x y H Q => ∃ i j, [x, y] = [V.int i, V.int j] ∧ Q (.int (if j < i then j else i)) H) min2O := by
  intro G H x y a b o B C Q s ra rb h k
  unfold min2O at h
  split at h
  · cases Option.some.inj h
    exact ⟨_, _, by rw [dat_int ra, dat_int rb], Grow.dat s (.int _) k⟩
  · cases h
theorem prim_any : Prim1 K (fun x => rAny K [x]) anyO := by
  intro G H x a o B Q s ra h k
  obtain ⟨ns, h1, h2⟩ := Option.map_eq_some_iff.mp h
  subst h2
  obtain ⟨p, rfl, hp⟩ := lv_bls ra s h1
  exact ⟨p, ns, rfl, hp, Grow.dat s (.bl _) k⟩
theorem prim_all : Prim1 K (fun x => rAll K [x]) allO := by
  intro G H x a o B Q s ra h k
  obtain ⟨ns, h1, h2⟩ := Option.map_eq_some_iff.mp h
  subst h2
  obtain ⟨p, rfl, hp⟩ := lv_bls ra s h1
  exact ⟨p, ns, rfl, hp, Grow.dat s (.bl _) k⟩
theorem prim_list : Prim1 K (fun x H Q => ∃ p ys, [x] = [V.ref p] ∧ (SqL K H p ys ∨ SqT K H p ys) ∧ ∀ l, H l = none → Q (.ref l) (upd H l (.lst ys))) listO := by
  intro G H x a o B Q s ra h k
  obtain ⟨ds, h1, h2⟩ := Option.map_eq_some_iff.mp h
  subst h2
  obtain ⟨p, vs, rfl, hp, dp⟩ := ra.sv s h1
  exact ⟨p, vs, rfl, hp, fun l nl => k _ _ _ _ (grow_new s nl) (grow_ls s nl dp)⟩
theorem prim_tuple : Prim1 K (fun x H Q => ∃ p ys, [x] = [V.ref p] ∧ ((SqL K H p ys ∧ ∀ l, H l = none → Q (.ref l) (upd H l (.tup ys))) ∨ (SqT K H p ys ∧ Q (.ref p) H))) tupleO := by
  intro G H x a o B Q s ra h k
  unfold tupleO at h
  split at h
  · cases Option.some.inj h
    obtain ⟨p, vs, rfl, hp, dp⟩ := dat_tup ra
    exact ⟨p, vs, rfl, .inr ⟨s.sqt hp, Grow.dat s (.tup hp dp) k⟩⟩
  · obtain ⟨ds, h1, h2⟩ := Option.map_eq_some_iff.mp h
    subst h2
    obtain ⟨p, vs, rfl, hp, dp⟩ := ra.lv s h1
    exact ⟨p, vs, rfl, .inl ⟨hp, fun l nl => k _ _ _ _ (grow_sh s nl) (sh_tup s nl dp)⟩⟩
theorem prim_sortedSet {P : Program} {w : World} : Prim1 K (fun x H Q => rSetS K P w [x] H fun v H1 => rSortS P w [v] H1 Q) sortedSetO := by
  intro G H x a o B Q s ra h k
  obtain ⟨ns, h1, h2⟩ := Option.bind_eq_some_iff.mp h
  split at h2
  · rename_i hz
    cases Option.some.inj h2
    obtain ⟨p, rfl, hp⟩ := lv_strs ra s h1
    refine ⟨p, ns, rfl, hp, hz.1, fun l nl => ⟨l, _, rfl, upd_same, hz.2, fun ss q hs nq => ?_⟩⟩
    have e : ss = sortU ns := (hs.of_dedup).eq (sortU_srt ns)
    rw [e]
    have nH : H q = none := (same_new nl _ : Same H _).free nq
    have g1 : Grow G H G (upd H l (SetSO P w l (dedup [] ns))) [] := ⟨⟨Sub.refl _, fun a u z _ => by rw [upd_ne (ne_of_none z nl)]; exact z, fun _ z _ _ => z, fun a z => nomatch z⟩, fun a u z => by rw [upd_ne (ne_of_none (s a u z) nl)]; exact s a u z, .nil⟩
    have g2 := grow_new (u := .lst ((sortU ns).map V.str)) g1.sub nq
    refine k _ _ _ [q] ⟨⟨Sub.refl _, fun a u z n => g2.ext.keep a u (g1.ext.keep a u z n) n, fun _ z _ _ => z, fun a z => .inr (by rw [List.mem_singleton.mp z]; exact nH)⟩, g2.sub, by simp⟩ ?_
    exact grow_ls g1.sub nq (dps_strs _)
  · cases h2
theorem prim_join : Prim2 K (fun x y H Q => (∃ a, x = V.str a) ∧ ∃ a p, ∃ ys : List Str, x = .str a ∧ [y] = [V.ref p] ∧ (SqL K H p (ys.map V.str) ∨ SqT K H p (ys.map V.str)) ∧ (ys.map (·.length)).sum + ys.length * a.length ≤ 16777216 ∧ Q (.str (Txt.join a ys)) H) joinO := by
  intro G H x y a b o B C Q s ra rb h k
  unfold joinO at h
  split at h
  · obtain ⟨ys, h1, h2⟩ := Option.bind_eq_some_iff.mp h
    split at h2
    · rename_i hz
      cases Option.some.inj h2
      obtain ⟨ds, h3, h4⟩ := Option.bind_eq_some_iff.mp h1
      obtain ⟨p, vs, rfl, hp, dp⟩ := rb.sv s h3
      rw [allStr_of h4] at dp
      rw [dps_str dp] at hp
      exact ⟨⟨_, dat_str ra⟩, _, p, ys, dat_str ra, rfl, hp, hz, Grow.dat s (.str _) k⟩
    · cases h2
  · cases h
end
section
variable {X : Cx} {R : RK} {e e1 e2 : Expr} {f g : PF} {x : Str} {p pos p2 pos2 : Pos}
theorem pa_two {a b : Expr} {t u : TE} (h : PE X a t) (h' : PE X b u) (hs : starEach [a, b] X.env = (false, eval a X.env) :: starEach [b] X.env := by rfl) (hs2 : starEach [b] X.env = (false, eval b X.env) :: starEach [] X.env := by rfl) : PA X [a, b] (tCons t (tCons u tNil)) := pa_cons h (pa_one h' hs2) hs
theorem bi1 {id : String} {r : List V → Hp → VK → Prop} {F : O → Option O} (hc : CallR X (.builtin id) r) (q : Prim1 X.K (fun x => r [x]) F) (hg : Gl X x) (hm : X.mg x = none) (hv : bootBuiltins x = some (.builtin id)) (h : PE X e (liftP X.K R f)) (hn : x ≠ "__name__" := by decide) (hdb : (x == ("__debug__" : Str)) = false := by decide) (hs : starEach [e] X.env = (false, eval e X.env) :: starEach [] X.env := by rfl) (hpl : (backTo pos (starEach [] X.env)).any (·.1) = false := by rfl) :
    PE X (.Call (.Name x p) [e] [] pos) (liftE X.K R (op1 F f)) := op1_ok (pe_callB hc hg hm hv (pa_one h hs) hn hdb hs hpl) q
theorem ty1 {id : String} {r : List V → Hp → VK → Prop} {F : O → Option O} (hc : CallR X (.type id) r) (q : Prim1 X.K (fun x => r [x]) F) (hg : Gl X x) (hm : X.mg x = none) (hv : bootBuiltins x = some (.type id)) (h : PE X e (liftP X.K R f)) (hn : x ≠ "__name__" := by decide) (hdb : (x == ("__debug__" : Str)) = false := by decide) (hs : starEach [e] X.env = (false, eval e X.env) :: starEach [] X.env := by rfl) (hpl : (backTo pos (starEach [] X.env)).any (·.1) = false := by rfl) :
    PE X (.Call (.Name x p) [e] [] pos) (liftE X.K R (op1 F f)) := op1_ok (pe_callTy hc hg hm hv (pa_one h hs) hn hdb hs hpl) q
theorem bi2 {id : String} {r : List V → Hp → VK → Prop} {F : O → O → Option O} (hc : CallR X (.builtin id) r) (q : Prim2 X.K (fun x y => r [x, y]) F) (hg : Gl X x) (hm : X.mg x = none) (hv : bootBuiltins x = some (.builtin id)) (h : PE X e1 (liftP X.K R f)) (h' : PE X e2 (liftP X.K R g)) (hn : x ≠ "__name__" := by decide) (hdb : (x == ("__debug__" : Str)) = false := by decide) (hs : starEach [e1, e2] X.env = (false, eval e1 X.env) :: starEach [e2] X.env := by rfl) (hs2 : starEach [e2] X.env = (false, eval e2 X.env) :: starEach [] X.env := by rfl) (hpl : (backTo pos (starEach [e2] X.env)).any (·.1) = false := by rfl) :
    PE X (.Call (.Name x p) [e1, e2] [] pos) (liftE X.K R (op2 F f g)) := op2_ok (pe_callB hc hg hm hv (pa_two h h' hs hs2) hn hdb hs hpl) q
/-- sorted(set(e)) -/
theorem b_sortedSet (hc : X.calm = true) (hg : Gl X "sorted") (hm : X.mg "sorted" = none) (hg2 : Gl X "set") (hm2 : X.mg "set" = none) (h : PE X e (liftP X.K R f)) (hs : starEach [e] X.env = (false, eval e X.env) :: starEach [] X.env := by rfl) (hpl : (backTo pos2 (starEach [] X.env)).any (·.1) = false := by rfl)
    (hs2 : starEach [.Call (.Name "set" p2) [e] [] pos2] X.env = (false, eval (.Call (.Name "set" p2) [e] [] pos2) X.env) :: starEach [] X.env := by rfl) (hpl2 : (backTo pos (starEach [] X.env)).any (·.1) = false := by rfl) :
    PE X (.Call (.Name "sorted" p) [.Call (.Name "set" p2) [e] [] pos2] [] pos) (liftE X.K R (op1 sortedSetO f)) :=
  op1_ok (pe_callB (cr_sortS hc) hg hm (by decide +kernel) (pa_one (pe_callTy (cr_setS hc) hg2 hm2 (by decide +kernel) (pa_one h hs) (by decide) (by decide) hs hpl) hs2) (by decide) (by decide) hs2 hpl2) prim_sortedSet
end
/-- two operands; the first one is looked at ahead of the second one -/
def op2c (c : O → Bool) (F : O → O → Option O) (f g : PF) : EF := fun ρ => (f ρ).bind fun p ρ1 => match p.get ρ1 with
  | some a => if c a = true then (g ρ1).bind fun q ρ2 => fin2 F (p.get ρ2) (q.get ρ2) ρ2 else .stuck
  | none => .stuck
def isStr : O → Bool
  | .dat (.str _) => true
  | _ => false
section
variable {K : PySem.W.Frag} {R : RK} {pins σ : L2.St} {G H G' H' : Hp} {As Bs Cs T : List Addr} {Q : VK}
theorem op2c_le {f g : PF} {r : R2} {c : O → Bool} {C : V → Prop} {F : O → O → Option O} (hc : ∀ G H v a B, RepO K G H v a B → c a = true → C v) (p : Prim2 K r F) (σ : L2.St) (H : Hp) (Q : VK) (h : liftE K R (op2c c F f g) σ H Q) : liftP K R f σ H fun x H1 => C x ∧ liftP K R g σ H1 fun y H2 => r x y H2 Q := by
  obtain ⟨pins, G, ρ, As, s, k⟩ := h
  refine ⟨pins, G, ρ, As, s, ?_⟩
  refine Kont.bind (T := []) (Q := Q) s.nd (fun a z => nomatch z) k fun q ρ1 G1 H1 As1 v Bs e1 nd1 r1 s1 k1 => ?_
  split at k1
  · rename_i a0 ha0
    split at k1
    · rename_i hca
      obtain ⟨Cs0, rc0⟩ := RepP.get r1 s1 ha0
      refine ⟨hc _ _ _ _ _ rc0 hca, pins, G1, ρ1, As1, s1, ?_⟩
      have nd1' : (Bs ++ As1).Nodup := by simpa using nd1
      refine Kont.bind (T := Bs) (Q := Q) nd1' (RepP.there r1) (by simpa using k1) fun q2 ρ2 G2 H2 As2 v2 Bs2 e2 nd2 r2 s2 k2 => ?_
      have k2 : KontE K R pins σ G2 H2 (Bs ++ (Bs2 ++ As2)) Q (fin2 F (q.get ρ2) (q2.get ρ2) ρ2) := k2
      have r1' := RepP.ext r1 e2 (nd_disj nd1')
      unfold fin2 at k2
      split at k2
      · rename_i a b ha hb
        split at k2
        · rename_i o ho
          obtain ⟨Cs, rc⟩ := RepP.get r1' s2 ha
          obtain ⟨Ds, rd⟩ := RepP.get r2 s2 hb
          exact p G2 H2 v v2 a b o Cs Ds Q s2.sub rc rd ho fun G3 H3 w Es g re => KontE.grow s2 (T := Bs ++ Bs2) (by simpa using k2) g re
        · exact k2.elim
      · exact k2.elim
    · exact k1.elim
  · exact k1.elim
def op1c (F : O → Option O) (f : PF) : EF := op1 F f
end
section
variable {X : Cx} {R : RK} {e : Expr} {f g : PF} {pos : Pos}
theorem isStr_of {G H : Hp} {v : V} {a : O} {B : List Addr} (r : RepO X.K G H v a B) (h : isStr a = true) : ∃ z, v = V.str z := by
  unfold isStr at h
  split at h
  · exact ⟨_, dat_str r⟩
  · cases h
/-- s.m(e), s a text -/
theorem m_str1 {o : Expr} {r : V → List V → Hp → VK → Prop} {F : O → O → Option O} (h : PE X o (tM1 r (liftP X.K R f) (liftP X.K R g))) (q : Prim2 X.K (fun x y => r x [y]) F) : PE X o (liftE X.K R (op2c isStr F f g)) :=
  PE.weak h fun σ H Q hw => op2c_le (fun G H v a B r h => isStr_of r h) q σ H Q hw
theorem prim_join' : Prim2 X.K (fun x y H Q => ∃ a p, ∃ ys : List Str, x = V.str a ∧ [y] = [V.ref p] ∧ (SqL X.K H p (ys.map V.str) ∨ SqT X.K H p (ys.map V.str)) ∧ (ys.map (·.length)).sum + ys.length * a.length ≤ 16777216 ∧ Q (.str (Txt.join a ys)) H) joinO :=
  fun G H x y a b o B C Q s ra rb h k => (prim_join G H x y a b o B C Q s ra rb h k).2
theorem b_join {o : Expr} {apos : Pos} (ho : PE X o (liftP X.K R f)) (h : PE X e (liftP X.K R g)) (hs : starEach [e] X.env = [(false, eval e X.env)] := by rfl) (hbase : attributeBase o "join" X.env (eval o X.env) = eval o X.env := by rfl) (hline : (apos.endLine == pos.line) = true := by rfl) :
    PE X (.Call (.Attribute o "join" apos) [e] [] pos) (liftE X.K R (op2c isStr joinO f g)) := m_str1 (pe_join ho h hs hbase hline) prim_join'
end
end Vs

namespace Vs
open PySem PySem.Spec PyProof.Rows L2 Ww

/-! ### three operands -/
def fin3 (F : O → O → O → Option O) (a b c : Option O) (ρ : En) : Res := match a, b, c with
  | some a, some b, some c => match F a b c with
    | some o => .ok o ρ
    | none => .stuck
  | _, _, _ => .stuck
def op3 (F : O → O → O → Option O) (f g h : PF) : EF := fun ρ => (f ρ).bind fun p ρ1 => (g ρ1).bind fun q ρ2 => (h ρ2).bind fun u ρ3 => fin3 F (p.get ρ3) (q.get ρ3) (u.get ρ3) ρ3
abbrev R3 := V → V → V → Hp → VK → Prop
def Prim3 (K : PySem.W.Frag) (r : R3) (F : O → O → O → Option O) : Prop :=
  ∀ (G H : Hp) (x y z : V) (a b c o : O) (B C D : List Addr) (Q : VK), Sub G H → RepO K G H x a B → RepO K G H y b C → RepO K G H z c D → F a b c = some o → (∀ G' H' v Bs, Grow G H G' H' Bs → RepO K G' H' v o Bs → Q v H') → r x y z H Q
section
variable {K : PySem.W.Frag} {R : RK} {pins σ : L2.St} {G H G' H' : Hp} {As Bs Cs T : List Addr} {Q : VK}
theorem op3_le {f g h : PF} {r : R3} {F : O → O → O → Option O} (p : Prim3 K r F) (σ : L2.St) (H : Hp) (Q : VK) (hw : liftE K R (op3 F f g h) σ H Q) : liftP K R f σ H fun x H1 => liftP K R g σ H1 fun y H2 => liftP K R h σ H2 fun z H3 => r x y z H3 Q := by
  obtain ⟨pins, G, ρ, As, s, k⟩ := hw
  refine ⟨pins, G, ρ, As, s, ?_⟩
  refine Kont.bind (T := []) (Q := Q) s.nd (fun a z => nomatch z) k fun q ρ1 G1 H1 As1 v Bs e1 nd1 r1 s1 k1 => ⟨pins, G1, ρ1, As1, s1, ?_⟩
  have nd1' : (Bs ++ As1).Nodup := by simpa using nd1
  refine Kont.bind (T := Bs) (Q := Q) nd1' (RepP.there r1) (by simpa using k1) fun q2 ρ2 G2 H2 As2 v2 Bs2 e2 nd2 r2 s2 k2 => ⟨pins, G2, ρ2, As2, s2, ?_⟩
  have r1' := RepP.ext r1 e2 (nd_disj nd1')
  have nd2' : ((Bs ++ Bs2) ++ As2).Nodup := by simpa using nd2
  refine Kont.bind (T := Bs ++ Bs2) (Q := Q) nd2' (fun a ha => ?_) (by simpa using k2) fun q3 ρ3 G3 H3 As3 v3 Bs3 e3 nd3 r3 s3 k3 => ?_
  · rcases List.mem_append.mp ha with w | w
    · exact RepP.there r1' a w
    · exact RepP.there r2 a w
  · have dj := nd_disj nd2'
    have r1'' := RepP.ext r1' e3 fun a ha => dj a (List.mem_append_left _ ha)
    have r2'' := RepP.ext r2 e3 fun a ha => dj a (List.mem_append_right _ ha)
    have k3 : KontE K R pins σ G3 H3 ((Bs ++ Bs2) ++ (Bs3 ++ As3)) Q (fin3 F (q.get ρ3) (q2.get ρ3) (q3.get ρ3) ρ3) := k3
    unfold fin3 at k3
    split at k3
    · rename_i a b c ha hb hc
      split at k3
      · rename_i o ho
        obtain ⟨C1, t1⟩ := RepP.get r1'' s3 ha
        obtain ⟨C2, t2⟩ := RepP.get r2'' s3 hb
        obtain ⟨C3, t3⟩ := RepP.get r3 s3 hc
        exact p G3 H3 v v2 v3 a b c o C1 C2 C3 Q s3.sub t1 t2 t3 ho fun G4 H4 w Es g re => KontE.grow s3 (T := (Bs ++ Bs2) ++ Bs3) (by simpa using k3) g re
      · exact k3.elim
    · exact k3.elim
end

/-! ### slices -/
def cutD (xs : List PyData) (lo hi : Option Int) : List PyData := (xs.drop (HT.sIx xs.length 0 lo)).take (HT.sIx xs.length xs.length hi - HT.sIx xs.length 0 lo)
def slO (a : O) (lo hi : Option Int) : Option O := match a with
  | .dat (.str z) => if z.length ≤ sizeLine then some (.dat (.str (cutS z lo hi))) else none
  | .dat (.tuple ds) => if ¬ (HT.sIx ds.length 0 lo = 0 ∧ HT.sIx ds.length ds.length hi = ds.length) then some (.dat (.tuple (cutD ds lo hi))) else none
  | a => a.lv.map fun ds => .ls (cutD ds lo hi)
def slLo : O → O → Option O
  | a, .dat (.int i) => slO a (some i) none
  | _, _ => none
def slHi : O → O → Option O
  | a, .dat (.int i) => slO a none (some i)
  | _, _ => none
def slBo : O → O → O → Option O
  | a, .dat (.int i), .dat (.int j) => slO a (some i) (some j)
  | _, _, _ => none
def slAll (a : O) : Option O := slO a none none
/-- xs[::-1] -/
def revLO (a : O) : Option O := a.lv.map fun ds => .ls ds.reverse
def rSlA (K : PySem.W.Frag) : V → Option Int → Option Int → Hp → VK → Prop := fun x lo hi H Q => rSlL K x lo hi H Q ∨ rSlT K x lo hi H Q ∨ rSlS x lo hi H Q
section
variable {K : PySem.W.Frag} {G H : Hp}
theorem dps_cut {vs : List V} {ds : List PyData} (h : DpAll K G vs ds) (lo hi : Option Int) : DpAll K G (cutV vs lo hi) (cutD ds lo hi) := by
  unfold cutV cutD
  rw [dps_len h]
  exact DpAll.take _ (DpAll.drop _ h)
theorem prim_sl {x : V} {a o : O} {B : List Addr} {lo hi : Option Int} {Q : VK} (s : Sub G H) (ra : RepO K G H x a B) (h : slO a lo hi = some o) (k : ∀ G' H' v Bs, Grow G H G' H' Bs → RepO K G' H' v o Bs → Q v H') : rSlA K x lo hi H Q := by
  unfold slO at h
  split at h
  · split at h
    · rename_i hz
      cases Option.some.inj h
      exact .inr (.inr ⟨_, dat_str ra, hz, Grow.dat s (.str _) k⟩)
    · cases h
  · split at h
    · rename_i hz
      cases Option.some.inj h
      obtain ⟨p, vs, rfl, hp, dp⟩ := dat_tup ra
      exact .inr (.inl ⟨p, vs, rfl, s.sqt hp, by rw [dps_len dp]; exact hz, fun q nq => k _ _ _ _ (grow_sh s nq) (sh_tup s nq (dps_cut dp lo hi))⟩)
    · cases h
  · obtain ⟨ds, h1, h2⟩ := Option.map_eq_some_iff.mp h
    subst h2
    obtain ⟨p, vs, rfl, hp, dp⟩ := ra.lv s h1
    exact .inl ⟨p, vs, rfl, hp, fun q nq => k _ _ _ _ (grow_new s nq) (grow_ls s nq (dps_cut dp lo hi))⟩
theorem prim_slLo : Prim2 K (fun x y H Q => ∃ i, y = .int i ∧ rSlA K x (some i) none H Q) slLo := by
  intro G H x y a b o B C Q s ra rb h k
  unfold slLo at h
  split at h
  · exact ⟨_, dat_int rb, prim_sl s ra h k⟩
  · cases h
theorem prim_slHi : Prim2 K (fun x y H Q => ∃ i, y = .int i ∧ rSlA K x none (some i) H Q) slHi := by
  intro G H x y a b o B C Q s ra rb h k
  unfold slHi at h
  split at h
  · exact ⟨_, dat_int rb, prim_sl s ra h k⟩
  · cases h
theorem prim_slBo : Prim3 K (fun x y z H Q => ∃ j, z = .int j ∧ ∃ i, y = .int i ∧ rSlA K x (some i) (some j) H Q) slBo := by
  intro G H x y z a b c o B C D Q s ra rb rc h k
  unfold slBo at h
  split at h
  · exact ⟨_, dat_int rc, _, dat_int rb, prim_sl s ra h k⟩
  · cases h
theorem prim_slAll : Prim1 K (fun x H Q => rSlA K x none none H Q) slAll := fun G H x a o B Q s ra h k => prim_sl s ra h k
theorem prim_revL : Prim1 K (fun x H Q => ∃ a xs, x = .ref a ∧ SqL K H a xs ∧ ∀ p, H p = none → Q (.ref p) (upd H p (.lst xs.reverse))) revLO := by
  intro G H x a o B Q s ra h k
  obtain ⟨ds, h1, h2⟩ := Option.map_eq_some_iff.mp h
  subst h2
  obtain ⟨p, vs, rfl, hp, dp⟩ := ra.lv s h1
  exact ⟨p, vs, rfl, hp, fun q nq => k _ _ _ _ (grow_new s nq) (grow_ls s nq (DpAll.rev dp))⟩
end
section
variable {X : Cx} {R : RK} {e lo hi : Expr} {f g h : PF} {pos p2 : Pos}
theorem sl_any : SlR X (rSlA X.K) := sl_list.or (sl_tup.or sl_str)
theorem pf_slLo (he : PE X e (liftP X.K R f)) (hl : PE X lo (liftP X.K R g)) : PE X (.Subscript e (.Slice (some lo) none none p2) pos) (liftE X.K R (op2 slLo f g)) :=
  PE.weak (pe_slice sl_any he (po_some hl) po_none) fun σ H Q hw => op2_le prim_slLo σ H Q hw
theorem pf_slHi (he : PE X e (liftP X.K R f)) (hl : PE X hi (liftP X.K R g)) : PE X (.Subscript e (.Slice none (some hi) none p2) pos) (liftE X.K R (op2 slHi f g)) :=
  PE.weak (pe_slice sl_any he po_none (po_some hl)) fun σ H Q hw => op2_le prim_slHi σ H Q hw
theorem pf_slAll (he : PE X e (liftP X.K R f)) : PE X (.Subscript e (.Slice none none none p2) pos) (liftE X.K R (op1 slAll f)) :=
  PE.weak (pe_slice sl_any he po_none po_none) fun σ H Q hw => op1_le prim_slAll σ H Q hw
theorem pf_revL {k : Nat} {q1 q2 q3 : Pos} (he : PE X e (liftP X.K R f)) : PE X (.Subscript e (.Slice none none (some (.UnaryOp .USub (.Constant (.int 1) k q1) q2)) q3) pos) (liftE X.K R (op1 revLO f)) :=
  PE.weak (pe_revL he) fun σ H Q hw => op1_le prim_revL σ H Q hw
end

/-! ### isinstance -/
def tyN : O → String
  | .dat .none => "NoneType"
  | .dat (.bool _) => "bool"
  | .dat (.int _) => "int"
  | .dat (.str _) => "str"
  | .dat (.list _) => "list"
  | .dat (.tuple _) => "tuple"
  | .dat (.dict _) => "dict"
  | .ls _ => "list"
  | .dk _ => "dict"
  | .tp _ => "tuple"
def isA (t n : String) : Bool := t == n || (t == "bool" && n == "int")
def isaO (ns : List String) (o : O) : Option O := bo (ns.any fun n => isA (tyN o) n)
section
variable {K : PySem.W.Frag} {G H : Hp}
theorem tyX_of {v : V} {o : O} {B : List Addr} (r : RepO K G H v o B) (s : Sub G H) : TyX K H v (.type (tyN o)) := by
  cases r with
  | dat d =>
    cases d with
    | non => exact .base .non
    | bl b => exact .base (.bl b)
    | int i => exact .base (.int i)
    | str x => exact .base (.str x)
    | lst h1 h2 => exact tyL (s.seq h1)
    | tup h1 h2 => exact tyT (s.sqt h1)
  | ls h1 h2 h3 => exact .base (.lst h2)
  | dk h1 h2 h3 => exact .base (.dK h2)
  | tp h1 h2 h3 => exact .base (.tup h2)
def tys : List String := ["NoneType", "bool", "int", "str", "list", "tuple", "dict"]
theorem tyN_in (o : O) : tyN o ∈ tys := by
  cases o with
  | dat d => cases d <;> simp [tyN, tys]
  | ls _ => simp [tyN, tys]
  | dk _ => simp [tyN, tys]
  | tp _ => simp [tyN, tys]
def kitsOk (n : String) : Bool := tys.all fun t => kitB t n == some (isA t n)
theorem kits_at {n : String} (h : kitsOk n = true) (o : O) : kitB (tyN o) n = some (isA (tyN o) n) := by
  have := List.all_eq_true.mp h _ (tyN_in o)
  simpa using this
theorem kits_any : ∀ {ns : List String} (h : ∀ n ∈ ns, kitsOk n = true) (o : O), PySem.W.kitAny K (.type (tyN o)) (ns.map Value.type) = some (ns.any fun n => isA (tyN o) n)
  | [], _, o => rfl
  | n :: ns, h, o => by
    rw [List.map_cons, List.any_cons]
    refine kitAny_cons (kit_ty (kits_at (h n List.mem_cons_self) o)) (fun hb => ?_) fun hb => by rw [hb]; rfl
    rw [hb, Bool.false_or]
    exact kits_any (fun m hm => h m (List.mem_cons_of_mem _ hm)) o
theorem prim_isa {n : String} (h : kitsOk n = true) : Prim1 K (fun x H Q => rIsi K [x, .ty n] H Q) (isaO [n]) := by
  intro G H x a o B Q s ra e k
  cases Option.some.inj e
  refine ⟨x, .ty n, .type (tyN a), .type n, isA (tyN a) n, rfl, .ty n, tyX_of ra s, kit_ty (kits_at h a), ?_⟩
  have e2 : ([n].any fun n => isA (tyN a) n) = isA (tyN a) n := by simp
  rw [e2] at k
  exact Grow.dat s (.bl _) k
theorem cls_paired : ∀ ns : List String, Paired ClsV (ns.map V.ty) (ns.map Value.type)
  | [] => .nil
  | n :: ns => .cons (.ty n) (cls_paired ns)
theorem prim_isaT {ns : List String} (h : ∀ n ∈ ns, kitsOk n = true) (hz : ns.length ≤ sizeLine) : Prim1 K (fun x H Q => (ns.map V.ty).length ≤ sizeLine ∧ ∀ p, H p = none → rIsiT K [x, .ref p] (upd H p (.tup (ns.map V.ty))) Q) (isaO ns) := by
  intro G H x a o B Q s ra e k
  cases Option.some.inj e
  refine ⟨by rw [List.length_map]; exact hz, fun p np => ?_⟩
  have g : Grow G H G (upd H p (.tup (ns.map V.ty))) [] := ⟨⟨Sub.refl _, fun a u z _ => by rw [upd_ne (ne_of_none z np)]; exact z, fun _ z _ _ => z, fun a z => nomatch z⟩, fun a u z => by rw [upd_ne (ne_of_none (s a u z) np)]; exact s a u z, .nil⟩
  have ra' := ra.ext g.ext fun a _ z => nomatch z
  exact ⟨x, p, ns.map V.ty, .type (tyN a), ns.map Value.type, _, rfl, upd_same, cls_paired ns, tyX_of ra' g.sub, kits_any h a, k _ _ _ [] g (.dat (.bl _))⟩
end
section
variable {X : Cx} {R : RK} {e c : Expr} {es : List Expr} {f : PF} {p pos p2 : Pos}
def tTys (ns : List String) : TA := fun _ H Q => Q (ns.map V.ty) H
theorem b_isa {n : String} (hg : Gl X "isinstance") (hm : X.mg "isinstance" = none) (h : PE X e (liftP X.K R f)) (hcl : PE X c (tC (.ty n))) (hk : kitsOk n = true := by decide +kernel) (hs : starEach [e, c] X.env = (false, eval e X.env) :: starEach [c] X.env := by rfl) (hs2 : starEach [c] X.env = (false, eval c X.env) :: starEach [] X.env := by rfl) (hpl : (backTo pos (starEach [c] X.env)).any (·.1) = false := by rfl) :
    PE X (.Call (.Name "isinstance" p) [e, c] [] pos) (liftE X.K R (op1 (isaO [n]) f)) := op1_ok (pe_callB call_isi hg hm (by decide +kernel) (pa_two h hcl hs hs2) (by decide) (by decide) hs hpl) (prim_isa hk)
theorem b_isaT {ns : List String} {x1 : Nat} {tc : TA} (hg : Gl X "isinstance") (hm : X.mg "isinstance" = none) (h : PE X e (liftP X.K R f)) (hcl : PA X es tc) (htc : ∀ σ H Q, Q (ns.map V.ty) H → tc σ H Q := by intro _ _ _ q; exact q) (hk : ∀ n ∈ ns, kitsOk n = true := by decide +kernel) (hz : ns.length ≤ sizeLine := by decide) (hs : starEach [e, .Tuple es x1 p2] X.env = (false, eval e X.env) :: starEach [.Tuple es x1 p2] X.env := by rfl) (hs2 : starEach [.Tuple es x1 p2] X.env = (false, eval (.Tuple es x1 p2) X.env) :: starEach [] X.env := by rfl) (hpl : (backTo pos (starEach [.Tuple es x1 p2] X.env)).any (·.1) = false := by rfl) :
    PE X (.Call (.Name "isinstance" p) [e, .Tuple es x1 p2] [] pos) (liftE X.K R (op1 (isaO ns) f)) := op1_ok (pe_callB call_isiT hg hm (by decide +kernel) (pa_two h (pe_tup (PA.weak hcl (t' := tTys ns) htc)) hs hs2) (by decide) (by decide) hs hpl) (prim_isaT hk hz)
end

/-! ### an item of a list of one's own is stored -/
def setAt (c : O) (ix d : PyData) : Option O := match c, ix with
  | .ls ds, .int k => (ixN ds.length k).map fun j => .ls (ds.set j d)
  | _, _ => none
/-- keys of dicts -/
def keyD : PyData → Option L2.Key
  | .int i => some (.inl i)
  | .str z => some (.inr z)
  | _ => none
def valD (kvs : List (L2.Key × PyData)) (k : L2.Key) : Option PyData := (kvs.find? fun kv => decide (kv.1 = k)).map (·.2)
def putD (kvs : List (L2.Key × PyData)) (k : L2.Key) (v : PyData) : List (L2.Key × PyData) :=
  if (kvs.any fun kv => decide (kv.1 = k)) = true then kvs.map (fun kv => if kv.1 = k then (kv.1, v) else kv) else kvs ++ [(k, v)]
def putAt (c : O) (ix d : PyData) : Option O := match c, keyD ix with
  | .dk kvs, some k => if kvs.length < sizeLine then some (.dk (putD kvs k d)) else none
  | _, _ => none
/-- x[i] = e -/
def stS (i : Nat) (F : O → PyData → PyData → Option O) (ix e : EF) : SF := fun ρ => (shE e ρ).bindS fun d ρ1 => match getS ρ1 i with
  | some _ => (shE ix ρ1).bindS fun j ρ2 => match getS ρ2 i with
    | some c => match F c j d with
      | some c' => .nx (updS i c' ρ2)
      | none => .stuck
    | none => .stuck
  | none => .stuck
def stA (c : O) (ix d : PyData) : Option O := match c with
  | .ls _ => setAt c ix d
  | .dk _ => putAt c ix d
  | _ => none
section
variable {K : PySem.W.Frag} {R : RK} {pins σ : L2.St} {G H G' H' : Hp} {As Bs Cs T : List Addr} {Q : VK} {ρ : En} {X : Cx} {D : Ends}
theorem shS_le {f : EF} (σ : L2.St) (H : Hp) (Q : VK) (h : liftD K R (shE f) σ H Q) : liftE K R f σ H Q := shE_le (α := Nat) (rel2 := RepO K) σ H Q h
theorem dk_inv {a : Addr} {kvs : List (L2.Key × PyData)} {B : List Addr} (r : RepO K G H (.ref a) (.dk kvs) B) : ∃ es, G a = none ∧ H a = some (.dK es) ∧ DKs K G es kvs := by
  cases r with
  | dk h1 h2 h3 => exact ⟨_, h1, h2, h3⟩
theorem dks_val {k : L2.Key} : ∀ {es : List (L2.Key × V)} {kvs : List (L2.Key × PyData)}, DKs K G es kvs → (∀ d, valD kvs k = some d → ∃ v, valV es k = some v ∧ Dp K G v d) ∧ (valD kvs k = none → valV es k = none)
  | [], [], _ => ⟨(fun d h => nomatch h), fun _ => rfl⟩
  | [], _ :: _, h => h.elim
  | _ :: _, [], h => h.elim
  | e :: es, x :: kvs, h => by
    obtain ⟨⟨h1, h2⟩, h3⟩ := h
    obtain ⟨i1, i2⟩ := dks_val (k := k) h3
    by_cases c : x.1 = k
    · have e1 : valD (x :: kvs) k = some x.2 := by simp [valD, List.find?_cons, c]
      have e2 : valV (e :: es) k = some e.2 := valV_pos (h1.trans c)
      rw [e1, e2]
      exact ⟨fun d hd => ⟨e.2, rfl, by rw [← Option.some.inj hd]; exact h2⟩, fun z => nomatch z⟩
    · have e1 : valD (x :: kvs) k = valD kvs k := by simp [valD, List.find?_cons, c]
      have e2 : valV (e :: es) k = valV es k := valV_neg (by rw [h1]; exact c)
      rw [e1, e2]
      exact ⟨i1, i2⟩
theorem dks_any {k : L2.Key} : ∀ {es : List (L2.Key × V)} {kvs : List (L2.Key × PyData)}, DKs K G es kvs → (es.any fun kv => decide (kv.1 = k)) = (kvs.any fun kv => decide (kv.1 = k))
  | [], [], _ => rfl
  | [], _ :: _, h => h.elim
  | _ :: _, [], h => h.elim
  | e :: es, x :: kvs, h => by
    obtain ⟨⟨h1, h2⟩, h3⟩ := h
    rw [List.any_cons, List.any_cons, h1, dks_any h3]
theorem dks_map {k : L2.Key} {v : V} {d : PyData} (q : Dp K G v d) : ∀ {es : List (L2.Key × V)} {kvs : List (L2.Key × PyData)}, DKs K G es kvs → DKs K G (es.map fun kv => if kv.1 = k then (kv.1, v) else kv) (kvs.map fun kv => if kv.1 = k then (kv.1, d) else kv)
  | [], [], _ => trivial
  | [], _ :: _, h => h.elim
  | _ :: _, [], h => h.elim
  | e :: es, x :: kvs, h => by
    obtain ⟨⟨h1, h2⟩, h3⟩ := h
    refine ⟨?_, dks_map q h3⟩
    show (if e.1 = k then (e.1, v) else e).1 = (if x.1 = k then (x.1, d) else x).1 ∧ Dp K G (if e.1 = k then (e.1, v) else e).2 (if x.1 = k then (x.1, d) else x).2
    by_cases c : x.1 = k
    · rw [if_pos (h1.trans c), if_pos c]
      exact ⟨h1, q⟩
    · have c' : ¬ e.1 = k := fun z => c (h1.symm.trans z)
      rw [if_neg c', if_neg c]
      exact ⟨h1, h2⟩
theorem dks_put {k : L2.Key} {v : V} {d : PyData} (q : Dp K G v d) {es : List (L2.Key × V)} {kvs : List (L2.Key × PyData)} (h : DKs K G es kvs) : DKs K G (putK es k v) (putD kvs k d) := by
  unfold putK putD
  rw [dks_any h]
  split
  · exact dks_map q h
  · exact All2.snoc ⟨rfl, q⟩ h
theorem key_dp {v : V} {d : PyData} {k : L2.Key} (h : Dp K G v d) (e : keyD d = some k) : v = kV k := by
  unfold keyD at e
  split at e
  · cases Option.some.inj e; cases h; rfl
  · cases Option.some.inj e; cases h; rfl
  · cases e
theorem s_setL {i : Nat} {ix e : EF} {st : Stmt} (h : PS X st (tAsg (liftE X.K R e) (gSub (tVar i) (liftE X.K R ix) rSetL))) : PS X st (liftS X.K R (stS i setAt ix e)) := by
  refine PS.weak h fun D σ H ⟨pins, G, ρ, As, s, k⟩ => shS_le σ H _ ⟨pins, G, ρ, As, s, ?_⟩
  refine Kont.bindS k fun d ρ1 G1 H1 As1 v Bs e1 nd1 r1 s1 k1 => ?_
  obtain ⟨rfl, dv⟩ := r1
  split at k1
  · rename_i c0 hc0
    obtain ⟨u, hu⟩ := s1.slots.has hc0
    refine ⟨u, hu, shS_le σ H1 _ ⟨pins, G1, ρ1, As1, s1, ?_⟩⟩
    refine Kont.bindS (by simpa using k1) fun j ρ2 G2 H2 As2 y Bs2 e2 nd2 r2 s2 k2 => ?_
    obtain ⟨rfl, dy⟩ := r2
    split at k2
    · rename_i c hc
      split at k2
      · rename_i c' hF
        unfold setAt at hF
        split at hF
        · rename_i ds kx
          obtain ⟨m, hm, rfl⟩ := Option.map_eq_some_iff.mp hF
          obtain ⟨a, w1, w2, w3⟩ := s2.mut hc trivial
          rw [hu] at w1
          cases (Option.some.inj (Option.some.inj w1))
          obtain ⟨vs, g1, h2, d2⟩ := ls_inv w2
          cases dy
          refine ⟨a, vs, kx, m, rfl, rfl, h2, by rw [dps_len d2]; exact hm, ?_⟩
          obtain ⟨Cs, t1, t2⟩ := w3 (.lst (vs.set m v)) (.ls (ds.set m d)) (.ls g1 upd_same (DpAll.set (dp_same e2.sub dv) m d2))
          exact (by simpa using k2 : KontS X.K R pins G2 H2 As2 D (.nx (updS i (.ls (ds.set m d)) ρ2))) σ G2 _ Cs t2 t1
        · cases hF
      · exact k2.elim
    · exact k2.elim
  · exact k1.elim
theorem s_setD {i : Nat} {ix e : EF} {st : Stmt} (h : PS X st (sDPut (tVar i) (liftE X.K R ix) (liftE X.K R e))) : PS X st (liftS X.K R (stS i putAt ix e)) := by
  refine PS.weak h fun D σ H ⟨pins, G, ρ, As, s, k⟩ => shS_le σ H _ ⟨pins, G, ρ, As, s, ?_⟩
  refine Kont.bindS k fun d ρ1 G1 H1 As1 v Bs e1 nd1 r1 s1 k1 => ?_
  obtain ⟨rfl, dv⟩ := r1
  split at k1
  · rename_i c0 hc0
    obtain ⟨u, hu⟩ := s1.slots.has hc0
    refine ⟨u, hu, shS_le σ H1 _ ⟨pins, G1, ρ1, As1, s1, ?_⟩⟩
    refine Kont.bindS (by simpa using k1) fun j ρ2 G2 H2 As2 y Bs2 e2 nd2 r2 s2 k2 => ?_
    obtain ⟨rfl, dy⟩ := r2
    split at k2
    · rename_i c hc
      split at k2
      · rename_i c' hF
        unfold putAt at hF
        split at hF
        · rename_i kvs kk hk
          split at hF
          · rename_i hz
            cases Option.some.inj hF
            obtain ⟨a, w1, w2, w3⟩ := s2.mut hc trivial
            rw [hu] at w1
            cases (Option.some.inj (Option.some.inj w1))
            obtain ⟨es, g1, h2, d2⟩ := dk_inv w2
            have ey := key_dp dy hk
            subst ey
            refine ⟨a, _, rfl, DPut.k h2 (by rw [All2.len d2]; exact hz), ?_⟩
            obtain ⟨Cs, t1, t2⟩ := w3 (.dK (putK es kk v)) (.dk (putD kvs kk d)) (.dk g1 upd_same (dks_put (dp_same e2.sub dv) d2))
            exact (by simpa using k2 : KontS X.K R pins G2 H2 As2 D (.nx (updS i (.dk (putD kvs kk d)) ρ2))) σ G2 _ Cs t2 t1
          · cases hF
        · cases hF
      · exact k2.elim
    · exact k2.elim
  · exact k1.elim
theorem lift_orS {st : Stmt} {f f1 f2 : SF} (h1 : PS X st (liftS X.K R f1)) (h2 : PS X st (liftS X.K R f2)) (h : ∀ ρ, f ρ = f1 ρ ∨ f ρ = f2 ρ) : PS X st (liftS X.K R f) := by
  refine ⟨fun pins s σ H D I ⟨pn, G, ρ, As, st, k⟩ => ?_⟩
  rcases h ρ with q | q
  · exact h1.run pins s σ H D I ⟨pn, G, ρ, As, st, by rw [← q]; exact k⟩
  · exact h2.run pins s σ H D I ⟨pn, G, ρ, As, st, by rw [← q]; exact k⟩
theorem stA_or {i : Nat} {ix e : EF} (ρ : En) : stS i stA ix e ρ = stS i setAt ix e ρ ∨ stS i stA ix e ρ = stS i putAt ix e ρ := by
  unfold stS
  cases shE e ρ with
  | er c o ρ => exact .inl rfl
  | stuck => exact .inl rfl
  | ok d ρ1 =>
    show (match getS ρ1 i with | some _ => _ | none => _) = (match getS ρ1 i with | some _ => _ | none => _) ∨ (match getS ρ1 i with | some _ => _ | none => _) = (match getS ρ1 i with | some _ => _ | none => _)
    cases getS ρ1 i with
    | none => exact .inl rfl
    | some c0 =>
      show ((shE ix ρ1).bindS _) = ((shE ix ρ1).bindS _) ∨ ((shE ix ρ1).bindS _) = ((shE ix ρ1).bindS _)
      cases shE ix ρ1 with
      | er c o ρ => exact .inl rfl
      | stuck => exact .inl rfl
      | ok j ρ2 =>
        show (match getS ρ2 i with | some c => _ | none => _) = (match getS ρ2 i with | some c => _ | none => _) ∨ (match getS ρ2 i with | some c => _ | none => _) = (match getS ρ2 i with | some c => _ | none => _)
        cases getS ρ2 i with
        | none => exact .inl rfl
        | some c =>
          cases c with
          | dat d => exact .inl rfl
          | ls ds => exact .inl rfl
          | dk kvs => exact .inr rfl
          | tp es => exact .inl rfl
theorem s_store {i : Nat} {ix e : EF} {st : Stmt} (h : PS X st (tAsg (liftE X.K R e) (gSub (tVar i) (liftE X.K R ix) rSetL))) (h' : PS X st (sDPut (tVar i) (liftE X.K R ix) (liftE X.K R e))) : PS X st (liftS X.K R (stS i stA ix e)) := lift_orS (s_setL h) (s_setD h') stA_or
end
end Vs

namespace Vs
open PySem PySem.Spec PyProof.Rows L2 Ww

/-! ### dicts of one's own, in a slot -/
def dkOf (o : Option O) : Option (List (L2.Key × PyData)) := match o with
  | some (.dk kvs) => some kvs
  | _ => none
/-- looked up: its key among the pairs -/
def look (o : Option O) (d : PyData) : Option (Option PyData) := match dkOf o, keyD d with
  | some kvs, some k => some (valD kvs k)
  | _, _ => none
def dIx (i : Nat) (f : EF) : EF := fun ρ => if isD (getS ρ i) = true then (shE f ρ).bind fun d ρ1 => match look (getS ρ1 i) d with
  | some (some v) => .ok (.dat v) ρ1
  | _ => .stuck else .stuck
def dGet1 (i : Nat) (f : EF) : EF := fun ρ => if isD (getS ρ i) = true then (shE f ρ).bind fun d ρ1 => match look (getS ρ1 i) d with
  | some v => .ok (.dat (v.getD .none)) ρ1
  | _ => .stuck else .stuck
def dGet2 (i : Nat) (f g : EF) : EF := fun ρ => if isD (getS ρ i) = true then (shE f ρ).bind fun d ρ1 => (shE g ρ1).bind fun e ρ2 => match look (getS ρ2 i) d with
  | some v => .ok (.dat (v.getD e)) ρ2
  | _ => .stuck else .stuck
def dIn (i : Nat) (f : EF) : EF := fun ρ => (shE f ρ).bind fun d ρ1 => match look (getS ρ1 i) d with
  | some v => .ok (.dat (.bool v.isSome)) ρ1
  | _ => .stuck
def dNin (i : Nat) (f : EF) : EF := fun ρ => (shE f ρ).bind fun d ρ1 => match look (getS ρ1 i) d with
  | some v => .ok (.dat (.bool (!v.isSome))) ρ1
  | _ => .stuck
def dSetd (i : Nat) (f g : EF) : EF := fun ρ => if isD (getS ρ i) = true then (shE f ρ).bind fun d ρ1 => (shE g ρ1).bind fun e ρ2 => match dkOf (getS ρ2 i), keyD d with
  | some kvs, some k => if kvs.length < sizeLine then (match valD kvs k with
    | some v => .ok (.dat v) ρ2
    | none => .ok (.dat e) (updS i (.dk (putD kvs k e)) ρ2)) else .stuck
  | _, _ => .stuck else .stuck
def newD : EF := fun ρ => .ok (.dk []) ρ
section
variable {K : PySem.W.Frag} {R : RK} {pins σ : L2.St} {G H G' H' : Hp} {As Bs Cs T : List Addr} {Q : VK} {ρ : En} {X : Cx}
theorem dkOf_eq {o : Option O} {kvs : List (L2.Key × PyData)} (h : dkOf o = some kvs) : o = some (.dk kvs) := by
  unfold dkOf at h
  split at h
  · cases Option.some.inj h; rfl
  · cases h
theorem isD_of {o : Option O} (h : Vs.isD o = true) : ∃ kvs, o = some (.dk kvs) := by
  unfold Vs.isD at h
  split at h
  · exact ⟨_, rfl⟩
  · cases h
theorem dk_at {i : Nat} {kvs : List (L2.Key × PyData)} (s : Ste K pins G H σ ρ As) (h : getS ρ i = some (.dk kvs)) : ∃ a es, σ[i]? = some (some (.ref a)) ∧ H a = some (.dK es) ∧ DKs K G es kvs := by
  obtain ⟨v, hv⟩ := s.slots.has h
  obtain ⟨B, r, _⟩ := s.slots.at hv h
  cases r with
  | dk h1 h2 h3 => exact ⟨_, _, hv, h2, h3⟩
theorem look_at {i : Nat} {d : PyData} {y : V} {w : Option PyData} (s : Ste K pins G H σ ρ As) (h : look (getS ρ i) d = some w) (dy : Dp K G y d) : ∃ a o, σ[i]? = some (some (.ref a)) ∧ DGet H a y o ∧ (∀ v, w = some v → ∃ u, o = some u ∧ Dp K G u v) ∧ (w = none → o = none) := by
  unfold look at h
  split at h
  · rename_i kvs k hk1 hk2
    cases (Option.some.inj h : valD kvs k = w)
    obtain ⟨a, es, h1, h2, h3⟩ := dk_at s (dkOf_eq hk1)
    have ey := key_dp dy hk2
    subst ey
    obtain ⟨i1, i2⟩ := dks_val (k := k) h3
    exact ⟨a, _, h1, DGet.k h2, i1, i2⟩
  · cases h
theorem d_slot {i : Nat} {a b : Addr} (h1 : σ[i]? = some (some (.ref a))) (h2 : σ[i]? = some (some (.ref b))) : a = b := by
  rw [h1] at h2
  cases h2
  rfl
theorem dIx_le {i : Nat} {f : EF} (σ : L2.St) (H : Hp) (Q : VK) (h : liftE K R (dIx i f) σ H Q) : tDGet (tVar i) (liftE K R f) σ H Q := by
  obtain ⟨pins, G, ρ, As, s, k⟩ := h
  have k : KontE K R pins σ G H As Q (if Vs.isD (getS ρ i) = true then (shE f ρ).bind fun d ρ1 => match look (getS ρ1 i) d with
    | some (some v) => .ok (.dat v) ρ1
    | _ => .stuck else .stuck) := k
  split at k
  · rename_i hd
    obtain ⟨kvs, e0⟩ := isD_of hd
    obtain ⟨a, es, h1, _, _⟩ := dk_at s e0
    refine ⟨_, h1, shS_le σ H _ ⟨pins, G, ρ, As, s, ?_⟩⟩
    refine Kont.bind (T := []) (Q := Q) s.nd (fun a z => nomatch z) k fun d ρ1 G1 H1 As1 y Bs e1 nd1 r1 s1 k1 => ?_
    obtain ⟨rfl, dy⟩ := r1
    split at k1
    · rename_i v hl
      obtain ⟨b, o, h3, h4, h5, _⟩ := look_at s1 hl dy
      cases d_slot h1 h3
      obtain ⟨u, rfl, du⟩ := h5 v rfl
      exact ⟨a, u, rfl, h4, Kont.now k1 s1 (Bs := []) (fun a z => by simpa using z) s1.nd (.dat du)⟩
    · exact k1.elim
  · exact k.elim
theorem dGet1_le {i : Nat} {f : EF} (σ : L2.St) (H : Hp) (Q : VK) (h : liftE K R (dGet1 i f) σ H Q) : tDGet1 (tVar i) (liftE K R f) σ H Q := by
  obtain ⟨pins, G, ρ, As, s, k⟩ := h
  have k : KontE K R pins σ G H As Q (if Vs.isD (getS ρ i) = true then (shE f ρ).bind fun d ρ1 => match look (getS ρ1 i) d with
    | some v => .ok (.dat (v.getD .none)) ρ1
    | _ => .stuck else .stuck) := k
  split at k
  · rename_i hd
    obtain ⟨kvs, e0⟩ := isD_of hd
    obtain ⟨a, es, h1, h2, _⟩ := dk_at s e0
    refine ⟨_, h1, a, rfl, .inl ⟨es, .inl h2⟩, shS_le σ H _ ⟨pins, G, ρ, As, s, ?_⟩⟩
    refine Kont.bind (T := []) (Q := Q) s.nd (fun a z => nomatch z) k fun d ρ1 G1 H1 As1 y Bs e1 nd1 r1 s1 k1 => ?_
    obtain ⟨rfl, dy⟩ := r1
    split at k1
    · rename_i w hl
      obtain ⟨b, o, h3, h4, h5, h6⟩ := look_at s1 hl dy
      cases d_slot h1 h3
      refine ⟨o, h4, Kont.now k1 s1 (Bs := []) (fun a z => by simpa using z) s1.nd (.dat ?_)⟩
      cases w with
      | none => rw [h6 rfl]; exact .non
      | some v => obtain ⟨u, rfl, du⟩ := h5 v rfl; exact du
    · exact k1.elim
  · exact k.elim
theorem dGet2_le {i : Nat} {f g : EF} (σ : L2.St) (H : Hp) (Q : VK) (h : liftE K R (dGet2 i f g) σ H Q) : tDGet2 (tVar i) (liftE K R f) (liftE K R g) σ H Q := by
  obtain ⟨pins, G, ρ, As, s, k⟩ := h
  have k : KontE K R pins σ G H As Q (if Vs.isD (getS ρ i) = true then (shE f ρ).bind fun d ρ1 => (shE g ρ1).bind fun e ρ2 => match look (getS ρ2 i) d with
    | some v => .ok (.dat (v.getD e)) ρ2
    | _ => .stuck else .stuck) := k
  split at k
  · rename_i hd
    obtain ⟨kvs, e0⟩ := isD_of hd
    obtain ⟨a, es, h1, h2, _⟩ := dk_at s e0
    refine ⟨_, h1, a, rfl, .inl ⟨es, .inl h2⟩, shS_le σ H _ ⟨pins, G, ρ, As, s, ?_⟩⟩
    refine Kont.bind (T := []) (Q := Q) s.nd (fun a z => nomatch z) k fun d ρ1 G1 H1 As1 y Bs e1 nd1 r1 s1 k1 => shS_le σ H1 _ ⟨pins, G1, ρ1, As1, s1, ?_⟩
    obtain ⟨rfl, dy⟩ := r1
    refine Kont.bind (T := []) (Q := Q) s1.nd (fun a z => nomatch z) (by simpa using k1) fun e ρ2 G2 H2 As2 z Bs2 e2 nd2 r2 s2 k2 => ?_
    obtain ⟨rfl, dz⟩ := r2
    split at k2
    · rename_i w hl
      obtain ⟨b, o, h3, h4, h5, h6⟩ := look_at s2 hl (dp_same e2.sub dy)
      cases d_slot h1 h3
      refine ⟨o, h4, Kont.now k2 s2 (Bs := []) (fun a z => by simpa using z) s2.nd (.dat ?_)⟩
      cases w with
      | none => rw [h6 rfl]; exact dz
      | some v => obtain ⟨u, rfl, du⟩ := h5 v rfl; exact du
    · exact k2.elim
  · exact k.elim
theorem dIn_le {i : Nat} {f : EF} (σ : L2.St) (H : Hp) (Q : VK) (h : liftE K R (dIn i f) σ H Q) : tDIn (liftE K R f) (tVar i) σ H Q := by
  obtain ⟨pins, G, ρ, As, s, k⟩ := h
  refine shS_le σ H _ ⟨pins, G, ρ, As, s, ?_⟩
  refine Kont.bind (T := []) (Q := Q) s.nd (fun a z => nomatch z) k fun d ρ1 G1 H1 As1 y Bs e1 nd1 r1 s1 k1 => ?_
  obtain ⟨rfl, dy⟩ := r1
  split at k1
  · rename_i w hl
    obtain ⟨a, o, h3, h4, h5, h6⟩ := look_at s1 hl dy
    have e : o.isSome = w.isSome := by
      cases w with
      | none => rw [h6 rfl]; rfl
      | some v => obtain ⟨u, rfl, _⟩ := h5 v rfl; rfl
    exact ⟨_, h3, a, o, rfl, h4, by rw [e]; exact Kont.now k1 s1 (Bs := []) (fun a z => by simpa using z) s1.nd (.dat (.bl _))⟩
  · exact k1.elim
theorem dNin_le {i : Nat} {f : EF} (σ : L2.St) (H : Hp) (Q : VK) (h : liftE K R (dNin i f) σ H Q) : tDNotIn (liftE K R f) (tVar i) σ H Q := by
  obtain ⟨pins, G, ρ, As, s, k⟩ := h
  refine shS_le σ H _ ⟨pins, G, ρ, As, s, ?_⟩
  refine Kont.bind (T := []) (Q := Q) s.nd (fun a z => nomatch z) k fun d ρ1 G1 H1 As1 y Bs e1 nd1 r1 s1 k1 => ?_
  obtain ⟨rfl, dy⟩ := r1
  split at k1
  · rename_i w hl
    obtain ⟨a, o, h3, h4, h5, h6⟩ := look_at s1 hl dy
    have e : o.isSome = w.isSome := by
      cases w with
      | none => rw [h6 rfl]; rfl
      | some v => obtain ⟨u, rfl, _⟩ := h5 v rfl; rfl
    exact ⟨_, h3, a, o, rfl, h4, by rw [e]; exact Kont.now k1 s1 (Bs := []) (fun a z => by simpa using z) s1.nd (.dat (.bl _))⟩
  · exact k1.elim
theorem dSetd_le {i : Nat} {f g : EF} (σ : L2.St) (H : Hp) (Q : VK) (h : liftE K R (dSetd i f g) σ H Q) : tDSetd (tVar i) (liftE K R f) (liftE K R g) σ H Q := by
  obtain ⟨pins, G, ρ, As, s, k⟩ := h
  have k : KontE K R pins σ G H As Q (if Vs.isD (getS ρ i) = true then (shE f ρ).bind fun d ρ1 => (shE g ρ1).bind fun e ρ2 => match dkOf (getS ρ2 i), keyD d with
    | some kvs, some k => if kvs.length < sizeLine then (match valD kvs k with
      | some v => .ok (.dat v) ρ2
      | none => .ok (.dat e) (updS i (.dk (putD kvs k e)) ρ2)) else .stuck
    | _, _ => .stuck else .stuck) := k
  split at k
  · rename_i hd
    obtain ⟨kvs, e0⟩ := isD_of hd
    obtain ⟨a, es, h1, h2, _⟩ := dk_at s e0
    refine ⟨_, h1, a, rfl, .inl ⟨es, .inl h2⟩, shS_le σ H _ ⟨pins, G, ρ, As, s, ?_⟩⟩
    refine Kont.bind (T := []) (Q := Q) s.nd (fun a z => nomatch z) k fun d ρ1 G1 H1 As1 y Bs e1 nd1 r1 s1 k1 => shS_le σ H1 _ ⟨pins, G1, ρ1, As1, s1, ?_⟩
    obtain ⟨rfl, dy⟩ := r1
    refine Kont.bind (T := []) (Q := Q) s1.nd (fun a z => nomatch z) (by simpa using k1) fun e ρ2 G2 H2 As2 z Bs2 e2 nd2 r2 s2 k2 => ?_
    obtain ⟨rfl, dz⟩ := r2
    split at k2
    · rename_i kvs2 kk hk1 hk2
      split at k2
      · rename_i hz
        obtain ⟨b, es2, h3, h4, h5⟩ := dk_at s2 (dkOf_eq hk1)
        cases d_slot h1 h3
        have ey := key_dp (dp_same e2.sub dy) hk2
        subst ey
        obtain ⟨i1, i2⟩ := dks_val (k := kk) h5
        refine ⟨es2, kk, h4, rfl, by rw [All2.len h5]; exact hz, fun v hv => ?_, fun hn => ?_⟩
        · split at k2
          · rename_i w hw
            obtain ⟨u, e3, du⟩ := i1 w hw
            rw [hv] at e3
            cases Option.some.inj e3
            exact Kont.now k2 s2 (Bs := []) (fun a z => by simpa using z) s2.nd (.dat du)
          · rename_i hw
            rw [i2 hw] at hv
            cases hv
        · split at k2
          · rename_i w hw
            obtain ⟨u, e3, du⟩ := i1 w hw
            rw [hn] at e3
            cases e3
          · obtain ⟨a', w1, w2, w3⟩ := s2.mut (dkOf_eq hk1) trivial
            cases d_slot h1 w1
            obtain ⟨es', g1, g2, g3⟩ := dk_inv w2
            rw [h4] at g2
            cases g2
            obtain ⟨Cs, t1, t2⟩ := w3 (.dK (putK es2 kk z)) (.dk (putD kvs2 kk e)) (.dk g1 upd_same (dks_put dz h5))
            exact k2 G2 _ Cs z [] (by simpa using t2) t1.nd (.dat dz) t1
      · exact k2.elim
    · exact k2.elim
  · exact k.elim
theorem newD_le (σ : L2.St) (H : Hp) (Q : VK) (h : liftE K R newD σ H Q) : tDNewK σ H Q := by
  obtain ⟨pins, G, ρ, As, s, k⟩ := h
  exact fun p np => KontE.grow s (T := []) k (grow_new s.sub np) (grow_dk s.sub np trivial)
end
/-- x[k], x in a slot: a list, a tuple, a text, a dict -/
def ixS (i : Nat) (f : EF) : EF := fun ρ => if Vs.isD (getS ρ i) = true then dIx i f ρ else op2 ixO (slotF i) (tmpF f) ρ
def inS (i : Nat) (f : EF) : EF := fun ρ => if Vs.isD (getS ρ i) = true then dIn i f ρ else op2 inO (tmpF f) (slotF i) ρ
def ninS (i : Nat) (f : EF) : EF := fun ρ => if Vs.isD (getS ρ i) = true then dNin i f ρ else op2 ninO (tmpF f) (slotF i) ρ
section
variable {X : Cx} {R : RK} {e e1 e2 o : Expr} {f g : EF} {pos : Pos} {i : Nat}
theorem pf_ixS (hu : X.A.units + 1 < cLine) (ho : PE X o (tVar i)) (he : PE X e (liftE X.K R f)) (hs : PlainIx e := by intro _ _; rfl) (hn : NoSl e := by intro _ _; rfl) : PE X (.Subscript o e pos) (liftE X.K R (ixS i f)) := by
  refine lift_or (f1 := dIx i f) (f2 := op2 ixO (slotF i) (tmpF f)) (PE.weak (pe_dget hu ho he hn) dIx_le) (pf_ix (slot_ok ho) (tmp_ok he) hs) fun ρ => ?_
  unfold ixS
  split
  · exact .inl rfl
  · exact .inr rfl
theorem pf_inS (hu : X.A.units + 64 < cLine) (ho : PE X o (tVar i)) (he : PE X e (liftE X.K R f)) (hm : behindInMarks .In o = false := by rfl) : PE X (.Compare e [.In] [o] pos) (liftE X.K R (inS i f)) := by
  refine lift_or (f1 := dIn i f) (f2 := op2 inO (tmpF f) (slotF i)) (PE.weak (pe_cmp (pc_din (by omega) he ho) hm) dIn_le) (pf_in hu (tmp_ok he) (slot_ok ho) hm) fun ρ => ?_
  unfold inS
  split
  · exact .inl rfl
  · exact .inr rfl
theorem pf_ninS (hu : X.A.units + 64 < cLine) (ho : PE X o (tVar i)) (he : PE X e (liftE X.K R f)) (hm : behindInMarks .NotIn o = false := by rfl) : PE X (.Compare e [.NotIn] [o] pos) (liftE X.K R (ninS i f)) := by
  refine lift_or (f1 := dNin i f) (f2 := op2 ninO (tmpF f) (slotF i)) (PE.weak (pe_cmp (pc_dnotin (by omega) he ho) hm) dNin_le) (pf_nin hu (tmp_ok he) (slot_ok ho) hm) fun ρ => ?_
  unfold ninS
  split
  · exact .inl rfl
  · exact .inr rfl
theorem pf_newD : PE X (.Dict [] [] pos) (liftE X.K R newD) := PE.weak pe_dnewK newD_le
theorem m_get1 {apos cpos : Pos} (hu : X.A.units + 1 < cLine) (ho : PE X o (tVar i)) (he : PE X e (liftE X.K R f)) (m : M1 X o "get" apos e cpos) : PE X (.Call (.Attribute o "get" apos) [e] [] cpos) (liftE X.K R (dGet1 i f)) := PE.weak (pe_dget1 hu ho he m) dGet1_le
theorem m_get2 {apos cpos : Pos} (hu : X.A.units + 1 < cLine) (ho : PE X o (tVar i)) (he : PE X e1 (liftE X.K R f)) (hf : PE X e2 (liftE X.K R g)) (m : M2 X o "get" apos e1 e2 cpos) : PE X (.Call (.Attribute o "get" apos) [e1, e2] [] cpos) (liftE X.K R (dGet2 i f g)) := PE.weak (pe_dget2 hu ho he hf m) dGet2_le
theorem m_setd {apos cpos : Pos} (ho : PE X o (tVar i)) (he : PE X e1 (liftE X.K R f)) (hf : PE X e2 (liftE X.K R g)) (m : M2 X o "setdefault" apos e1 e2 cpos) : PE X (.Call (.Attribute o "setdefault" apos) [e1, e2] [] cpos) (liftE X.K R (dSetd i f g)) := PE.weak (pe_dsetd ho he hf m) dSetd_le
end
end Vs

namespace Vs
open PySem PySem.Spec PyProof.Rows L2 Ww

/-- no class of an exception is known -/
def cl0 : Str → Option Addr := fun _ => none
section
variable {K : PySem.W.Frag} {R : RK} {X : Cx}
theorem spF_len {cl : Str → Option Addr} {np n : Nat} {body : SF} {vs : List V} {H : Hp} {Q : VK} {E : XK} (h : spF K cl (defF np n body) vs H Q E) : vs.length = np := by
  obtain ⟨G, os, As, r, nd, sub, k⟩ := h
  unfold defF at k
  by_cases hl : os.length = np
  · exact (RepOs.len r).trans hl
  · rw [if_neg hl] at k
    exact k.elim
theorem def0 {vs : List V} {np n : Nat} {body : SF} {E : XK} {N : List Str} {H : Hp} {Q : VK} (hN : N.length = n) (h : spF K cl0 (defF np n body) vs H Q E) (hnp : np ≤ n) :
    liftS K R0 body { nx := fun _ H' => Q .non H', rt := Q } (L2.start N vs) H := def_ok hN h hnp fun _ _ _ _ ⟨_, z, _⟩ => nomatch z
theorem spF_none {vs : List V} {H : Hp} {Q : VK} {E : XK} {cl : Str → Option Addr} (h : spF K cl (fun _ => .stuck) vs H Q E) : False := by
  obtain ⟨G, os, As, r, nd, sub, k⟩ := h
  exact k
theorem PTs.weak {ifs : List Expr} {t t' : TT} (h : PTs X ifs t) (k : ∀ σ H Q, t' σ H Q → t σ H Q) : PTs X ifs t' := ⟨fun pins s σ H Q I q => h.run pins s σ H Q I (k σ H Q q)⟩
theorem ts_yes : PTs X [] (liftT X.K R yesT) := PTs.weak pts_nil fun σ H Q ⟨pins, G, ρ, As, s, k⟩ => Kont.now k s (Bs := []) (fun a z => z) s.nd ⟨rfl, rfl⟩
theorem ts_one {c : Expr} {f : TF} (h : PT X c (liftT X.K R f)) : PTs X [c] (liftT X.K R f) := pts_one h
variable {elt tg iter : Expr} {ifs : List Expr} {scope : Scope} {own : List (Str × Nat)} {pos : Pos}
theorem pf_lc (it : IF) (t : Tg) (c : TF) (e : EF) (hc : X.calm = true) (hN : X.N.Nodup) (hi : PI X tg iter (liftI X.K R it)) (ok : BlkOk X.N X.env.scope scope own)
    (hg : ∀ (s : Shared) (H : Hp) (C : Addr) (cl : List (Str × Addr)) (fp : List Addr), PG (X.blk s H scope (compEnvC scope cl C X.env) fp) tg (liftG X.K t)) (ht : ∀ (s : Shared) (H : Hp) (C : Addr) (cl : List (Str × Addr)) (fp : List Addr), PTs (X.blk s H scope (compEnvC scope cl C X.env) fp) ifs (liftT X.K R0 c))
    (he : ∀ (s : Shared) (H : Hp) (C : Addr) (cl : List (Str × Addr)) (fp : List Addr), PE (X.blk s H scope (compEnvC scope cl C X.env) fp) elt (liftE X.K R0 e)) (hws : ∀ i ∈ t.ws, i ∈ own.map (·.2)) (hs : ∀ x, foldedSetIterable iter X.env x = pure x := by intro _; rfl) :
    PE X (.ListComp elt [⟨tg, iter, ifs, 0⟩] scope pos) (liftE X.K R (lcF it t c e (own.map (·.2)))) := PE.weak (pe_lc hc hN hi ok hg ht he hs) (lc_le hws)
theorem s_setLc (it : IF) (t : Tg) (c : TF) (e : EF) {i : Nat} {y : Str} {py spos : Pos} (hc : X.calm = true) (hN : X.N.Nodup) (hy : X.N[i]? = some y) (hyl : X.env.scope.names.lookup y = some .local) (hsw : swapsWith (.ListComp elt [⟨tg, iter, ifs, 0⟩] scope pos) (some (.Name y py)) spos.line X.env = pure true) (hi : PI X tg iter (liftI X.K R it)) (ok : BlkOk X.N X.env.scope scope own)
    (hg : ∀ (s : Shared) (H : Hp) (C : Addr) (cl : List (Str × Addr)) (fp : List Addr), PG (X.blk s H scope (compEnvC scope cl C X.env) fp) tg (liftG X.K t)) (ht : ∀ (s : Shared) (H : Hp) (C : Addr) (cl : List (Str × Addr)) (fp : List Addr), PTs (X.blk s H scope (compEnvC scope cl C X.env) fp) ifs (liftT X.K R0 c))
    (he : ∀ (s : Shared) (H : Hp) (C : Addr) (cl : List (Str × Addr)) (fp : List Addr), PE (X.blk s H scope (compEnvC scope cl C X.env) fp) elt (liftE X.K R0 e)) (hws : ∀ i ∈ t.ws, i ∈ own.map (·.2)) (hs : ∀ x, foldedSetIterable iter X.env x = pure x := by intro _; rfl) :
    PS X (.Assign [.Name y py] (.ListComp elt [⟨tg, iter, ifs, 0⟩] scope pos) spos) (liftS X.K R (setS i (lcF it t c e (own.map (·.2))))) := by
  refine s_set (i := i) (PS.weak (ps_setLc hc hN hy hyl hsw hi ok hg ht he hs) fun D σ H q => ?_)
  exact lc_le hws σ H (fun x H1 => gName i x σ H1 D.nx) q
end

/-! ### methods of lists, in a slot -/
section
variable {X : Cx} {R : RK} {e e1 e2 o : Expr} {f g : EF} {pos apos cpos : Pos} {i : Nat}
theorem m_append (h : PE X o (tBM X.K "list" rAppend (tVar i) (tCons (liftE X.K R f) tNil))) : PE X o (liftE X.K R (mm1 i appO f)) := PE.weak h (mm1_le mut_append)
theorem m_pop (h : PE X o (tBM0 X.K "list" rPop (tVar i))) : PE X o (liftE X.K R (mm0 i popO)) := PE.weak h (mm0_le mut_pop)
theorem m_popAt (h : PE X o (tBM X.K "list" rPopAt (tVar i) (tCons (liftE X.K R f) tNil))) : PE X o (liftE X.K R (mm1 i popAtO f)) := PE.weak h (mm1_le mut_popAt)
theorem m_clear (h : PE X o (tBM0 X.K "list" rClear (tVar i))) : PE X o (liftE X.K R (mm0 i clearO)) := PE.weak h (mm0_le mut_clear)
theorem m_reverse (h : PE X o (tBM0 X.K "list" rReverse (tVar i))) : PE X o (liftE X.K R (mm0 i revO)) := PE.weak h (mm0_le mut_rev)
end
/-! insert, extend -/
def insO : O → PyData → PyData → Ch
  | .ls ds, .int i, d => if ds.length < sizeLine ∧ 0 ≤ i ∧ i < 2 ^ 63 then some (.ls (ds.take i.toNat ++ [d] ++ ds.drop i.toNat), .none) else none
  | _, _, _ => none
abbrev rInsert : V → List V → Hp → VK → Prop := fun x vs H Q => ∃ (l : Addr) (xs : List V) (i : Int) (y : V), x = .ref l ∧ vs = [.int i, y] ∧ H l = some (.lst xs) ∧ xs.length < sizeLine ∧ 0 ≤ i ∧ i < 2 ^ 63 ∧
    Q .non (upd H l (.lst (xs.take i.toNat ++ [y] ++ xs.drop i.toNat)))
section
variable {K : PySem.W.Frag}
theorem mut_insert : Mut2 K rInsert insO := by
  intro G H a x y o o' e f d Q s h
  cases o with
  | ls ds =>
    cases e with
    | int i =>
      have h : (if ds.length < sizeLine ∧ 0 ≤ i ∧ i < 2 ^ 63 then some (O.ls (ds.take i.toNat ++ [f] ++ ds.drop i.toNat), PyData.none) else none) = some (o', d) := h
      split at h
      · rename_i hz
        cases Option.some.inj h
        refine ⟨trivial, fun r dx dy k => ?_⟩
        obtain ⟨vs, h1, h2, h3⟩ := ls_inv r
        cases dx
        exact ⟨a, vs, i, y, rfl, rfl, h2, by rw [dps_len h3]; exact hz.1, hz.2.1, hz.2.2, k _ _ (.ls h1 upd_same (DpAll.app (DpAll.app (DpAll.take _ h3) (.cons dy .nil)) (DpAll.drop _ h3))) .non⟩
      · cases h
    | _ => cases h
  | _ => cases h
theorem m_insert {X : Cx} {R : RK} {o : Expr} {f g : EF} {i : Nat} (h : PE X o (tBM X.K "list" rInsert (tVar i) (tCons (liftE X.K R f) (tCons (liftE X.K R g) tNil)))) : PE X o (liftE X.K R (mm2 i insO f g)) := PE.weak h (mm2_le mut_insert)
end
/-! ### list.index, list.count on what is read -/
def idxO (a b : O) : Option O := match a.lv, b.dv with
    | some ds, some d => if SeqAt.shaped (.list ds) = true ∧ SeqAt.shaped d = true then (ds.findIdx? fun z => PyData.eqv z d).map fun j => .dat (.int ((j : Nat) : Int)) else none
    | _, _ => none
def isLst (o : O) : Bool := o.lv.isSome
section
variable {K : PySem.W.Frag} {G H : Hp}
theorem findIdx?_at {α : Type} {p : α → Bool} : ∀ {ds : List α} {j : Nat}, ds.findIdx? p = some j → ∃ z, ds[j]? = some z ∧ p z = true ∧ ∀ (m : Nat) z', m < j → ds[m]? = some z' → p z' = false := by
  intro ds j h
  rw [List.findIdx?_eq_some_iff_getElem] at h
  obtain ⟨h1, h2, h3⟩ := h
  refine ⟨ds[j], List.getElem?_eq_getElem h1, h2, fun m z' hm hz => ?_⟩
  obtain ⟨hl, e⟩ := List.getElem?_eq_some_iff.mp hz
  rw [← e]
  simpa using h3 m hm
theorem prim_index : Prim2 K (fun x y H Q => rIndexD K x [y] H Q) idxO := by
  intro G H x y a b o B C Q s ra rb h k
  unfold idxO at h
  cases hl : a.lv with
  | none => rw [hl] at h; cases h
  | some ds =>
    cases hd : b.dv with
    | none => rw [hl, hd] at h; cases h
    | some d =>
      rw [hl, hd] at h
      have h : (if SeqAt.shaped (.list ds) = true ∧ SeqAt.shaped d = true then (ds.findIdx? fun z => PyData.eqv z d).map fun j => O.dat (.int ((j : Nat) : Int)) else none) = some o := h
      split at h
      · rename_i hz
        obtain ⟨j, hj, rfl⟩ := Option.map_eq_some_iff.mp h
        obtain ⟨z, w1, w2, w3⟩ := findIdx?_at hj
        obtain ⟨p, vs, rfl, hp, dp⟩ := ra.lv s hl
        exact ⟨p, y, d, ds, j, z, rfl, rfl, .lst hp (dps_same s dp), rb.dp s hd, hz.1, hz.2, w1, w2, w3, Grow.dat s (.int _) k⟩
      · cases h
theorem isLst_of {v : V} {a : O} {B : List Addr} {G H : Hp} (s : Sub G H) (r : RepO K G H v a B) (h : isLst a = true) : tyV K "list" v H := by
  obtain ⟨ds, hd⟩ := Option.isSome_iff_exists.mp h
  obtain ⟨p, vs, rfl, hp, _⟩ := r.lv s hd
  exact .inl ⟨rfl, vs, hp⟩
end
section
variable {K : PySem.W.Frag} {R : RK} {pins σ : L2.St} {G H G' H' : Hp} {As Bs Cs T : List Addr} {Q : VK}
/-- as op2c_le, what is seen of the first operand hangs on the heap -/
theorem op2h_le {f g : PF} {r : R2} {c : O → Bool} {C : V → Hp → Prop} {F : O → O → Option O} (hc : ∀ G H v a B, Sub G H → RepO K G H v a B → c a = true → C v H) (p : Prim2 K r F) (σ : L2.St) (H : Hp) (Q : VK) (h : liftE K R (op2c c F f g) σ H Q) : liftP K R f σ H fun x H1 => C x H1 ∧ liftP K R g σ H1 fun y H2 => r x y H2 Q := by
  obtain ⟨pins, G, ρ, As, s, k⟩ := h
  refine ⟨pins, G, ρ, As, s, ?_⟩
  refine Kont.bind (T := []) (Q := Q) s.nd (fun a z => nomatch z) k fun q ρ1 G1 H1 As1 v Bs e1 nd1 r1 s1 k1 => ?_
  split at k1
  · rename_i a0 ha0
    split at k1
    · rename_i hca
      obtain ⟨Cs0, rc0⟩ := RepP.get r1 s1 ha0
      refine ⟨hc _ _ _ _ _ s1.sub rc0 hca, pins, G1, ρ1, As1, s1, ?_⟩
      have nd1' : (Bs ++ As1).Nodup := by simpa using nd1
      refine Kont.bind (T := Bs) (Q := Q) nd1' (RepP.there r1) (by simpa using k1) fun q2 ρ2 G2 H2 As2 v2 Bs2 e2 nd2 r2 s2 k2 => ?_
      have k2 : KontE K R pins σ G2 H2 (Bs ++ (Bs2 ++ As2)) Q (fin2 F (q.get ρ2) (q2.get ρ2) ρ2) := k2
      have r1' := RepP.ext r1 e2 (nd_disj nd1')
      unfold fin2 at k2
      split at k2
      · rename_i a b ha hb
        split at k2
        · rename_i o ho
          obtain ⟨Cs, rc⟩ := RepP.get r1' s2 ha
          obtain ⟨Ds, rd⟩ := RepP.get r2 s2 hb
          exact p G2 H2 v v2 a b o Cs Ds Q s2.sub rc rd ho fun G3 H3 w Es g re => KontE.grow s2 (T := Bs ++ Bs2) (by simpa using k2) g re
        · exact k2.elim
      · exact k2.elim
    · exact k1.elim
  · exact k1.elim
theorem m_index {X : Cx} {o : Expr} {f g : PF} (h : PE X o (tBM X.K "list" (rIndexD X.K) (liftP X.K R f) (tCons (liftP X.K R g) tNil))) : PE X o (liftE X.K R (op2c isLst idxO f g)) :=
  PE.weak h fun σ H Q hw => op2h_le (fun G H v a B s r h => isLst_of s r h) prim_index σ H Q hw
end
/-! ### a dict of the module: texts by texts -/
def kdO (tbl : List (Str × Str)) : O → Option O
  | .dat (.str z) => (tbl.lookup z).map fun y => .dat (.str y)
  | _ => none
def kdIn (tbl : List (Str × Str)) : O → Option O
  | .dat (.str z) => if (tbl.lookup z).isSome = true then bo true else none
  | _ => none
def kdNin (tbl : List (Str × Str)) : O → Option O
  | .dat (.str z) => if (tbl.lookup z).isSome = true then bo false else none
  | _ => none
structure KTbl (K : PySem.W.Frag) (w : World) (a : Addr) (es : Array DictEntry) (n : Nat) (tbl : List (Str × Str)) : Prop where
  D : KDict K w a es n
  at_ : ∀ p ∈ tbl, ∃ t, PySem.W.nsIn K a p.1 = some (some (.str p.2 t))
theorem lookup_mem {tbl : List (Str × Str)} {z y : Str} (h : tbl.lookup z = some y) : (z, y) ∈ tbl := PySem.mem_of_lookup h
section
variable {X : Cx} {R : RK} {e c : Expr} {f : PF} {pos : Pos} {a : Addr} {es : Array DictEntry} {n : Nat} {tbl : List (Str × Str)}
theorem KTbl.dct (k : KTbl X.K X.w a es n tbl) {z y : Str} (h : tbl.lookup z = some y) : KDct X.K X.w a z (.str y) := by
  obtain ⟨t, ht⟩ := k.at_ _ (lookup_mem h)
  exact ⟨es, n, _, k.D.at_, k.D.lit, ht, t, rfl⟩
theorem pf_kd (k : KTbl X.K X.w a es n tbl) (hc : PE X c (tC (.ref a))) (he : PE X e (liftP X.K R f)) (hs : PlainIx e := by intro _ _; rfl) : PE X (.Subscript c e pos) (liftE X.K R (op1 (kdO tbl) f)) := by
  refine PE.weak (pe_ix ix_kdict hc he hs) fun σ H Q hw => ?_
  refine op1_le (r := fun y H Q => rIxD X.K X.w (.ref a) y H Q) (fun G H x o1 o B Q s ra h q => ?_) σ H Q hw
  unfold kdO at h
  split at h
  · obtain ⟨y, hy, rfl⟩ := Option.map_eq_some_iff.mp h
    exact ⟨a, _, _, rfl, dat_str ra, k.dct hy, Grow.dat s (.str _) q⟩
  · cases h
theorem pf_kdNin (k : KTbl X.K X.w a es n tbl) (he : PE X e (liftP X.K R f)) (hc : PE X c (tC (.ref a))) (hm : behindInMarks .NotIn c = false := by rfl) : PE X (.Compare e [.NotIn] [c] pos) (liftE X.K R (op1 (kdNin tbl) f)) := by
  refine PE.weak (pe_cmpR (op_notIn_kd k.D) he hc hm) fun σ H Q hw => ?_
  refine op1_le (r := fun x H Q => ∃ (z : Str) (r : Option Value), x = .str z ∧ V.ref a = .ref a ∧ PySem.W.nsIn X.K a z = some r ∧ Q (.bl (!r.isSome)) H) (fun G H x o1 o B Q s ra h q => ?_) σ H Q hw
  unfold kdNin at h
  split at h
  · split at h
    · rename_i hz
      obtain ⟨y, hy⟩ := Option.isSome_iff_exists.mp hz
      obtain ⟨t, ht⟩ := k.at_ _ (lookup_mem hy)
      cases Option.some.inj h
      exact ⟨_, _, dat_str ra, rfl, ht, Grow.dat s (.bl _) q⟩
    · cases h
  · cases h
theorem pf_kdIn (k : KTbl X.K X.w a es n tbl) (he : PE X e (liftP X.K R f)) (hc : PE X c (tC (.ref a))) (hm : behindInMarks .In c = false := by rfl) : PE X (.Compare e [.In] [c] pos) (liftE X.K R (op1 (kdIn tbl) f)) := by
  refine PE.weak (pe_cmpR (op_in_kd k.D) he hc hm) fun σ H Q hw => ?_
  refine op1_le (r := fun x H Q => ∃ (z : Str) (r : Option Value), x = .str z ∧ V.ref a = .ref a ∧ PySem.W.nsIn X.K a z = some r ∧ Q (.bl r.isSome) H) (fun G H x o1 o B Q s ra h q => ?_) σ H Q hw
  unfold kdIn at h
  split at h
  · split at h
    · rename_i hz
      obtain ⟨y, hy⟩ := Option.isSome_iff_exists.mp hz
      obtain ⟨t, ht⟩ := k.at_ _ (lookup_mem hy)
      cases Option.some.inj h
      exact ⟨_, _, dat_str ra, rfl, ht, Grow.dat s (.bl _) q⟩
    · cases h
  · cases h
end
end Vs

namespace Vs
open PySem PySem.Spec PyProof.Rows L2 Ww

/-! ### in, not in, as tests -/
section
variable {X : Cx} {R : RK} {a b e o c : Expr} {f g : PF} {pos : Pos}
theorem lift_orT {e : Expr} {f f1 f2 : TF} (h1 : PT X e (liftT X.K R f1)) (h2 : PT X e (liftT X.K R f2)) (h : ∀ ρ, f ρ = f1 ρ ∨ f ρ = f2 ρ) : PT X e (liftT X.K R f) := by
  refine ⟨fun pins s σ H Q I ⟨pn, G, ρ, As, st, k⟩ => ?_⟩
  rcases h ρ with q | q
  · exact h1.run pins s σ H Q I ⟨pn, G, ρ, As, st, by rw [← q]; exact k⟩
  · exact h2.run pins s σ H Q I ⟨pn, G, ρ, As, st, by rw [← q]; exact k⟩
theorem pt_in (hu : X.A.units + 64 < cLine) (ha : PE X a (liftP X.K R f)) (hb : PE X b (liftP X.K R g)) (hm : behindInMarks .In b = false := by rfl) : PT X (.Compare a [.In] [b] pos) (liftT X.K R (tstF (op2 inO f g))) := tst_ok (pt_cmpR (OpR.or op_in_str (op_inP hu)) ha hb hm) (op2_le prim_in)
theorem pt_nin (hu : X.A.units + 64 < cLine) (ha : PE X a (liftP X.K R f)) (hb : PE X b (liftP X.K R g)) (hm : behindInMarks .NotIn b = false := by rfl) : PT X (.Compare a [.NotIn] [b] pos) (liftT X.K R (tstF (op2 ninO f g))) := tst_ok (pt_cmpR (OpR.or op_notin_str (op_ninP hu)) ha hb hm) (op2_le prim_nin)
theorem tst_if {i : Nat} {f1 f2 : EF} {p : En → Prop} [DecidablePred p] (ρ : En) : tstF (fun ρ => if p ρ then f1 ρ else f2 ρ) ρ = tstF f1 ρ ∨ tstF (fun ρ => if p ρ then f1 ρ else f2 ρ) ρ = tstF f2 ρ := by
  unfold tstF
  by_cases c : p ρ
  · exact .inl (by simp only [if_pos c])
  · exact .inr (by simp only [if_neg c])
theorem pt_inS {i : Nat} {f : EF} (hu : X.A.units + 64 < cLine) (ho : PE X o (tVar i)) (he : PE X e (liftE X.K R f)) (hm : behindInMarks .In o = false := by rfl) : PT X (.Compare e [.In] [o] pos) (liftT X.K R (tstF (inS i f))) :=
  lift_orT (f1 := tstF (dIn i f)) (f2 := tstF (op2 inO (tmpF f) (slotF i))) (tst_ok (pt_cmp (pc_din (by omega) he ho) hm) dIn_le) (pt_in hu (tmp_ok he) (slot_ok ho) hm) (tst_if (i := 0))
theorem pt_ninS {i : Nat} {f : EF} (hu : X.A.units + 64 < cLine) (ho : PE X o (tVar i)) (he : PE X e (liftE X.K R f)) (hm : behindInMarks .NotIn o = false := by rfl) : PT X (.Compare e [.NotIn] [o] pos) (liftT X.K R (tstF (ninS i f))) :=
  lift_orT (f1 := tstF (dNin i f)) (f2 := tstF (op2 ninO (tmpF f) (slotF i))) (tst_ok (pt_cmp (pc_dnotin (by omega) he ho) hm) dNin_le) (pt_nin hu (tmp_ok he) (slot_ok ho) hm) (tst_if (i := 0))
variable {d : Addr} {es : Array DictEntry} {n : Nat} {tbl : List (Str × Str)}
theorem kdNin_le (k : KTbl X.K X.w d es n tbl) (σ : L2.St) (H : Hp) (Q : VK) (hw : liftE X.K R (op1 (kdNin tbl) f) σ H Q) : tOp (fun x y H Q => ∃ (z : Str) (r : Option Value), x = .str z ∧ y = .ref d ∧ PySem.W.nsIn X.K d z = some r ∧ Q (.bl (!r.isSome)) H) (liftP X.K R f) (tC (.ref d)) σ H Q := by
  refine op1_le (r := fun x H Q => ∃ (z : Str) (r : Option Value), x = .str z ∧ V.ref d = .ref d ∧ PySem.W.nsIn X.K d z = some r ∧ Q (.bl (!r.isSome)) H) (fun G H x o1 o B Q s ra h q => ?_) σ H Q hw
  unfold kdNin at h
  split at h
  · split at h
    · rename_i hz
      obtain ⟨y, hy⟩ := Option.isSome_iff_exists.mp hz
      obtain ⟨t, ht⟩ := k.at_ _ (lookup_mem hy)
      cases Option.some.inj h
      exact ⟨_, _, dat_str ra, rfl, ht, Grow.dat s (.bl _) q⟩
    · cases h
  · cases h
theorem kdIn_le (k : KTbl X.K X.w d es n tbl) (σ : L2.St) (H : Hp) (Q : VK) (hw : liftE X.K R (op1 (kdIn tbl) f) σ H Q) : tOp (fun x y H Q => ∃ (z : Str) (r : Option Value), x = .str z ∧ y = .ref d ∧ PySem.W.nsIn X.K d z = some r ∧ Q (.bl r.isSome) H) (liftP X.K R f) (tC (.ref d)) σ H Q := by
  refine op1_le (r := fun x H Q => ∃ (z : Str) (r : Option Value), x = .str z ∧ V.ref d = .ref d ∧ PySem.W.nsIn X.K d z = some r ∧ Q (.bl r.isSome) H) (fun G H x o1 o B Q s ra h q => ?_) σ H Q hw
  unfold kdIn at h
  split at h
  · split at h
    · rename_i hz
      obtain ⟨y, hy⟩ := Option.isSome_iff_exists.mp hz
      obtain ⟨t, ht⟩ := k.at_ _ (lookup_mem hy)
      cases Option.some.inj h
      exact ⟨_, _, dat_str ra, rfl, ht, Grow.dat s (.bl _) q⟩
    · cases h
  · cases h
theorem pt_kdNin (k : KTbl X.K X.w d es n tbl) (he : PE X e (liftP X.K R f)) (hc : PE X c (tC (.ref d))) (hm : behindInMarks .NotIn c = false := by rfl) : PT X (.Compare e [.NotIn] [c] pos) (liftT X.K R (tstF (op1 (kdNin tbl) f))) := tst_ok (pt_cmpR (op_notIn_kd k.D) he hc hm) (kdNin_le k)
theorem pt_kdIn (k : KTbl X.K X.w d es n tbl) (he : PE X e (liftP X.K R f)) (hc : PE X c (tC (.ref d))) (hm : behindInMarks .In c = false := by rfl) : PT X (.Compare e [.In] [c] pos) (liftT X.K R (tstF (op1 (kdIn tbl) f))) := tst_ok (pt_cmpR (op_in_kd k.D) he hc hm) (kdIn_le k)
end

/-! ### calls by keywords alone -/
def revC (g : CF) : CF := fun ρ => (g ρ).bind fun os ρ1 => .ok os.reverse ρ1
section
variable {K : PySem.W.Frag} {R : RK} {pins σ : L2.St} {G H G' H' : Hp} {As Bs Cs T : List Addr} {Q : VK} {ρ : En} {X : Cx}
theorem PK.weak {e : List Keyword} {t t' : TA} (h : PK X e t) (k : ∀ σ H Q, t' σ H Q → t σ H Q) : PK X e t' := ⟨fun pos pins s σ H Q I q => h.run pos pins s σ H Q I (k σ H Q q)⟩
theorem pk_nilC : PK X [] (liftC X.K R nilC) := by
  refine PK.weak pk_nil fun σ H Q ⟨pins, G, ρ, As, s, k⟩ => ?_
  exact Kont.now k s (Bs := []) (fun a z => z) s.nd .nil
theorem consC_le {f : C1F} {g : CF} (σ : L2.St) (H : Hp) (Q : List V → Hp → Prop) (h : liftC K R (consC f g) σ H Q) : tCons (liftC1 K R f) (liftC K R g) σ H Q := by
  obtain ⟨pins, G, ρ, As, s, k⟩ := h
  refine ⟨pins, G, ρ, As, s, ?_⟩
  refine Kont.bind (T := []) (Q := Q) s.nd (fun a z => nomatch z) k fun o ρ1 G1 H1 As1 v Bs e1 nd1 r1 s1 k1 => ⟨pins, G1, ρ1, As1, s1, ?_⟩
  have nd1' : (Bs ++ As1).Nodup := by simpa using nd1
  refine Kont.bind (T := Bs) (Q := Q) nd1' (RepC1.there r1) (by simpa using k1) fun os ρ2 G2 H2 As2 vs Cs e2 nd2 r2 s2 k2 => ?_
  have r1' := RepC1.ext r1 e2 (nd_disj nd1')
  refine Kont.now (Bs := Bs ++ Cs) k2 s2 (fun a z => by simpa using z) (by simpa using nd2) ?_
  cases r1' with
  | o r => exact .o r r2
  | b h r => exact .b h r r2
theorem pk_consC {nm : Option Str} {e : Expr} {kpos : Pos} {es : List Keyword} {f : C1F} {g : CF} (h1 : PE X e (liftC1 X.K R f)) (h2 : PK X es (liftC X.K R g)) : PK X (⟨nm, e, kpos⟩ :: es) (liftC X.K R (consC f g)) := PK.weak (pk_cons h1 h2) consC_le
theorem RepC.app {vs ws : List V} {os us : List AO} {Bs Cs : List Addr} (r : RepC K G H σ vs os Bs) (q : RepC K G H σ ws us Cs) : RepC K G H σ (vs ++ ws) (os ++ us) (Bs ++ Cs) := by
  induction r with
  | nil => exact q
  | o r _ ih => rw [List.append_assoc]; exact .o r ih
  | b h r _ ih => rw [List.append_assoc]; exact .b h r ih
theorem RepC.rev {vs : List V} {os : List AO} {Bs : List Addr} (r : RepC K G H σ vs os Bs) : ∃ Cs, RepC K G H σ vs.reverse os.reverse Cs ∧ (∀ a, a ∈ Cs ↔ a ∈ Bs) ∧ (Bs.Nodup → Cs.Nodup) := by
  induction r with
  | nil => exact ⟨[], .nil, fun _ => Iff.rfl, id⟩
  | @o v vs o os B Bs r _ ih =>
    obtain ⟨Cs, h1, h2, h3⟩ := ih
    rw [List.reverse_cons, List.reverse_cons]
    refine ⟨Cs ++ (B ++ []), h1.app (.o r .nil), fun a => by simp only [List.append_nil, List.mem_append, h2 a]; exact Or.comm, fun nd => ?_⟩
    obtain ⟨n1, n2, n3⟩ := List.nodup_append.mp nd
    rw [List.append_nil]
    exact List.nodup_append.mpr ⟨h3 n2, n1, fun a ha b hb z => n3 b hb a ((h2 a).1 ha) z.symm⟩
  | @b v vs i o os B Bs h r _ ih =>
    obtain ⟨Cs, h1, h2, h3⟩ := ih
    rw [List.reverse_cons, List.reverse_cons]
    refine ⟨Cs ++ (B ++ []), h1.app (.b h r .nil), fun a => by simp only [List.append_nil, List.mem_append, h2 a]; exact Or.comm, fun nd => ?_⟩
    obtain ⟨n1, n2, n3⟩ := List.nodup_append.mp nd
    rw [List.append_nil]
    exact List.nodup_append.mpr ⟨h3 n2, n1, fun a ha b hb z => n3 b hb a ((h2 a).1 ha) z.symm⟩
theorem revC_le {g : CF} (σ : L2.St) (H : Hp) (Q : List V → Hp → Prop) (h : liftC K R (revC g) σ H Q) : liftC K R g σ H fun vs H1 => Q vs.reverse H1 := by
  obtain ⟨pins, G, ρ, As, s, k⟩ := h
  refine ⟨pins, G, ρ, As, s, ?_⟩
  refine Kont.bind (T := []) (Q := Q) s.nd (fun a z => nomatch z) k fun os ρ1 G1 H1 As1 vs Bs e1 nd1 r1 s1 k1 => ?_
  obtain ⟨Cs, h1, h2, h3⟩ := RepC.rev r1
  have nd1' : (Bs ++ As1).Nodup := by simpa using nd1
  refine Kont.now k1 s1 (Bs := Cs) (fun a z => ?_) ?_ h1
  · simp only [List.mem_append, List.nil_append] at z ⊢
    rcases z with z | z
    · exact .inl ((h2 a).1 z)
    · exact .inr z
  · exact List.nodup_append.mpr ⟨h3 (List.nodup_append.mp nd1').1, s1.nd, fun a ha b hb => (List.nodup_append.mp nd1').2.2 a ((h2 a).1 ha) b hb⟩
/-- so many arguments are wanted -/
def Wants (F : FF) (n : Nat) : Prop := ∀ os, F os ≠ .stuck → os.length = n
theorem defF_wants {np n : Nat} {body : SF} : Wants (defF np n body) np := fun os h => by
  unfold defF at h
  by_cases c : os.length = np
  · exact c
  · rw [if_neg c] at h
    exact absurd rfl h
theorem spF_wants {cl : Str → Option Addr} {F : FF} {n : Nat} {vs : List V} {E : XK} (w : Wants F n) (h : spF K cl F vs H Q E) : vs.length = n := by
  obtain ⟨G, os, As, r, nd, sub, k⟩ := h
  refine (RepOs.len r).trans (w os fun z => ?_)
  rw [z] at k
  exact k
theorem pf_callK {CX : CXT} {n : Nat} {f : Addr} {fd : FuncData} {ps ks : List Str} {F : FF} {g : CF} {cl : Str → Option Addr} {x : Str} {p pos : Pos} {kws : List Keyword} (Fn : FnOk X.prog X.w X.K X.mg X.base CX n f fd ps (spF X.K cl F)) (hr : Room n X.A) (hg : Gl X x) (hm : X.mg x = some (.ref f)) (hk : PySem.W.keepIn X.K (.ref f) = true) (hb : KB0 X.K fd ps ks (fun ws => ws) (fun zs => zs))
    (hx : Passes CX X (fun _ _ _ => False)) (hkw : PK X kws (liftC X.K R0 g)) (hw : Wants F ks.length) (hall : (backToKw pos (keywordEach kws X.env)).all (·.1.isSome) = true := by rfl) (hks : (backToKw pos (keywordEach kws X.env)).filterMap (·.1) = ks := by rfl)
    (hdb : (x == ("__debug__" : Str)) = false := by decide) (hpl : ((backTo pos (starEach [] X.env)).any (·.1) || (backToKw pos (keywordEach kws X.env)).any (·.1.isNone)) = false := by rfl) :
    PE X (.Call (.Name x p) [] kws pos) (liftE X.K R0 (callF F g)) := by
  refine PE.weak (pe_callQ Fn hr hg hm hk hb hx hkw hall hks hdb hpl) fun σ H Q h => ?_
  have q : liftC X.K R0 g σ H fun vs H1 => spF X.K cl F (vs ++ []) H1 Q (fun _ _ _ => False) := call_le (cl := cl) (E := fun _ _ _ => False) (fun _ _ _ _ z => z.elim) σ H Q h
  obtain ⟨pins, G, ρ, As, s, k⟩ := q
  refine ⟨pins, G, ρ, As, s, ?_⟩
  cases hgρ : g ρ with
  | ok os ρ1 =>
    rw [hgρ] at k
    intro G' H' As' v Bs e nd r st
    have z : spF X.K cl F (v ++ []) H' Q (fun _ _ _ => False) := k G' H' As' v Bs e nd r st
    rw [List.append_nil] at z
    exact ⟨spF_wants hw z, z⟩
  | er c o ρ1 => rw [hgρ] at k; exact k
  | stuck => rw [hgρ] at k; exact k
theorem pf_callKR {CX : CXT} {n : Nat} {f : Addr} {fd : FuncData} {ps ks : List Str} {F : FF} {g : CF} {cl : Str → Option Addr} {x : Str} {p pos : Pos} {kws : List Keyword} (Fn : FnOk X.prog X.w X.K X.mg X.base CX n f fd ps (spF X.K cl F)) (hr : Room n X.A) (hg : Gl X x) (hm : X.mg x = some (.ref f)) (hk : PySem.W.keepIn X.K (.ref f) = true) (hb : KB0 X.K fd ps ks (fun ws => ws.reverse) (fun zs => zs.reverse))
    (hx : Passes CX X (fun _ _ _ => False)) (hkw : PK X kws (liftC X.K R0 g)) (hw : Wants F ks.length) (hall : (backToKw pos (keywordEach kws X.env)).all (·.1.isSome) = true := by rfl) (hks : (backToKw pos (keywordEach kws X.env)).filterMap (·.1) = ks := by rfl)
    (hdb : (x == ("__debug__" : Str)) = false := by decide) (hpl : ((backTo pos (starEach [] X.env)).any (·.1) || (backToKw pos (keywordEach kws X.env)).any (·.1.isNone)) = false := by rfl) :
    PE X (.Call (.Name x p) [] kws pos) (liftE X.K R0 (callF F (revC g))) := by
  refine PE.weak (pe_callQ Fn hr hg hm hk hb hx hkw hall hks hdb hpl) fun σ H Q h => ?_
  have q0 : liftC X.K R0 (revC g) σ H fun vs H1 => spF X.K cl F (vs ++ []) H1 Q (fun _ _ _ => False) := call_le (cl := cl) (E := fun _ _ _ => False) (fun _ _ _ _ z => z.elim) σ H Q h
  have q := revC_le σ H _ q0
  obtain ⟨pins, G, ρ, As, s, k⟩ := q
  refine ⟨pins, G, ρ, As, s, ?_⟩
  cases hgρ : g ρ with
  | ok os ρ1 =>
    rw [hgρ] at k
    intro G' H' As' v Bs e nd r st
    have z : spF X.K cl F (v.reverse ++ []) H' Q (fun _ _ _ => False) := k G' H' As' v Bs e nd r st
    rw [List.append_nil] at z
    exact ⟨by have w2 := spF_wants hw z; rw [List.length_reverse] at w2; exact w2, z⟩
  | er c o ρ1 => rw [hgρ] at k; exact k
  | stuck => rw [hgρ] at k; exact k
end
end Vs

namespace Vs
open PySem PySem.Spec PyProof.Rows L2 Ww

/-! ### a displayed dict -/
abbrev PrF := En → Rs (List (PyData × PyData))
def nilP : PrF := fun ρ => .ok [] ρ
def consP (f g : EF) (h : PrF) : PrF := fun ρ => (shE f ρ).bind fun k ρ1 => (shE g ρ1).bind fun v ρ2 => (h ρ2).bind fun r ρ3 => .ok ((k, v) :: r) ρ3
def keysOf : List (PyData × PyData) → Option (List (L2.Key × PyData))
  | [] => some []
  | (k, v) :: r => match keyD k, keysOf r with
    | some kk, some rr => some ((kk, v) :: rr)
    | _, _ => none
def mergeD (kvs more : List (L2.Key × PyData)) : List (L2.Key × PyData) := more.foldl (fun acc kv => putD acc kv.1 kv.2) kvs
def dispF (h : PrF) : EF := fun ρ => (h ρ).bind fun ps ρ1 => match keysOf ps with
  | some kvs => if kvs.length ≤ 15 then .ok (.dk (mergeD [] kvs)) ρ1 else .stuck
  | none => .stuck
def RepPs (K : PySem.W.Frag) (G : Hp) : List (V × V) → List (PyData × PyData) → Prop := All2 fun x d => Dp K G x.1 d.1 ∧ Dp K G x.2 d.2
abbrev liftPs (K : PySem.W.Frag) (R : RK) (h : PrF) : L2.St → Hp → (List (V × V) → Hp → Prop) → Prop := lift (fun _ G _ ps ds Bs => Bs = [] ∧ RepPs K G ps ds) K R h
structure DsOk (X : Cx) (R : RK) (pos : Pos) (keys : List (Option Expr)) (values : List Expr) (trs : List (TE × TE)) (h : PrF) : Prop where
  run : PPs X pos keys values trs
  le : ∀ σ H Q, liftPs X.K R h σ H Q → tPairs trs σ H Q
section
variable {K : PySem.W.Frag} {R : RK} {pins σ : L2.St} {G H G' H' : Hp} {As Bs Cs T : List Addr} {Q : VK} {ρ : En} {X : Cx}
theorem ds_nil {pos : Pos} : DsOk X R pos [] [] [] nilP := ⟨pps_nil, fun σ H Q ⟨pins, G, ρ, As, s, k⟩ => Kont.now k s (Bs := []) (fun a z => z) s.nd ⟨rfl, trivial⟩⟩
theorem ds_cons {pos : Pos} {k v : Expr} {ks : List (Option Expr)} {vs : List Expr} {f g : EF} {trs : List (TE × TE)} {h : PrF} (hk : PE X k (liftE X.K R f)) (hv : PE X v (liftE X.K R g)) (hr : DsOk X R pos ks vs trs h) : DsOk X R pos (some k :: ks) (v :: vs) ((liftE X.K R f, liftE X.K R g) :: trs) (consP f g h) := by
  refine ⟨pps_cons hk hv hr.run, fun σ H Q ⟨pins, G, ρ, As, s, k⟩ => shS_le σ H _ ⟨pins, G, ρ, As, s, ?_⟩⟩
  refine Kont.bind (T := []) (Q := Q) s.nd (fun a z => nomatch z) k fun d ρ1 G1 H1 As1 x Bs e1 nd1 r1 s1 k1 => shS_le σ H1 _ ⟨pins, G1, ρ1, As1, s1, ?_⟩
  obtain ⟨rfl, dx⟩ := r1
  refine Kont.bind (T := []) (Q := Q) s1.nd (fun a z => nomatch z) (by simpa using k1) fun d2 ρ2 G2 H2 As2 y Bs2 e2 nd2 r2 s2 k2 => hr.le σ H2 _ ⟨pins, G2, ρ2, As2, s2, ?_⟩
  obtain ⟨rfl, dy⟩ := r2
  refine Kont.bind (T := []) (Q := Q) s2.nd (fun a z => nomatch z) (by simpa using k2) fun ds ρ3 G3 H3 As3 ps Bs3 e3 nd3 r3 s3 k3 => ?_
  obtain ⟨rfl, dps⟩ := r3
  exact Kont.now k3 s3 (Bs := []) (fun a z => by simpa using z) s3.nd ⟨rfl, ⟨dp_same (e2.sub.trans e3.sub) dx, dp_same e3.sub dy⟩, dps⟩
theorem keys_rep : ∀ {ps : List (V × V)} {ds : List (PyData × PyData)} {kvs : List (L2.Key × PyData)}, RepPs K G ps ds → keysOf ds = some kvs → ∃ es, ps = es.map (fun kv => (kV kv.1, kv.2)) ∧ DKs K G es kvs
  | [], [], kvs, _, h => by cases Option.some.inj h; exact ⟨[], rfl, trivial⟩
  | [], _ :: _, _, h, _ => h.elim
  | _ :: _, [], _, h, _ => h.elim
  | p :: ps, (k, v) :: ds, kvs, ⟨⟨h1, h2⟩, h3⟩, h => by
    unfold keysOf at h
    split at h
    · rename_i kk rr hk hr
      cases Option.some.inj h
      obtain ⟨es, e1, e2⟩ := keys_rep h3 hr
      refine ⟨(kk, p.2) :: es, ?_, ⟨rfl, h2⟩, e2⟩
      rw [List.map_cons, ← e1]
      show p :: ps = (kV kk, p.2) :: ps
      rw [← key_dp h1 hk]
    · cases h
theorem merge_rep : ∀ {more : List (L2.Key × V)} {dm : List (L2.Key × PyData)} {es : List (L2.Key × V)} {kvs : List (L2.Key × PyData)}, DKs K G more dm → DKs K G es kvs → DKs K G (mergeK es more) (mergeD kvs dm)
  | [], [], _, _, _, h => h
  | [], _ :: _, _, _, h, _ => h.elim
  | _ :: _, [], _, _, h, _ => h.elim
  | m :: more, d :: dm, es, kvs, ⟨⟨h1, h2⟩, h3⟩, h => by
    show DKs K G (mergeK (putK es m.1 m.2) more) (mergeD (putD kvs d.1 d.2) dm)
    rw [h1]
    exact merge_rep h3 (dks_put h2 h)
theorem pf_disp {pos : Pos} {keys : List (Option Expr)} {values : List Expr} {trs : List (TE × TE)} {h : PrF} (hd : DsOk X R pos keys values trs h) (hall : keys.all (·.isSome) = true) (hl : keys.length = values.length) (h0 : keys ≠ []) (h15 : keys.length ≤ 15 := by decide) : PE X (.Dict keys values pos) (liftE X.K R (dispF h)) := by
  refine PE.weak (pe_disp hd.run hall hl h0 h15) fun σ H Q ⟨pins, G, ρ, As, s, k⟩ p np => ?_
  have gp := s.sub.free np
  have nA : p ∉ As := fun z => (s.slots.there p z).1 np
  have e0 : Ext G H [] G (upd H p (.dK [])) [] := ⟨Sub.refl _, fun a u z _ => by rw [upd_ne (ne_of_none z np)]; exact z, fun _ z _ _ => z, fun a z => nomatch z⟩
  have sb0 : Sub G (upd H p (.dK [])) := fun a u z => by rw [upd_ne (ne_of_none (s.sub a u z) np)]; exact s.sub a u z
  have s0 := s.ext e0 (fun a _ z => nomatch z) sb0
  refine hd.le σ _ _ ⟨pins, G, ρ, As, s0, ?_⟩
  have eP : Ext G H As G (upd H p (.dK [])) ([p] ++ As) := ⟨Sub.refl _, fun a u z _ => by rw [upd_ne (ne_of_none z np)]; exact z, fun _ z _ _ => z, fun a z => by
    rcases List.mem_append.mp z with w | w
    · exact .inr (by rw [List.mem_singleton.mp w]; exact np)
    · exact .inl w⟩
  have k' := Kont.re k eP
  refine Kont.bind (T := [p]) (Q := Q) (List.nodup_append.mpr ⟨by simp, s.nd, fun a ha b hb z => by rw [List.mem_singleton.mp ha] at z; subst z; exact nA hb⟩) (fun a ha => by rw [List.mem_singleton.mp ha, upd_same]; exact fun z => nomatch z) k' fun ds ρ1 G1 H1 As1 ps Bs e1 nd1 r1 s1 k1 => ?_
  obtain ⟨rfl, rp⟩ := r1
  have hp1 : H1 p = some (.dK []) := e1.keep p _ upd_same nA
  have gp1 : G1 p = none := e1.frz p gp (by rw [upd_same]; exact fun z => nomatch z) nA
  split at k1
  · rename_i kvs hk
    split at k1
    · rename_i hz
      obtain ⟨es, e2, e3⟩ := keys_rep rp hk
      have le : es.length = kvs.length := All2.len e3
      refine ⟨hp1, es, e2, by omega, ?_⟩
      have nA1 : p ∉ As1 := fun z => by
        have := nd_disj nd1 p (by simp)
        exact this (by simpa using z)
      have sb : Sub G1 (upd H1 p (.dK (mergeK [] es))) := fun a u z => by rw [upd_ne (ne_of_none z gp1)]; exact s1.sub a u z
      have eU : Ext G1 H1 [p] G1 (upd H1 p (.dK (mergeK [] es))) [] := ⟨Sub.refl _, fun a u q n => by rw [upd_ne fun w => n (by rw [w]; exact List.mem_cons_self)]; exact q, fun _ q _ _ => q, fun a q => nomatch q⟩
      have s2 := s1.ext eU (fun a ha hb => by rw [List.mem_singleton.mp hb] at ha; exact nA1 ha) sb
      refine (show KontE X.K R pins σ G1 H1 ([p] ++ ([] ++ As1)) Q (.ok (.dk (mergeD [] kvs)) ρ1) from k1) G1 _ As1 (.ref p) [p] ⟨Sub.refl _, fun a u q n => ?_, fun _ q _ _ => q, fun a q => .inl (by simpa using q)⟩ (by simpa using nd1) (.dk gp1 upd_same (merge_rep e3 trivial)) s2
      rw [upd_ne fun w => n (by rw [w]; simp)]
      exact q
    · exact k1.elim
  · exact k1.elim
end

/-! ### sorted(d.items()), texts by data that stand in the heap -/
def insK (x : Str × PyData) : List (Str × PyData) → List (Str × PyData)
  | [] => [x]
  | y :: l => if x.1.cps.toList < y.1.cps.toList then x :: y :: l else y :: insK x l
def sortK (xs : List (Str × PyData)) : List (Str × PyData) := xs.foldr insK []
def isRf : PyData → Bool
  | .list _ => true
  | .tuple _ => true
  | _ => false
def strKs : List (L2.Key × PyData) → Option (List (Str × PyData))
  | [] => some []
  | (.inr k, v) :: r => if isRf v = true then (strKs r).map fun z => (k, v) :: z else none
  | _ => none
def pairD (z : Str × PyData) : PyData := .tuple [.str z.1, z.2]
def sItems (i : Nat) : EF := fun ρ => match (dkOf (getS ρ i)).bind strKs with
  | some xs => if xs.length < 64 ∧ (xs.map (·.1)).Nodup then .ok (.ls ((sortK xs).map pairD)) ρ else .stuck
  | none => .stuck
section
variable {K : PySem.W.Frag} {R : RK} {pins σ : L2.St} {G H G' H' : Hp} {As Bs Cs T : List Addr} {Q : VK} {ρ : En} {X : Cx}
theorem insK_mem (x : Str × PyData) : ∀ (l : List (Str × PyData)) (k : Str × PyData), k ∈ insK x l ↔ k = x ∨ k ∈ l
  | [], k => by simp [insK]
  | y :: l, k => by
    unfold insK
    split
    · simp
    · simp only [List.mem_cons, insK_mem x l k]
      exact ⟨fun z => z.elim (fun z => .inr (.inl z)) (fun z => z.elim .inl fun z => .inr (.inr z)), fun z => z.elim (fun z => .inr (.inl z)) (fun z => z.elim .inl fun z => .inr (.inr z))⟩
theorem insK_up (x : Str × PyData) : ∀ {l : List (Str × PyData)}, x.1 ∉ l.map (·.1) → (l.Pairwise fun a b => a.1.cps.toList < b.1.cps.toList) → (insK x l).Pairwise fun a b => a.1.cps.toList < b.1.cps.toList
  | [], _, _ => List.pairwise_singleton _ _
  | y :: l, n, h => by
    unfold insK
    obtain ⟨h1, h2⟩ := List.pairwise_cons.mp h
    have n1 : x.1 ≠ y.1 := fun e => n (by rw [List.map_cons, e]; exact List.mem_cons_self)
    have n2 : x.1 ∉ l.map (·.1) := fun e => n (by rw [List.map_cons]; exact List.mem_cons_of_mem _ e)
    split
    · rename_i c
      exact List.pairwise_cons.mpr ⟨fun z hz => by
        rcases List.mem_cons.mp hz with w | w
        · rw [w]; exact c
        · exact List.lt_trans c (h1 z w), h⟩
    · rename_i c
      refine List.pairwise_cons.mpr ⟨fun z hz => ?_, insK_up x n2 h2⟩
      rcases (insK_mem x l z).1 hz with w | w
      · rw [w]
        rcases Decidable.em (y.1.cps.toList < x.1.cps.toList) with q | q
        · exact q
        · exact absurd (str_ext (List.le_antisymm (List.not_lt.mp q) (List.not_lt.mp c))) n1
      · exact h1 z w
theorem sortK_mem : ∀ (xs : List (Str × PyData)) (k : Str × PyData), k ∈ sortK xs ↔ k ∈ xs
  | [], k => Iff.rfl
  | x :: xs, k => by
    show k ∈ insK x (sortK xs) ↔ _
    rw [insK_mem, sortK_mem xs k, List.mem_cons]
theorem sortK_up : ∀ {xs : List (Str × PyData)}, (xs.map (·.1)).Nodup → (sortK xs).Pairwise fun a b => a.1.cps.toList < b.1.cps.toList
  | [], _ => .nil
  | x :: xs, h => by
    rw [List.map_cons, List.nodup_cons] at h
    refine insK_up x (fun z => h.1 ?_) (sortK_up h.2)
    obtain ⟨y, hy, e⟩ := List.mem_map.mp z
    rw [← e]
    exact List.mem_map_of_mem ((sortK_mem xs y).1 hy)
theorem rf_ref {v : V} {d : PyData} (h : Dp K G v d) (r : isRf d = true) : ∃ a, v = .ref a := by
  cases h <;> first | exact ⟨_, rfl⟩ | cases r
theorem strKs_rep : ∀ {es : List (L2.Key × V)} {kvs : List (L2.Key × PyData)} {xs : List (Str × PyData)}, DKs K G es kvs → strKs kvs = some xs → ∃ ks : List (Str × Addr), es = ks.map DS.entS ∧ All2 (fun (e : Str × Addr) (x : Str × PyData) => e.1 = x.1 ∧ Dp K G (.ref e.2) x.2) ks xs
  | [], [], xs, _, h => by cases Option.some.inj h; exact ⟨[], rfl, trivial⟩
  | [], _ :: _, _, h, _ => h.elim
  | _ :: _, [], _, h, _ => h.elim
  | e :: es, (.inl k, v) :: kvs, xs, _, h => nomatch h
  | e :: es, (.inr k, v) :: kvs, xs, ⟨⟨h1, h2⟩, h3⟩, h => by
    have h : (if isRf v = true then (strKs kvs).map fun z => (k, v) :: z else none) = some xs := h
    split at h
    · rename_i hr
      obtain ⟨ys, hy, rfl⟩ := Option.map_eq_some_iff.mp h
      obtain ⟨ks, e1, e2⟩ := strKs_rep h3 hy
      obtain ⟨a, ha⟩ := rf_ref h2 hr
      refine ⟨(k, a) :: ks, ?_, ⟨rfl, by rw [← ha]; exact h2⟩, e2⟩
      rw [List.map_cons, ← e1]
      show e :: es = (Sum.inr k, V.ref a) :: es
      rw [← ha]
      congr 1
      exact Prod.ext h1 rfl
    · cases h
theorem all2_keys {α β : Type} {Rr : α → β → Prop} {f : α → Str} {g : β → Str} (e : ∀ x y, Rr x y → f x = g y) : ∀ {xs : List α} {ys : List β}, All2 Rr xs ys → xs.map f = ys.map g
  | [], [], _ => rfl
  | [], _ :: _, h => h.elim
  | _ :: _, [], h => h.elim
  | _ :: _, _ :: _, h => by rw [List.map_cons, List.map_cons, e _ _ h.1, all2_keys e h.2]
theorem all2_pick {α β : Type} {Rr : α → β → Prop} : ∀ {xs : List α}, (∀ x ∈ xs, ∃ y, Rr x y) → ∃ ys, All2 Rr xs ys
  | [], _ => ⟨[], trivial⟩
  | x :: xs, h => by
    obtain ⟨y, hy⟩ := h x List.mem_cons_self
    obtain ⟨ys, hys⟩ := all2_pick fun z hz => h z (List.mem_cons_of_mem _ hz)
    exact ⟨y :: ys, hy, hys⟩
theorem all2_back' {α β : Type} {Rr : α → β → Prop} : ∀ {xs : List α} {ys : List β}, All2 Rr xs ys → ∀ y ∈ ys, ∃ x ∈ xs, Rr x y
  | [], [], _, y, h => nomatch h
  | x :: _, y :: _, h, z, hz => by
    rcases List.mem_cons.mp hz with rfl | hz
    · exact ⟨x, List.mem_cons_self, h.1⟩
    · obtain ⟨w, a, b⟩ := all2_back' h.2 z hz
      exact ⟨w, List.mem_cons_of_mem _ a, b⟩
  | [], _ :: _, h, _, _ => h.elim
  | _ :: _, [], h, _, _ => h.elim
/-- the told pairs, in their order -/
theorem items_rep {ks : List (Str × Addr)} {xs : List (Str × PyData)} {ps : List (Addr × Str × Addr)} (h : All2 (fun (e : Str × Addr) (x : Str × PyData) => e.1 = x.1 ∧ Dp K G (.ref e.2) x.2) ks xs) (nd : (xs.map (·.1)).Nodup) (perm : (ps.map (·.2)).Perm ks)
    (srt : (ps.map (·.2)).Pairwise (fun e f => e.1.cps.toList < f.1.cps.toList)) : All2 (fun (z : Addr × Str × Addr) (x : Str × PyData) => z.2.1 = x.1 ∧ Dp K G (.ref z.2.2) x.2) ps (sortK xs) := by
  have pick : ∀ z ∈ ps, ∃ x : Str × PyData, z.2.1 = x.1 ∧ Dp K G (.ref z.2.2) x.2 ∧ x ∈ xs := fun z hz => by
    obtain ⟨x, hx, h1, h2⟩ := All2.mem h (perm.mem_iff.mp (List.mem_map_of_mem hz))
    exact ⟨x, h1, h2, hx⟩
  obtain ⟨ys, hys⟩ := all2_pick pick
  have keys : ps.map (fun z => z.2.1) = ys.map (·.1) := all2_keys (fun _ _ h => h.1) hys
  have up : ys.Pairwise fun a b => a.1.cps.toList < b.1.cps.toList := by
    have h1 : (ys.map (·.1)).Pairwise fun a b : Str => a.cps.toList < b.cps.toList := by
      rw [← keys]
      rw [List.pairwise_map] at srt ⊢
      exact srt
    rw [List.pairwise_map] at h1
    exact h1
  have inj : ∀ a ∈ xs, ∀ b ∈ xs, a.1 = b.1 → a = b := fun a ha b hb e => by
    obtain ⟨i, hi⟩ := List.mem_iff_getElem?.mp ha
    obtain ⟨j, hj⟩ := List.mem_iff_getElem?.mp hb
    have hi' : (xs.map (·.1))[i]? = some a.1 := by rw [List.getElem?_map, hi]; rfl
    have hj' : (xs.map (·.1))[j]? = some a.1 := by rw [List.getElem?_map, hj, e]; rfl
    have ij : i = j := (List.getElem?_inj (List.getElem?_eq_some_iff.mp hi').1 nd).mp (hi'.trans hj'.symm)
    subst ij
    rw [hi] at hj
    exact Option.some.inj hj
  have mem : ∀ x, x ∈ ys ↔ x ∈ xs := fun x => by
    constructor
    · intro hx
      obtain ⟨z, _, r⟩ := all2_back' hys x hx
      exact r.2.2
    · intro hx
      obtain ⟨e, he, r1, _⟩ := all2_back' h x hx
      obtain ⟨z, hz, ez⟩ := List.mem_map.mp (perm.mem_iff.mpr he)
      obtain ⟨y, hy, q1, _, q3⟩ := All2.mem hys hz
      have : y = x := inj y q3 x hx (by rw [← q1, ez, r1])
      rw [← this]
      exact hy
  have e : ys = sortK xs := up_unique (R := fun a b : Str × PyData => a.1.cps.toList < b.1.cps.toList) (fun x => lt_irr _) (fun x y h1 h2 => List.lt_asymm h1 h2) up (sortK_up nd) fun k => (mem k).trans (sortK_mem xs k).symm
  rw [← e]
  exact All2.mono (fun _ _ h => ⟨h.1, h.2.1⟩) hys
theorem b_sortedItems {i : Nat} {o : Expr} {p pos apos cpos : Pos} (hu : X.A.units + 64 < cLine) (hc : X.calm = true) (hg : Gl X "sorted") (hm : X.mg "sorted" = none) (ho : PE X o (tVar i))
    (hbase : attributeBase o "items" X.env (eval o X.env) = eval o X.env := by rfl) (hline : (apos.endLine == cpos.line) = true := by rfl)
    (hs : starEach [.Call (.Attribute o "items" apos) [] [] cpos] X.env = (false, eval (.Call (.Attribute o "items" apos) [] [] cpos) X.env) :: starEach [] X.env := by rfl) (hpl : (backTo pos (starEach [] X.env)).any (·.1) = false := by rfl) :
    PE X (.Call (.Name "sorted" p) [.Call (.Attribute o "items" apos) [] [] cpos] [] pos) (liftE X.K R (sItems i)) := by
  refine PE.weak (pe_callB (DS.cr_sortedItemsK hc hu) hg hm (by decide +kernel) (pa_one (pe_bm0 PySem.F.plainAttrs_dict PySem.F.slot_dict_items PySem.F.type_dict_items DS.mt_itemsK ho hbase hline) hs) (by decide) (by decide) hs hpl) fun σ H Q ⟨pins, G, ρ, As, s, k⟩ => ?_
  have k : KontE X.K R pins σ G H As Q (match (dkOf (getS ρ i)).bind strKs with
    | some xs => if xs.length < 64 ∧ (xs.map (·.1)).Nodup then .ok (.ls ((sortK xs).map pairD)) ρ else .stuck
    | none => .stuck) := k
  split at k
  · rename_i xs hx
    split at k
    · rename_i hz
      obtain ⟨kvs, h1, h2⟩ := Option.bind_eq_some_iff.mp hx
      obtain ⟨a, es, w1, w2, w3⟩ := dk_at s (dkOf_eq h1)
      obtain ⟨ks, rfl, r2⟩ := strKs_rep w3 h2
      refine ⟨_, w1, .inr (.inr (.inl ⟨rfl, .inl ⟨_, w2⟩⟩)), a, _, rfl, rfl, w2, fun q nq => ?_⟩
      have lk : ks.length = xs.length := All2.len r2
      have keys : ks.map (·.1) = xs.map (·.1) := all2_keys (fun _ _ h => h.1) r2
      refine ⟨q, a, ks, rfl, upd_same, by rw [upd_ne (ne_of_none w2 nq)]; exact w2, by omega, by rw [keys]; exact hz.2, fun H5 l5 ps e5 nl5 perm srt hl5 hz5 hn5 => ?_⟩
      have eH : Same H H5 := (same_new nq _ : Same H _).trans e5
      have nlH : H l5 = none := (same_new nq _ : Same H _).free nl5
      have npH : ∀ z ∈ ps, H z.1 = none := fun z hz' => (same_new nq _ : Same H _).free (hn5 z hz')
      have gl : ∀ b, H b = none → G b = none := fun b h => s.sub.free h
      -- the pairs are shared
      let G5 : Hp := fun b => match G b with
        | some u => some u
        | none => if (ps.any fun z => z.1 == b) = true then H5 b else none
      have g5 : ∀ b u, G b = some u → G5 b = some u := fun b u h => by show (match G b with | some u => some u | none => _) = _; rw [h]
      have g5z : ∀ z ∈ ps, G5 z.1 = some (.tup [.str z.2.1, .ref z.2.2]) := fun z hz' => by
        show (match G z.1 with | some u => some u | none => _) = _
        rw [gl _ (npH z hz')]
        show (if (ps.any fun y => y.1 == z.1) = true then H5 z.1 else none) = _
        rw [if_pos (List.any_eq_true.mpr ⟨z, hz', by simp⟩)]
        exact hz5 z hz'
      have g5n : ∀ b, G b = none → (∀ z ∈ ps, z.1 ≠ b) → G5 b = none := fun b h n => by
        show (match G b with | some u => some u | none => _) = _
        rw [h]
        show (if (ps.any fun y => y.1 == b) = true then H5 b else none) = _
        rw [if_neg]
        intro c
        obtain ⟨z, hz', e⟩ := List.any_eq_true.mp c
        exact n z hz' (by simpa using e)
      have sub5 : Sub G5 H5 := fun b u h => by
        cases hb : G b with
        | some v =>
          rw [g5 b v hb] at h
          cases h
          exact eH b _ (s.sub b _ hb)
        | none =>
          by_cases c : ∃ z ∈ ps, z.1 = b
          · obtain ⟨z, hz', rfl⟩ := c
            rw [g5z z hz'] at h
            cases h
            exact hz5 z hz'
          · rw [g5n b hb fun z hz' e => c ⟨z, hz', e⟩] at h
            cases h
      have r5 := items_rep r2 hz.2 perm srt
      have dps : ∀ {ps' : List (Addr × Str × Addr)} {ys : List (Str × PyData)}, All2 (fun (z : Addr × Str × Addr) (x : Str × PyData) => z.2.1 = x.1 ∧ Dp X.K G (.ref z.2.2) x.2) ps' ys → (∀ z ∈ ps', z ∈ ps) → DpAll X.K G5 (ps'.map fun z => V.ref z.1) (ys.map pairD) := by
        intro ps'
        induction ps' with
        | nil =>
          intro ys h _
          cases ys with
          | nil => exact .nil
          | cons _ _ => exact h.elim
        | cons z ps' ih =>
          intro ys h hin
          cases ys with
          | nil => exact h.elim
          | cons y ys =>
            refine .cons (.tup (SqT.of (g5z z (hin z List.mem_cons_self))) (.cons ?_ (.cons (dp_same g5 h.1.2) .nil))) (ih h.2 fun w hw => hin w (List.mem_cons_of_mem _ hw))
            rw [h.1.1]
            exact .str _
      have hl5z : ∀ z ∈ ps, z.1 ≠ l5 := fun z hz' e => by
        have := hz5 z hz'
        rw [e, hl5] at this
        cases this
      have g : Grow G H G5 H5 [l5] := ⟨⟨g5, fun b u h _ => eH b u h, fun b h h2 _ => g5n b h fun z hz' e => h2 (by rw [← e]; exact npH z hz'), fun b hb => .inr (by rw [List.mem_singleton.mp hb]; exact nlH)⟩, sub5, by simp⟩
      exact KontE.grow s (T := []) k g (.ls (g5n _ (gl _ nlH) hl5z) hl5 (dps r5 fun _ h => h))
    · exact k.elim
  · exact k.elim
end
end Vs
namespace Vs
open PySem PySem.Spec PyProof.Rows L2 Ww
/-! ### the law itself -/
def spLaw (K : PySem.W.Frag) : Sp := fun vs H Q _ => ∃ (a : Addr) (ns : List Int), vs = [.ref a] ∧ SqL K H a (ns.map V.int) ∧ ns.length ≤ 63 ∧ ∀ H', Q (.bl true) H'
def LawOk (F : FF) : Prop := ∀ ns : List Int, ns.length ≤ 63 → ∃ ss, F [.dat (.list (ns.map .int))] = .ok (.dat (.bool true)) ss
theorem spLaw_of {K : PySem.W.Frag} {F : FF} (h : LawOk F) {vs : List V} {H : Hp} {Q : VK} {E : XK} (l : spLaw K vs H Q E) : spF K cl0 F vs H Q E := by
  obtain ⟨a, ns, rfl, hs, hl, q⟩ := l
  obtain ⟨ss, e⟩ := h ns hl
  refine ⟨H, [.dat (.list (ns.map .int))], [], .cons (.dat (.lst hs (dps_ints ns))) .nil, .nil, Sub.refl H, ?_⟩
  rw [e]
  intro G' H' v Bs As' _ _ r _ _
  rw [dat_bool r]
  exact q H'
/-- keywords in the parameters' order, the other way about -/
theorem kb_id {K : PySem.W.Frag} {x qual : Str} {st : Stmt} {f : Addr} {fd : FuncData} {ps : List Str} (F : Fun K x qual st f fd)
    (h : ∀ (kV doc pm : Value) (an : Option Addr) (cdv ct : Value) (ws : List Value), ws.length = ps.length → bindArgs (PySem.W.fnOf x qual (defArgs st) (defBody st) (defScope st) .none kV doc pm an cdv ct) ⟨[], ps.zip ws⟩ = pure (ps.zip ws)) :
    KB0 K fd ps ps (fun ws => ws) (fun zs => zs) := by
  obtain ⟨oc, od, kV, doc, pm, an, cdv, ct, osl, rfl, lk, hcd⟩ := F.ex
  exact ⟨fun s ws hl => .of_eq (h kV doc pm an cdv ct ws hl), fun r => r⟩
theorem vals_rev {zs : List V} {ws : List Value} (r : Vals zs ws) : Vals zs.reverse ws.reverse := by
  induction r with
  | nil => exact .nil
  | cons a _ ih =>
    rw [List.reverse_cons, List.reverse_cons]
    exact Vals.append ih (.cons a .nil)
theorem kb_rev {K : PySem.W.Frag} {x qual : Str} {st : Stmt} {f : Addr} {fd : FuncData} {ps : List Str} (F : Fun K x qual st f fd)
    (h : ∀ (kV doc pm : Value) (an : Option Addr) (cdv ct : Value) (ws : List Value), ws.length = ps.length → bindArgs (PySem.W.fnOf x qual (defArgs st) (defBody st) (defScope st) .none kV doc pm an cdv ct) ⟨[], ps.reverse.zip ws⟩ = pure (ps.zip ws.reverse)) :
    KB0 K fd ps ps.reverse (fun ws => ws.reverse) (fun zs => zs.reverse) := by
  obtain ⟨oc, od, kV, doc, pm, an, cdv, ct, osl, rfl, lk, hcd⟩ := F.ex
  exact ⟨fun s ws hl => .of_eq (h kV doc pm an cdv ct ws (by rw [hl, List.length_reverse])), fun r => vals_rev r⟩
end Vs

namespace Vs
open PySem PySem.Spec PyProof.Rows L2 Ww
/-! ### lent to a call whose later arguments change it, too -/
def lnG (i : Nat) (os : List AO) (ρ : En) : Option Sl → Rs (List AO)
  | some (.val o) => .ok (.ln i o :: os) (ρ.set i .no)
  | some (.bor o) => .ok (.ln i o :: os) (ρ.set i .lent)
  | _ => .stuck
def lendC (i : Nat) (g : CF) : CF := fun ρ => match getS ρ i with
  | some _ => (g ρ).bind fun os ρ1 => lnG i os ρ1 ρ1[i]?
  | none => .stuck
section
variable {R : RK} {X : Cx}
theorem pa_lendC {e : Expr} {es : List Expr} {i : Nat} {g : CF} (h1 : PE X e (tVar i)) (h2 : PA X es (liftC X.K R g)) (hs : starEach (e :: es) X.env = (false, eval e X.env) :: starEach es X.env := by rfl) : PA X (e :: es) (liftC X.K R (lendC i g)) := by
  refine PA.weak (pa_cons h1 h2 hs) fun σ H Q ⟨pins, G, ρ, As, s, k⟩ => ?_
  unfold lendC at k
  split at k
  · rename_i o0 hg
    obtain ⟨v, hv⟩ := Slots.has s.slots hg
    refine ⟨v, hv, pins, G, ρ, As, s, ?_⟩
    refine Kont.bind (T := []) (Q := Q) s.nd (fun a z => nomatch z) k fun os ρ1 G1 H1 As1 vs Bs e1 nd1 r1 s1 k1 => ?_
    have nd1' : (Bs ++ As1).Nodup := by simpa using nd1
    unfold lnG at k1
    split at k1
    · rename_i o ho
      obtain ⟨v', B, Cs, a1, a2, a3, a4, a5⟩ := Slots.out (y := .no) trivial s1.slots (getS_val ho)
      cases (Option.some.inj (Option.some.inj (hv.symm.trans a1)) : v = v')
      have n2 := a4 s1.nd
      have nd2 : ((B ++ Bs) ++ Cs).Nodup := by
        have q : (Bs ++ (B ++ Cs)).Nodup := List.nodup_append.mpr ⟨(List.nodup_append.mp nd1').1, n2, fun a ha b hb z => (List.nodup_append.mp nd1').2.2 a ha b ((a3 b).2 hb) z⟩
        rw [List.append_assoc]
        exact nd_swap q
      refine Kont.now (Bs := B ++ Bs) (Cs := Cs) k1 ⟨a5, (List.nodup_append.mp n2).2.1, s1.sub, s1.pin.set trivial⟩ (fun a z => ?_) nd2 (.b a1 a2 r1)
      simp only [List.mem_append, List.nil_append] at z ⊢
      rcases z with (z | z) | z
      · exact .inr ((a3 a).2 (List.mem_append_left _ z))
      · exact .inl z
      · exact .inr ((a3 a).2 (List.mem_append_right _ z))
    · rename_i o ho
      obtain ⟨v', B, Cs, a1, a2, a3, a4, a5⟩ := Slots.out (y := .lent) trivial s1.slots (getS_bor ho)
      cases (Option.some.inj (Option.some.inj (hv.symm.trans a1)) : v = v')
      have n2 := a4 s1.nd
      have nd2 : ((B ++ Bs) ++ Cs).Nodup := by
        have q : (Bs ++ (B ++ Cs)).Nodup := List.nodup_append.mpr ⟨(List.nodup_append.mp nd1').1, n2, fun a ha b hb z => (List.nodup_append.mp nd1').2.2 a ha b ((a3 b).2 hb) z⟩
        rw [List.append_assoc]
        exact nd_swap q
      refine Kont.now (Bs := B ++ Bs) (Cs := Cs) k1 ⟨a5, (List.nodup_append.mp n2).2.1, s1.sub, s1.pin.lent ho⟩ (fun a z => ?_) nd2 (.b a1 a2 r1)
      simp only [List.mem_append, List.nil_append] at z ⊢
      rcases z with (z | z) | z
      · exact .inr ((a3 a).2 (List.mem_append_left _ z))
      · exact .inl z
      · exact .inr ((a3 a).2 (List.mem_append_right _ z))
    · exact k1.elim
  · exact k.elim
end
end Vs

/-! What the parts of a def compute, as rewriting -/
namespace Vs
open PySem PySem.Spec PyProof.Rows L2 Ww
section
variable {α γ : Type} {ρ : En} {i : Nat}
theorem elim_eq {α β : Type} (o : Option α) (n : β) (s : α → β) : o.elim n s = match o with | some a => s a | none => n := by cases o <;> rfl
@[simp] theorem x_bind_ok (a : α) (ρ : En) (k : α → En → Rs γ) : (Rs.ok a ρ).bind k = k a ρ := (rfl)
@[simp] theorem x_bind_er (c : Str) (o : O) (ρ : En) (k : α → En → Rs γ) : (Rs.er c o ρ : Rs α).bind k = .er c o ρ := (rfl)
@[simp] theorem x_bind_st (k : α → En → Rs γ) : (Rs.stuck : Rs α).bind k = .stuck := (rfl)
@[simp] theorem x_bindS_ok (a : α) (ρ : En) (k : α → En → Out) : (Rs.ok a ρ).bindS k = k a ρ := (rfl)
@[simp] theorem x_bindS_er (c : Str) (o : O) (ρ : En) (k : α → En → Out) : (Rs.er c o ρ : Rs α).bindS k = .er c o ρ := (rfl)
@[simp] theorem x_bindS_st (k : α → En → Out) : (Rs.stuck : Rs α).bindS k = .stuck := (rfl)
@[simp] theorem x_bindX_ok (a : α) (ρ : En) (k : α → En → Rs γ) : (Rs.ok a ρ).bindX k = k a ρ := (rfl)
@[simp] theorem x_seq_nx (ρ : En) (k : En → Out) : (Out.nx ρ).seq k = k ρ := (rfl)
@[simp] theorem x_seq_rt (o : O) (ρ : En) (k : En → Out) : (Out.rt o ρ).seq k = .rt o ρ := (rfl)
@[simp] theorem x_seq_bk (ρ : En) (k : En → Out) : (Out.bk ρ).seq k = .bk ρ := (rfl)
@[simp] theorem x_seq_ct (ρ : En) (k : En → Out) : (Out.ct ρ).seq k = .ct ρ := (rfl)
@[simp] theorem x_seq_er (c : Str) (o : O) (ρ : En) (k : En → Out) : (Out.er c o ρ).seq k = .er c o ρ := (rfl)
@[simp] theorem x_seq_st (k : En → Out) : (Out.stuck).seq k = .stuck := (rfl)
@[simp] theorem x_dv_dat (d : PyData) : (O.dat d).dv = some d := (rfl)
@[simp] theorem x_dv_ls (ds : List PyData) : (O.ls ds).dv = some (.list ds) := (rfl)
@[simp] theorem x_lv_list (ds : List PyData) : (O.dat (.list ds)).lv = some ds := (rfl)
@[simp] theorem x_lv_ls (ds : List PyData) : (O.ls ds).lv = some ds := (rfl)
@[simp] theorem x_lv_tuple (ds : List PyData) : (O.dat (.tuple ds)).lv = none := (rfl)
@[simp] theorem x_lv_str (z : Str) : (O.dat (.str z)).lv = none := (rfl)
@[simp] theorem x_sv_list (ds : List PyData) : (O.dat (.list ds)).sv = some ds := (rfl)
@[simp] theorem x_sv_tuple (ds : List PyData) : (O.dat (.tuple ds)).sv = some ds := (rfl)
@[simp] theorem x_sv_ls (ds : List PyData) : (O.ls ds).sv = some ds := (rfl)
@[simp] theorem x_get_val (o : O) : (Sl.val o).get = some o := (rfl)
@[simp] theorem x_get_bor (o : O) : (Sl.bor o).get = some o := (rfl)
@[simp] theorem x_getS (ρ : En) (i : Nat) : getS ρ i = (ρ[i]?).bind Sl.get := (rfl)
@[simp] theorem x_opd_tmp (ρ : En) (o : O) : (Opd.tmp o).get ρ = some o := (rfl)
@[simp] theorem x_opd_slot (ρ : En) (i : Nat) : (Opd.slot i).get ρ = (ρ[i]?).bind Sl.get := (rfl)
@[simp] theorem x_fin1 (F : O → Option O) (a : O) (ρ : En) : fin1 F (some a) ρ = (F a).elim .stuck fun o => .ok o ρ := by unfold fin1; cases h : F a <;> simp [h]
@[simp] theorem x_fin2 (F : O → O → Option O) (a b : O) (ρ : En) : fin2 F (some a) (some b) ρ = (F a b).elim .stuck fun o => .ok o ρ := by unfold fin2; cases h : F a b <;> simp [h]
@[simp] theorem x_fin3 (F : O → O → O → Option O) (a b c : O) (ρ : En) : fin3 F (some a) (some b) (some c) ρ = (F a b c).elim .stuck fun o => .ok o ρ := by unfold fin3; cases h : F a b c <;> simp [h]
@[simp] theorem x_op1 (F : O → Option O) (f : PF) (ρ : En) : op1 F f ρ = (f ρ).bind fun p ρ1 => fin1 F (p.get ρ1) ρ1 := (rfl)
@[simp] theorem x_op1c (F : O → Option O) (f : PF) (ρ : En) : op1c F f ρ = (f ρ).bind fun p ρ1 => fin1 F (p.get ρ1) ρ1 := (rfl)
@[simp] theorem x_op2 (F : O → O → Option O) (f g : PF) (ρ : En) : op2 F f g ρ = (f ρ).bind fun p ρ1 => (g ρ1).bind fun q ρ2 => fin2 F (p.get ρ2) (q.get ρ2) ρ2 := (rfl)
@[simp] theorem x_op3 (F : O → O → O → Option O) (f g h : PF) (ρ : En) : op3 F f g h ρ = (f ρ).bind fun p ρ1 => (g ρ1).bind fun q ρ2 => (h ρ2).bind fun u ρ3 => fin3 F (p.get ρ3) (q.get ρ3) (u.get ρ3) ρ3 := (rfl)
@[simp] theorem x_op2c (c : O → Bool) (F : O → O → Option O) (f g : PF) (ρ : En) : op2c c F f g ρ = (f ρ).bind fun p ρ1 => (p.get ρ1).elim .stuck fun a => if c a = true then (g ρ1).bind fun q ρ2 => fin2 F (p.get ρ2) (q.get ρ2) ρ2 else .stuck := by unfold op2c; congr 1; funext p ρ1; cases p.get ρ1 <;> rfl
@[simp] theorem x_slotF (i : Nat) (ρ : En) : slotF i ρ = (getS ρ i).elim .stuck fun _ => .ok (.slot i) ρ := by unfold slotF; cases getS ρ i <;> rfl
@[simp] theorem x_tmpF (f : EF) (ρ : En) : tmpF f ρ = (f ρ).bind fun o ρ1 => .ok (.tmp o) ρ1 := (rfl)
@[simp] theorem x_cF (d : PyData) (ρ : En) : cF d ρ = .ok (.dat d) ρ := (rfl)
def varK (i : Nat) (ρ : En) : Option Sl → Res
  | some (.val (.dat d)) => .ok (.dat d) ρ
  | some (.val (.ls ds)) => .ok (.dat (.list ds)) (ρ.set i (.val (.dat (.list ds))))
  | some (.bor (.dat d)) => .ok (.dat d) ρ
  | _ => .stuck
@[simp] theorem x_varF (i : Nat) (ρ : En) : varF i ρ = varK i ρ ρ[i]? := by unfold varF varK; rfl
@[simp] theorem x_varK1 (d : PyData) : varK i ρ (some (.val (.dat d))) = .ok (.dat d) ρ := (rfl)
@[simp] theorem x_varK2 (ds : List PyData) : varK i ρ (some (.val (.ls ds))) = .ok (.dat (.list ds)) (ρ.set i (.val (.dat (.list ds)))) := (rfl)
@[simp] theorem x_varK3 (d : PyData) : varK i ρ (some (.bor (.dat d))) = .ok (.dat d) ρ := (rfl)
def movK (i : Nat) (ρ : En) : Option Sl → Res
  | some (.val o) => .ok o (ρ.set i .no)
  | some (.bor (.dat d)) => .ok (.dat d) ρ
  | _ => .stuck
@[simp] theorem x_movF (i : Nat) (ρ : En) : movF i ρ = movK i ρ ρ[i]? := by unfold movF movK; rfl
@[simp] theorem x_movK1 (o : O) : movK i ρ (some (.val o)) = .ok o (ρ.set i .no) := (rfl)
@[simp] theorem x_movK3 (d : PyData) : movK i ρ (some (.bor (.dat d))) = .ok (.dat d) ρ := (rfl)
def tstK (ρ : En) : O → Rs Bool
  | .dat (.bool b) => .ok b ρ
  | _ => .stuck
@[simp] theorem x_tstF (f : EF) (ρ : En) : tstF f ρ = (f ρ).bind fun o ρ1 => tstK ρ1 o := by unfold tstF tstK; rfl
@[simp] theorem x_tstK (b : Bool) : tstK ρ (.dat (.bool b)) = .ok b ρ := (rfl)
@[simp] theorem x_truF (f : PF) (ρ : En) : truF f ρ = (f ρ).bind fun p ρ1 => (p.get ρ1).elim .stuck fun o => (trO o).elim .stuck fun b => .ok b ρ1 := by unfold truF; congr 1; funext p ρ1; cases p.get ρ1 with
  | none => rfl
  | some o => simp only [Option.elim]; cases trO o <;> rfl
@[simp] theorem x_notT (f : TF) (ρ : En) : notT f ρ = (f ρ).bind fun b ρ1 => .ok (!b) ρ1 := (rfl)
@[simp] theorem x_andT (f g : TF) (ρ : En) : andT f g ρ = (f ρ).bind fun b ρ1 => if b = true then g ρ1 else .ok false ρ1 := (rfl)
@[simp] theorem x_orT (f g : TF) (ρ : En) : orT f g ρ = (f ρ).bind fun b ρ1 => if b = true then .ok true ρ1 else g ρ1 := (rfl)
@[simp] theorem x_ifE (t : TF) (f g : EF) (ρ : En) : ifE t f g ρ = (t ρ).bind fun b ρ1 => if b = true then f ρ1 else g ρ1 := (rfl)
def blK (ρ : En) (t : Res) (e : Res) : O → Res
  | .dat (.bool b) => if b = true then t else e
  | _ => .stuck
@[simp] theorem x_blK (t e : Res) (b : Bool) : blK ρ t e (.dat (.bool b)) = if b = true then t else e := (rfl)
@[simp] theorem x_andE (f g : EF) (ρ : En) : andE f g ρ = (f ρ).bind fun o ρ1 => blK ρ1 (g ρ1) (.ok (.dat (.bool false)) ρ1) o := by
  unfold andE blK
  congr 1
  funext o ρ1
  split <;> first | rfl | skip
  rename_i h1 h2
  split
  · rename_i b
    cases b
    · exact (h2 rfl).elim
    · exact (h1 rfl).elim
  · rfl
@[simp] theorem x_orE (f g : EF) (ρ : En) : orE f g ρ = (f ρ).bind fun o ρ1 => blK ρ1 (.ok (.dat (.bool true)) ρ1) (g ρ1) o := by
  unfold orE blK
  congr 1
  funext o ρ1
  split <;> first | rfl | skip
  rename_i h1 h2
  split
  · rename_i b
    cases b
    · exact (h2 rfl).elim
    · exact (h1 rfl).elim
  · rfl
@[simp] theorem x_nilA (ρ : En) : nilA ρ = .ok [] ρ := (rfl)
@[simp] theorem x_consA (f : EF) (g : AF) (ρ : En) : consA f g ρ = (f ρ).bind fun o ρ1 => (g ρ1).bind fun os ρ2 => .ok (o :: os) ρ2 := (rfl)
@[simp] theorem x_dvs_nil : dvs [] = some [] := (rfl)
@[simp] theorem x_dvs_cons (o : O) (os : List O) : dvs (o :: os) = o.dv.bind fun d => (dvs os).map fun ds => d :: ds := by
  show (match o.dv, dvs os with | some d, some ds => some (d :: ds) | _, _ => none) = _
  cases o.dv <;> cases dvs os <;> rfl
theorem sz_lit : sizeLine = 16777216 := sizeLine_eq
/-- not too much; small numbers are told at once -/
def small : Nat → Bool
  | 0 => true | 1 => true | 2 => true | 3 => true | 4 => true | 5 => true | 6 => true | 7 => true | 8 => true | 9 => true | 10 => true | 11 => true | 12 => true
  | n => decide (n ≤ sizeLine)
theorem small_iff (n : Nat) : (small n = true) = (n ≤ sizeLine) := by
  unfold small
  split <;> first | (rw [sz_lit]; simp; done) | simp
theorem small_of {n : Nat} (h : n ≤ 16777216) : small n = true := by rw [small_iff, sz_lit]; exact h
theorem small_lt (n : Nat) : (n < sizeLine) = (small (n + 1) = true) := by rw [small_iff]; rfl
@[simp] theorem small_len {n : Nat} (h : n ≤ 16777216) : small n = true := small_of h
@[simp] theorem x_tupF (g : AF) (ρ : En) : tupF g ρ = (g ρ).bind fun os ρ1 => (dvs os).elim .stuck fun ds => if small (ds.length) = true then .ok (.dat (.tuple ds)) ρ1 else .stuck := by simp only [small_iff]; unfold tupF; congr 1; funext p ρ1; cases dvs p <;> rfl
@[simp] theorem x_lstF (g : AF) (ρ : En) : lstF g ρ = (g ρ).bind fun os ρ1 => (dvs os).elim .stuck fun ds => if small (ds.length) = true then .ok (.ls ds) ρ1 else .stuck := by simp only [small_iff]; unfold lstF; congr 1; funext p ρ1; cases dvs p <;> rfl
@[simp] theorem x_aD (f : EF) (ρ : En) : aD f ρ = (f ρ).bind fun o ρ1 => o.dv.elim .stuck fun d => .ok (.vl (.dat d)) ρ1 := by unfold aD; congr 1; funext o ρ1; cases o.dv <;> rfl
@[simp] theorem x_aT (f : EF) (ρ : En) : aT f ρ = (f ρ).bind fun o ρ1 => .ok (.vl o) ρ1 := (rfl)
def lnK (i : Nat) (ρ : En) : Option Sl → Rs AO
  | some (.val o) => .ok (.ln i o) (ρ.set i .no)
  | some (.bor o) => .ok (.ln i o) (ρ.set i .lent)
  | _ => .stuck
@[simp] theorem x_aB (i : Nat) (ρ : En) : aB i ρ = lnK i ρ ρ[i]? := by unfold aB lnK; rfl
@[simp] theorem x_lnK1 (o : O) : lnK i ρ (some (.val o)) = .ok (.ln i o) (ρ.set i .no) := (rfl)
@[simp] theorem x_lnK2 (o : O) : lnK i ρ (some (.bor o)) = .ok (.ln i o) (ρ.set i .lent) := (rfl)
@[simp] theorem x_nilC (ρ : En) : nilC ρ = .ok [] ρ := (rfl)
@[simp] theorem x_consC (f : C1F) (g : CF) (ρ : En) : consC f g ρ = (f ρ).bind fun o ρ1 => (g ρ1).bind fun os ρ2 => .ok (o :: os) ρ2 := (rfl)
@[simp] theorem x_lendC (g : CF) (ρ : En) : lendC i g ρ = (getS ρ i).elim .stuck fun _ => (g ρ).bind fun os ρ1 => lnG i os ρ1 ρ1[i]? := by unfold lendC; cases getS ρ i <;> rfl
@[simp] theorem x_lnG1 (os : List AO) (o : O) : lnG i os ρ (some (.val o)) = .ok (.ln i o :: os) (ρ.set i .no) := (rfl)
@[simp] theorem x_lnG2 (os : List AO) (o : O) : lnG i os ρ (some (.bor o)) = .ok (.ln i o :: os) (ρ.set i .lent) := (rfl)
@[simp] theorem x_revC (g : CF) (ρ : En) : revC g ρ = (g ρ).bind fun os ρ1 => .ok os.reverse ρ1 := (rfl)
@[simp] theorem x_aoV (x : O) : (AO.vl x).val = x := (rfl)
@[simp] theorem x_aoL (x : O) : (AO.ln i x).val = x := (rfl)
def putK (i : Nat) (o : O) (ρ : En) : Option Sl → En
  | some .no => ρ.set i (.val o)
  | some .lent => ρ.set i (.bor o)
  | _ => ρ
@[simp] theorem x_putB (o : O) : putB i o ρ = putK i o ρ ρ[i]? := by unfold putB putK; rfl
@[simp] theorem x_putK1 (o : O) : putK i o ρ (some .no) = ρ.set i (.val o) := (rfl)
@[simp] theorem x_putK2 (o : O) : putK i o ρ (some .lent) = ρ.set i (.bor o) := (rfl)
@[simp] theorem x_back_nil (ss : List Sl) (ρ : En) : backF [] ss ρ = ρ := by unfold backF; rfl
@[simp] theorem x_back_nil2 (os : List AO) (ρ : En) : backF os [] ρ = ρ := by unfold backF; split <;> first | rfl | (rename_i h; cases h)
@[simp] theorem x_back_vl (o : O) (r : List AO) (s : Sl) (ss : List Sl) (ρ : En) : backF (.vl o :: r) (s :: ss) ρ = backF r ss ρ := by rw [backF]; exact fun _ _ _ z => nomatch z
@[simp] theorem x_back_ln (o x : O) (r : List AO) (ss : List Sl) (ρ : En) : backF (.ln i o :: r) (.bor x :: ss) ρ = backF r ss (putB i x ρ) := by rw [backF]
@[simp] theorem x_back_no (o : AO) (r : List AO) (ss : List Sl) (ρ : En) : backF (o :: r) (.no :: ss) ρ = backF r ss ρ := by rw [backF]; exact fun _ _ _ _ z => nomatch z
def clK (os : List AO) (ρ : En) : FRs → Res
  | .ok o ss => .ok o (backF os ss ρ)
  | .er c o ss => .er c o (backF os ss ρ)
  | .stuck => .stuck
@[simp] theorem x_callF (F : FF) (g : CF) (ρ : En) : callF F g ρ = (g ρ).bind fun os ρ1 => clK os ρ1 (F (os.map AO.val)) := by unfold callF clK; rfl
@[simp] theorem x_clK (os : List AO) (o : O) (ss : List Sl) : clK os ρ (.ok o ss) = .ok o (backF os ss ρ) := (rfl)
@[simp] theorem x_clE (os : List AO) (c : Str) (o : O) (ss : List Sl) : clK os ρ (.er c o ss) = .er c o (backF os ss ρ) := (rfl)
@[simp] theorem x_seqS (f g : SF) (ρ : En) : seqS f g ρ = (f ρ).seq g := (rfl)
@[simp] theorem x_nxS (ρ : En) : nxS ρ = .nx ρ := (rfl)
@[simp] theorem x_bkS (ρ : En) : bkS ρ = .bk ρ := (rfl)
@[simp] theorem x_ctS (ρ : En) : ctS ρ = .ct ρ := (rfl)
@[simp] theorem x_noS (ρ : En) : noS ρ = .stuck := (rfl)
@[simp] theorem x_retS (f : EF) (ρ : En) : retS f ρ = (f ρ).bindS fun o ρ1 => .rt o ρ1 := (rfl)
@[simp] theorem x_retN (ρ : En) : retN ρ = .rt (.dat .none) ρ := (rfl)
@[simp] theorem x_exS (f : EF) (ρ : En) : exS f ρ = (f ρ).bindS fun _ ρ1 => .nx ρ1 := (rfl)
@[simp] theorem x_ifS (t : TF) (f g : SF) (ρ : En) : ifS t f g ρ = (t ρ).bindS fun b ρ1 => if b = true then f ρ1 else g ρ1 := (rfl)
def stK (i : Nat) (o : O) (ρ : En) : Option Sl → Option En
  | some .no => some (ρ.set i (.val o))
  | some (.val _) => some (ρ.set i (.val o))
  | _ => none
@[simp] theorem x_stO (o : O) : stO i o ρ = stK i o ρ ρ[i]? := by unfold stO stK; rfl
@[simp] theorem x_stK1 (o : O) : stK i o ρ (some .no) = some (ρ.set i (.val o)) := (rfl)
@[simp] theorem x_stK2 (o x : O) : stK i o ρ (some (.val x)) = some (ρ.set i (.val o)) := (rfl)
/-- a slot that may be stored -/
def Fr (s : Sl) : Prop := s = .no ∨ ∃ o, s = .val o
theorem Fr.no : Fr .no := .inl rfl
theorem Fr.val {o : O} : Fr (.val o) := .inr ⟨o, rfl⟩
theorem x_fr {s : Sl} (h : Fr s) (o : O) : stK i o ρ (some s) = some (ρ.set i (.val o)) := by
  rcases h with rfl | ⟨_, rfl⟩ <;> rfl
@[simp] theorem x_setS (f : EF) (ρ : En) : setS i f ρ = (f ρ).bindS fun o ρ1 => (stO i o ρ1).elim .stuck .nx := by unfold setS; congr 1; funext o ρ1; cases stO i o ρ1 <;> rfl
@[simp] theorem x_nmT (d : PyData) (ρ : En) : (nmT i).f d ρ = stO i (.dat d) ρ := (rfl)
@[simp] theorem x_nilTs (ρ : En) : nilTs.f [] ρ = some ρ := (rfl)
@[simp] theorem x_consTs (t : Tg) (u : Tgs) (d : PyData) (ds : List PyData) (ρ : En) : (consTs t u).f (d :: ds) ρ = (t.f d ρ).bind fun ρ1 => u.f ds ρ1 := (rfl)
@[simp] theorem x_tupT (n : Nat) (t : Tgs) (ds : List PyData) (ρ : En) : (tupT n t).f (.tuple ds) ρ = if ds.length = n then t.f ds ρ else none := (rfl)
@[simp] theorem x_tupTl (n : Nat) (t : Tgs) (ds : List PyData) (ρ : En) : (tupT n t).f (.list ds) ρ = if ds.length = n then t.f ds ρ else none := (rfl)
@[simp] theorem x_asgS (t : Tg) (f : EF) (ρ : En) : asgS t f ρ = (f ρ).bindS fun o ρ1 => o.dv.elim .stuck fun d => (t.f d ρ1).elim .stuck .nx := by unfold asgS; congr 1; funext o ρ1; cases o.dv with
  | none => rfl
  | some d => simp only [Option.elim]; cases t.f d ρ1 <;> rfl
def par2K (i j : Nat) (ρ1 : En) : List O → Out
  | [a, b] => ((stO i a ρ1).bind (stO j b)).elim .stuck .nx
  | _ => .stuck
@[simp] theorem x_par2S (j : Nat) (g : AF) (ρ : En) : par2S i j g ρ = (g ρ).bindS fun os ρ1 => par2K i j ρ1 os := by 
  unfold par2S par2K; congr 1; funext os ρ1
  match os with
  | [] => rfl
  | [_] => rfl
  | [a, b] => simp only []; cases (stO i a ρ1).bind (stO j b) <;> rfl
  | _ :: _ :: _ :: _ => rfl
@[simp] theorem x_par2K (j : Nat) (a b : O) : par2K i j ρ [a, b] = ((stO i a ρ).bind (stO j b)).elim .stuck .nx := (rfl)
def par3K (i j l : Nat) (ρ1 : En) : List O → Out
  | [a, b, c] => (((stO i a ρ1).bind (stO j b)).bind (stO l c)).elim .stuck .nx
  | _ => .stuck
@[simp] theorem x_par3S (j l : Nat) (g : AF) (ρ : En) : par3S i j l g ρ = (g ρ).bindS fun os ρ1 => par3K i j l ρ1 os := by 
  unfold par3S par3K; congr 1; funext os ρ1
  match os with
  | [] => rfl
  | [_] => rfl
  | [_, _] => rfl
  | [a, b, c] => simp only []; cases ((stO i a ρ1).bind (stO j b)).bind (stO l c) <;> rfl
  | _ :: _ :: _ :: _ :: _ => rfl
@[simp] theorem x_par3K (j l : Nat) (a b c : O) : par3K i j l ρ [a, b, c] = (((stO i a ρ).bind (stO j b)).bind (stO l c)).elim .stuck .nx := (rfl)
/-! walks -/
def seqK (ρ : En) : O → Rs (List PyData)
  | .dat (.list ds) => .ok ds ρ
  | .ls ds => .ok ds ρ
  | .dat (.tuple ds) => .ok ds ρ
  | _ => .stuck
@[simp] theorem x_itS (f : EF) (ρ : En) : itS f ρ = (f ρ).bind fun o ρ1 => seqK ρ1 o := by unfold itS seqK; rfl
@[simp] theorem x_seqK1 (ds : List PyData) : seqK ρ (.dat (.list ds)) = .ok ds ρ := (rfl)
@[simp] theorem x_seqK2 (ds : List PyData) : seqK ρ (.ls ds) = .ok ds ρ := (rfl)
@[simp] theorem x_seqK3 (ds : List PyData) : seqK ρ (.dat (.tuple ds)) = .ok ds ρ := (rfl)
/-- a number in the range of a range -/
def rngN : Nat → Bool
  | 0 => true | 1 => true | 2 => true | 3 => true
  | n => decide (n ≤ 4611686018427387903)
def rngB : Int → Bool
  | .ofNat n => rngN n
  | .negSucc n => rngN n
theorem rngN_iff (n : Nat) : rngN n = true ↔ n ≤ 4611686018427387903 := by
  unfold rngN
  split <;> simp
theorem rngB_iff (n : Int) : (rngB n = true) = (-(2 ^ 62) ≤ n ∧ n < 2 ^ 62) := by
  cases n with
  | ofNat n => rw [show rngB (.ofNat n) = rngN n from rfl, rngN_iff]; apply propext; simp; omega
  | negSucc n => rw [show rngB (.negSucc n) = rngN n from rfl, rngN_iff]; apply propext; omega
@[simp] theorem rngB_of {n : Int} (h1 : -4611686018427387904 ≤ n) (h2 : n < 4611686018427387904) : rngB n = true := by rw [rngB_iff]; omega
@[simp] theorem x_rng1 (f : PF) (ρ : En) : rng1 f ρ = (f ρ).bind fun p ρ1 => ((p.get ρ1).bind dvI).elim .stuck fun n => if rngB n = true then .ok ((List.range n.toNat).map fun i : Nat => .int ((0 : Int) + (i : Int))) ρ1 else .stuck := by simp only [rngB_iff]; unfold rng1; congr 1; funext p ρ1; cases (p.get ρ1).bind dvI <;> rfl
@[simp] theorem x_rng2 (f g : PF) (ρ : En) : rng2 f g ρ = (f ρ).bind fun p ρ1 => (g ρ1).bind fun q ρ2 => ((p.get ρ2).bind dvI).elim .stuck fun m => ((q.get ρ2).bind dvI).elim .stuck fun n => if rngB m = true ∧ rngB n = true then .ok ((List.range (n - m).toNat).map fun i : Nat => .int (m + (i : Int))) ρ2 else .stuck := by simp only [rngB_iff, and_assoc]; unfold rng2; congr 1; funext p ρ1; congr 1; funext q ρ2; cases (p.get ρ2).bind dvI <;> cases (q.get ρ2).bind dvI <;> rfl
@[simp] theorem x_dvI (n : Int) : dvI (.dat (.int n)) = some n := (rfl)
def strK (ρ : En) : O → Rs (List PyData)
  | .dat (.str z) => .ok (z.cps.toList.map fun c => .str ⟨#[c]⟩) ρ
  | _ => .stuck
@[simp] theorem x_strI (f : EF) (ρ : En) : strI f ρ = (f ρ).bind fun o ρ1 => strK ρ1 o := by unfold strI strK; rfl
@[simp] theorem x_strK (z : Str) : strK ρ (.dat (.str z)) = .ok (z.cps.toList.map fun c => .str ⟨#[c]⟩) ρ := (rfl)
def zipK (ρ : En) : PyData → PyData → Rs (List PyData)
  | .list xs, .list ys => .ok ((xs.zip ys).map fun z => .tuple [z.1, z.2]) ρ
  | .tuple xs, .tuple ys => .ok ((xs.zip ys).map fun z => .tuple [z.1, z.2]) ρ
  | _, _ => .stuck
@[simp] theorem x_zipI (f g : EF) (ρ : En) : zipI f g ρ = (shE f ρ).bind fun a ρ1 => (shE g ρ1).bind fun b ρ2 => zipK ρ2 a b := by unfold zipI zipK; rfl
@[simp] theorem x_zipK1 (xs ys : List PyData) : zipK ρ (.list xs) (.list ys) = .ok ((xs.zip ys).map fun z => .tuple [z.1, z.2]) ρ := (rfl)
@[simp] theorem x_zipK2 (xs ys : List PyData) : zipK ρ (.tuple xs) (.tuple ys) = .ok ((xs.zip ys).map fun z => .tuple [z.1, z.2]) ρ := (rfl)
@[simp] theorem x_shE (f : EF) (ρ : En) : shE f ρ = (f ρ).bind fun o ρ1 => o.dv.elim .stuck fun d => .ok d ρ1 := by unfold shE; congr 1; funext o ρ1; cases o.dv <;> rfl
@[simp] theorem x_forS (it : IF) (t : Tg) (body : SF) (ρ : En) : forS it t body ρ = (it ρ).bindS fun ds ρ1 => loopF t body ds ρ1 := (rfl)
@[simp] theorem x_loop_nil (t : Tg) (body : SF) (ρ : En) : loopF t body [] ρ = .nx ρ := (rfl)
def loopK (k : En → Out) : Out → Out
  | .nx ρ2 => k ρ2
  | .ct ρ2 => k ρ2
  | .bk ρ2 => .nx ρ2
  | .rt o ρ2 => .rt o ρ2
  | .er c o ρ2 => .er c o ρ2
  | .stuck => .stuck
theorem x_loop_cons (t : Tg) (body : SF) (d : PyData) (ds : List PyData) (ρ : En) : loopF t body (d :: ds) ρ = (t.f d ρ).elim .stuck fun ρ1 => loopK (loopF t body ds) (body ρ1) := by 
  rw [loopF]
  cases h : t.f d ρ with
  | none => simp [h]
  | some ρ1 =>
    simp only [h, Option.elim]
    cases h2 : body ρ1 <;> simp [loopK]
@[simp] theorem x_loopK1 (k : En → Out) : loopK k (.nx ρ) = k ρ := (rfl)
@[simp] theorem x_loopK2 (k : En → Out) : loopK k (.ct ρ) = k ρ := (rfl)
@[simp] theorem x_loopK3 (k : En → Out) : loopK k (.bk ρ) = .nx ρ := (rfl)
@[simp] theorem x_loopK4 (k : En → Out) (o : O) : loopK k (.rt o ρ) = .rt o ρ := (rfl)
@[simp] theorem x_loopK5 (k : En → Out) (c : Str) (o : O) : loopK k (.er c o ρ) = .er c o ρ := (rfl)
/-- one way through a loop's body that goes on -/
theorem loop_nx {t : Tg} {body : SF} {d : PyData} {ds : List PyData} {ρ ρ1 ρ2 : En} (h : t.f d ρ = some ρ1) (hb : body ρ1 = .nx ρ2 ∨ body ρ1 = .ct ρ2) : loopF t body (d :: ds) ρ = loopF t body ds ρ2 := by
  rw [x_loop_cons, h]
  rcases hb with e | e <;> simp [e]
theorem loop_rt {t : Tg} {body : SF} {d : PyData} {ds : List PyData} {ρ ρ1 ρ2 : En} {o : O} (h : t.f d ρ = some ρ1) (hb : body ρ1 = .rt o ρ2) : loopF t body (d :: ds) ρ = .rt o ρ2 := by
  rw [x_loop_cons, h]; simp [hb]
theorem loop_bk {t : Tg} {body : SF} {d : PyData} {ds : List PyData} {ρ ρ1 ρ2 : En} (h : t.f d ρ = some ρ1) (hb : body ρ1 = .bk ρ2) : loopF t body (d :: ds) ρ = .nx ρ2 := by
  rw [x_loop_cons, h]; simp [hb]
/-! comprehensions -/
@[simp] theorem x_yesT (ρ : En) : yesT ρ = .ok true ρ := (rfl)
@[simp] theorem x_wipe_nil (ρ : En) : wipeR ρ [] = ρ := (rfl)
@[simp] theorem x_wipe_cons (ρ : En) (v : Nat) (vs : List Nat) : wipeR ρ (v :: vs) = (wipeR ρ vs).set v .no := (rfl)
def restK (i : Nat) (ρ : En) : Option Sl → En
  | some (.val (.dat d)) => match ρ[i]? with
    | some .no => ρ.set i (.val (.dat d))
    | _ => ρ
  | _ => ρ
@[simp] theorem x_rest_nil (ρ1 ρ : En) : restF ρ1 [] ρ = ρ := (rfl)
@[simp] theorem x_rest_cons (ρ1 ρ : En) (is : List Nat) : restF ρ1 (i :: is) ρ = restK i (restF ρ1 is ρ) ρ1[i]? := by
  unfold restK
  first
    | (rw [restF]; done)
    | (rw [restF]; rfl)
@[simp] theorem x_restK_no : restK i ρ (some .no) = ρ := (rfl)
@[simp] theorem x_restK_bor (o : O) : restK i ρ (some (.bor o)) = ρ := (rfl)
@[simp] theorem x_restK_ls (ds : List PyData) : restK i ρ (some (.val (.ls ds))) = ρ := (rfl)
@[simp] theorem x_restK_lent : restK i ρ (some .lent) = ρ := (rfl)
theorem x_restK_dat (d : PyData) (h : ρ[i]? = some .no) : restK i ρ (some (.val (.dat d))) = ρ.set i (.val (.dat d)) := by unfold restK; rw [h]
@[simp] theorem x_lcF (it : IF) (t : Tg) (c : TF) (e : EF) (own : List Nat) (ρ : En) : lcF it t c e own ρ = (it ρ).bind fun ds ρ1 => if small (ds.length) = true then lcFin own ρ1 [] (lcL t c e own ds (wipeR ρ1 own)) else .stuck := by simp only [small_iff]; rfl
@[simp] theorem x_lcFin (own : List Nat) (ρ1 : En) (acc xs : List PyData) (ρ2 : En) : lcFin own ρ1 acc (.ok xs ρ2) = .ok (.ls (acc ++ xs)) (restF ρ1 own ρ2) := (rfl)
@[simp] theorem x_lcL_nil (t : Tg) (c : TF) (e : EF) (own : List Nat) (ρ : En) : lcL t c e own [] ρ = .ok [] ρ := (rfl)
theorem x_lcL_cons (t : Tg) (c : TF) (e : EF) (own : List Nat) (d : PyData) (ds : List PyData) (ρ : En) : lcL t c e own (d :: ds) ρ = (t.f d ρ).elim .stuck fun ρ1 => (c ρ1).bindX fun b ρ2 => if b = true then (e ρ2).bindX fun o ρ3 => o.dv.elim .stuck fun x => (lcL t c e own ds (wipeR ρ3 own)).bindX fun xs ρ4 => .ok (x :: xs) ρ4
      else lcL t c e own ds (wipeR ρ2 own) := by rw [lcL]; cases t.f d ρ with
  | none => rfl
  | some ρ1 =>
    simp only [Option.elim]
    congr 1; funext b ρ2; split
    · congr 1; funext o ρ3; cases o.dv <;> rfl
    · rfl
/-! lists, dicts in slots -/
def updK (i : Nat) (c : O) (ρ : En) : Option Sl → En
  | some (.val _) => ρ.set i (.val c)
  | some (.bor _) => ρ.set i (.bor c)
  | _ => ρ
@[simp] theorem x_updS (c : O) : updS i c ρ = updK i c ρ ρ[i]? := by unfold updS updK; rfl
@[simp] theorem x_updK1 (c o : O) : updK i c ρ (some (.val o)) = ρ.set i (.val c) := (rfl)
@[simp] theorem x_updK2 (c o : O) : updK i c ρ (some (.bor o)) = ρ.set i (.bor c) := (rfl)
@[simp] theorem x_isL_ls (ds : List PyData) : isL (some (.ls ds)) = true := (rfl)
@[simp] theorem x_isL_dat (d : PyData) : isL (some (.dat d)) = false := (rfl)
@[simp] theorem x_isL_dk (kvs : List (L2.Key × PyData)) : isL (some (.dk kvs)) = false := (rfl)
@[simp] theorem x_isD_ls (ds : List PyData) : isD (some (.ls ds)) = false := (rfl)
@[simp] theorem x_isD_dat (d : PyData) : isD (some (.dat d)) = false := (rfl)
@[simp] theorem x_isD_dk (kvs : List (L2.Key × PyData)) : isD (some (.dk kvs)) = true := (rfl)
@[simp] theorem x_finM (c : O) (d : PyData) (ρ : En) : finM i (some (c, d)) ρ = .ok (.dat d) (updS i c ρ) := (rfl)
@[simp] theorem x_mm0 (F : O → Ch) (ρ : En) : mm0 i F ρ = (getS ρ i).elim .stuck fun c => if isL (some c) = true then finM i (F c) ρ else .stuck := by unfold mm0; cases getS ρ i <;> rfl
@[simp] theorem x_mm1 (F : O → PyData → Ch) (f : EF) (ρ : En) : mm1 i F f ρ = if isL (getS ρ i) = true then (shE f ρ).bind fun d ρ1 => (getS ρ1 i).elim .stuck fun c => finM i (F c d) ρ1 else .stuck := by unfold mm1; congr 1; congr 1; funext d ρ1; cases getS ρ1 i <;> rfl
@[simp] theorem x_mm2 (F : O → PyData → PyData → Ch) (f g : EF) (ρ : En) : mm2 i F f g ρ = if isL (getS ρ i) = true then (shE f ρ).bind fun d ρ1 => (shE g ρ1).bind fun e ρ2 => (getS ρ2 i).elim .stuck fun c => finM i (F c d e) ρ2 else .stuck := by unfold mm2; congr 1; congr 1; funext d ρ1; congr 1; funext e ρ2; cases getS ρ2 i <;> rfl
@[simp] theorem x_appO (ds : List PyData) (d : PyData) : appO (.ls ds) d = if small (ds.length + 1) = true then some (.ls (ds ++ [d]), .none) else none := by simp only [small_iff]; rfl
@[simp] theorem x_popO (ds : List PyData) (d : PyData) : popO (.ls (ds ++ [d])) = some (.ls ds, d) := by simp [popO]
@[simp] theorem x_popO2 (ds : List PyData) (d e : PyData) : popO (.ls (ds ++ [d, e])) = some (.ls (ds ++ [d]), e) := by
  rw [show ds ++ [d, e] = (ds ++ [d]) ++ [e] by simp, x_popO]
@[simp] theorem x_popO1 (d : PyData) : popO (.ls [d]) = some (.ls [], d) := (rfl)
@[simp] theorem x_clearO (ds : List PyData) : clearO (.ls ds) = some (.ls [], .none) := (rfl)
@[simp] theorem x_revO (ds : List PyData) : revO (.ls ds) = some (.ls ds.reverse, .none) := (rfl)
@[simp] theorem x_stS (F : O → PyData → PyData → Option O) (ix e : EF) (ρ : En) : stS i F ix e ρ = (shE e ρ).bindS fun d ρ1 => (getS ρ1 i).elim .stuck fun _ => (shE ix ρ1).bindS fun j ρ2 => (getS ρ2 i).elim .stuck fun c => (F c j d).elim .stuck fun c' => .nx (updS i c' ρ2) := by unfold stS; congr 1; funext d ρ1; cases getS ρ1 i with
  | none => rfl
  | some c =>
    simp only [Option.elim]
    congr 1; funext j ρ2; cases getS ρ2 i with
    | none => rfl
    | some c => simp only []; cases F c j d <;> rfl
@[simp] theorem x_stA_ls (ds : List PyData) (ix d : PyData) : stA (.ls ds) ix d = setAt (.ls ds) ix d := (rfl)
@[simp] theorem x_stA_dk (kvs : List (L2.Key × PyData)) (ix d : PyData) : stA (.dk kvs) ix d = putAt (.dk kvs) ix d := (rfl)
@[simp] theorem x_setAt (ds : List PyData) (k : Int) (d : PyData) : setAt (.ls ds) (.int k) d = (ixN ds.length k).map fun j => .ls (ds.set j d) := (rfl)
@[simp] theorem x_keyD_int (n : Int) : keyD (.int n) = some (.inl n) := (rfl)
@[simp] theorem x_keyD_str (z : Str) : keyD (.str z) = some (.inr z) := (rfl)
@[simp] theorem x_putAt (kvs : List (L2.Key × PyData)) (ix d : PyData) : putAt (.dk kvs) ix d = (keyD ix).elim none fun k => if small (kvs.length + 1) = true then some (.dk (putD kvs k d)) else none := by simp only [small_iff]; unfold putAt; cases keyD ix <;> rfl
@[simp] theorem x_dkOf (kvs : List (L2.Key × PyData)) : dkOf (some (.dk kvs)) = some kvs := (rfl)
@[simp] theorem x_look (kvs : List (L2.Key × PyData)) (d : PyData) : look (some (.dk kvs)) d = (keyD d).map fun k => valD kvs k := by unfold look; simp only [x_dkOf]; cases keyD d <;> rfl
@[simp] theorem x_newD (ρ : En) : newD ρ = .ok (.dk []) ρ := (rfl)
def valK (ρ : En) : Option (Option PyData) → Res
  | some (some v) => .ok (.dat v) ρ
  | _ => .stuck
@[simp] theorem x_dIx (f : EF) (ρ : En) : dIx i f ρ = if isD (getS ρ i) = true then (shE f ρ).bind fun d ρ1 => valK ρ1 (look (getS ρ1 i) d) else .stuck := by unfold dIx valK; rfl
@[simp] theorem x_valK (v : PyData) : valK ρ (some (some v)) = .ok (.dat v) ρ := (rfl)
@[simp] theorem x_dGet1 (f : EF) (ρ : En) : dGet1 i f ρ = if isD (getS ρ i) = true then (shE f ρ).bind fun d ρ1 => (look (getS ρ1 i) d).elim .stuck fun v => .ok (.dat (v.getD .none)) ρ1 else .stuck := by unfold dGet1; congr 1; congr 1; funext d ρ1; cases look (getS ρ1 i) d <;> rfl
@[simp] theorem x_dGet2 (f g : EF) (ρ : En) : dGet2 i f g ρ = if isD (getS ρ i) = true then (shE f ρ).bind fun d ρ1 => (shE g ρ1).bind fun e ρ2 => (look (getS ρ2 i) d).elim .stuck fun v => .ok (.dat (v.getD e)) ρ2 else .stuck := by unfold dGet2; congr 1; congr 1; funext d ρ1; congr 1; funext e ρ2; cases look (getS ρ2 i) d <;> rfl
@[simp] theorem x_dIn (f : EF) (ρ : En) : dIn i f ρ = (shE f ρ).bind fun d ρ1 => (look (getS ρ1 i) d).elim .stuck fun v => .ok (.dat (.bool v.isSome)) ρ1 := by unfold dIn; congr 1; funext d ρ1; cases look (getS ρ1 i) d <;> rfl
@[simp] theorem x_dNin (f : EF) (ρ : En) : dNin i f ρ = (shE f ρ).bind fun d ρ1 => (look (getS ρ1 i) d).elim .stuck fun v => .ok (.dat (.bool (!v.isSome))) ρ1 := by unfold dNin; congr 1; funext d ρ1; cases look (getS ρ1 i) d <;> rfl
@[simp] theorem x_dSetd (f g : EF) (ρ : En) : dSetd i f g ρ = if isD (getS ρ i) = true then (shE f ρ).bind fun d ρ1 => (shE g ρ1).bind fun e ρ2 => (dkOf (getS ρ2 i)).elim .stuck fun kvs => (keyD d).elim .stuck fun k => if small (kvs.length + 1) = true then (valD kvs k).elim (.ok (.dat e) (updS i (.dk (putD kvs k e)) ρ2)) (fun v => .ok (.dat v) ρ2) else .stuck else .stuck := by
  simp only [small_iff]
  unfold dSetd
  congr 1; congr 1; funext d ρ1; congr 1; funext e ρ2
  cases dkOf (getS ρ2 i) with
  | none => rfl
  | some kvs =>
    cases keyD d with
    | none => rfl
    | some k =>
      simp only [Option.elim]
      congr 1
      cases valD kvs k <;> rfl
@[simp] theorem x_sItems (ρ : En) : sItems i ρ = ((dkOf (getS ρ i)).bind strKs).elim .stuck fun xs => if xs.length < 64 ∧ (xs.map (·.1)).Nodup then .ok (.ls ((sortK xs).map pairD)) ρ else .stuck := by
  unfold sItems
  cases (dkOf (getS ρ i)).bind strKs <;> rfl
@[simp] theorem x_ixS (f : EF) (ρ : En) : ixS i f ρ = if Vs.isD (getS ρ i) = true then dIx i f ρ else op2 ixO (slotF i) (tmpF f) ρ := (rfl)
@[simp] theorem x_inS (f : EF) (ρ : En) : inS i f ρ = if Vs.isD (getS ρ i) = true then dIn i f ρ else op2 inO (tmpF f) (slotF i) ρ := (rfl)
@[simp] theorem x_ninS (f : EF) (ρ : En) : ninS i f ρ = if Vs.isD (getS ρ i) = true then dNin i f ρ else op2 ninO (tmpF f) (slotF i) ρ := (rfl)
@[simp] theorem x_nilP (ρ : En) : nilP ρ = .ok [] ρ := (rfl)
@[simp] theorem x_consP (f g : EF) (h : PrF) (ρ : En) : consP f g h ρ = (shE f ρ).bind fun k ρ1 => (shE g ρ1).bind fun v ρ2 => (h ρ2).bind fun r ρ3 => .ok ((k, v) :: r) ρ3 := (rfl)
@[simp] theorem x_keysOf_nil : keysOf [] = some [] := (rfl)
@[simp] theorem x_keysOf_cons (k v : PyData) (r : List (PyData × PyData)) : keysOf ((k, v) :: r) = (keyD k).bind fun kk => (keysOf r).map fun rr => (kk, v) :: rr := by
  show (match keyD k, keysOf r with | some kk, some rr => some ((kk, v) :: rr) | _, _ => none) = _
  cases keyD k <;> cases keysOf r <;> rfl
@[simp] theorem x_dispF (h : PrF) (ρ : En) : dispF h ρ = (h ρ).bind fun ps ρ1 => (keysOf ps).elim .stuck fun kvs => if kvs.length ≤ 15 then .ok (.dk (mergeD [] kvs)) ρ1 else .stuck := by unfold dispF; congr 1; funext ps ρ1; cases keysOf ps <;> rfl
/-! operations -/
@[simp] theorem x_bo (b : Bool) : bo b = some (.dat (.bool b)) := (rfl)
@[simp] theorem x_add_i (i j : Int) : addO (.dat (.int i)) (.dat (.int j)) = some (.dat (.int (i + j))) := (rfl)
@[simp] theorem x_add_s (x y : Str) : addO (.dat (.str x)) (.dat (.str y)) = if small (x.length + y.length) = true then some (.dat (.str (x ++ y))) else none := by simp only [small_iff]; rfl
@[simp] theorem x_add_t (xs ys : List PyData) : addO (.dat (.tuple xs)) (.dat (.tuple ys)) = if xs ≠ [] ∧ small (xs.length + ys.length) = true then some (.dat (.tuple (xs ++ ys))) else none := by simp only [small_iff]; rfl
@[simp] theorem x_add_l1 (xs ys : List PyData) : addO (.ls xs) (.ls ys) = if small (xs.length + ys.length) = true then some (.ls (xs ++ ys)) else none := by simp only [small_iff]; rfl
@[simp] theorem x_add_l2 (xs ys : List PyData) : addO (.dat (.list xs)) (.ls ys) = if small (xs.length + ys.length) = true then some (.ls (xs ++ ys)) else none := by simp only [small_iff]; rfl
@[simp] theorem x_add_l3 (xs ys : List PyData) : addO (.ls xs) (.dat (.list ys)) = if small (xs.length + ys.length) = true then some (.ls (xs ++ ys)) else none := by simp only [small_iff]; rfl
@[simp] theorem x_add_l4 (xs ys : List PyData) : addO (.dat (.list xs)) (.dat (.list ys)) = if small (xs.length + ys.length) = true then some (.ls (xs ++ ys)) else none := by simp only [small_iff]; rfl
@[simp] theorem x_sub_i (i j : Int) : subO (.dat (.int i)) (.dat (.int j)) = some (.dat (.int (i - j))) := (rfl)
@[simp] theorem x_mul_i (i j : Int) : mulO (.dat (.int i)) (.dat (.int j)) = if (Wid i ∧ Wid j) ∨ nar i = true ∨ nar j = true then some (.dat (.int (i * j))) else none := (rfl)
theorem nar_of {i : Int} (h1 : -18446744073709551616 < i) (h2 : i < 18446744073709551616) : nar i = true := by
  unfold nar
  rw [decide_eq_true_eq]
  omega
@[simp] theorem x_fdiv_i (i j : Int) : fdivO (.dat (.int i)) (.dat (.int j)) = if 0 < j ∧ Wid j then some (.dat (.int (i / j))) else none := (rfl)
@[simp] theorem x_mod_i (i j : Int) : modO (.dat (.int i)) (.dat (.int j)) = if 0 < j then some (.dat (.int (i % j))) else none := (rfl)
theorem powOk_s {i j : Int} (h0 : 0 ≤ j) (h1 : j ≤ 1000000) (h : i.natAbs < 2 ^ 64) : powOk i j = true := by
  unfold powOk
  rw [Bool.or_eq_true, decide_eq_true_eq, decide_eq_true_eq]
  exact .inl ⟨h0, h1, h⟩
theorem powOk_b {i j : Int} (h0 : 0 ≤ j) (h1 : j ≤ 64) (h : i.natAbs < 2 ^ 1024) : powOk i j = true := by
  unfold powOk
  rw [Bool.or_eq_true, decide_eq_true_eq, decide_eq_true_eq]
  exact .inr ⟨h0, h1, h⟩
@[simp] theorem powOk_10_6 : powOk 10 6 = true := powOk_s (by decide) (by decide) (by decide)
@[simp] theorem powOk_10_7 : powOk 10 7 = true := powOk_s (by decide) (by decide) (by decide)
@[simp] theorem powOk_10_9 : powOk 10 9 = true := powOk_s (by decide) (by decide) (by decide)
@[simp] theorem powOk_10_12 : powOk 10 12 = true := powOk_s (by decide) (by decide) (by decide)
@[simp] theorem powOk_10_15 : powOk 10 15 = true := powOk_s (by decide) (by decide) (by decide)
@[simp] theorem powOk_10_18 : powOk 10 18 = true := powOk_s (by decide) (by decide) (by decide)
@[simp] theorem powOk_10_30 : powOk 10 30 = true := powOk_s (by decide) (by decide) (by decide)
@[simp] theorem powOk_10_31 : powOk 10 31 = true := powOk_s (by decide) (by decide) (by decide)
@[simp] theorem powOk_10_33 : powOk 10 33 = true := powOk_s (by decide) (by decide) (by decide)
@[simp] theorem powOk_10_36 : powOk 10 36 = true := powOk_s (by decide) (by decide) (by decide)
@[simp] theorem powOk_10_40 : powOk 10 40 = true := powOk_s (by decide) (by decide) (by decide)
@[simp] theorem x_pow_i (i j : Int) : powO (.dat (.int i)) (.dat (.int j)) = if powOk i j = true then some (.dat (.int (i ^ j.toNat))) else none := (rfl)
@[simp] theorem x_neg_i (i : Int) : negO (.dat (.int i)) = some (.dat (.int (-i))) := (rfl)
@[simp] theorem x_lt_i (i j : Int) : ltO (.dat (.int i)) (.dat (.int j)) = bo (decide (i < j)) := (rfl)
@[simp] theorem x_lt_s (i j : Str) : ltO (.dat (.str i)) (.dat (.str j)) = bo (decide (i.cps.toList < j.cps.toList)) := (rfl)
@[simp] theorem x_le_i (i j : Int) : leO (.dat (.int i)) (.dat (.int j)) = bo (decide (i ≤ j)) := (rfl)
@[simp] theorem x_gt_i (i j : Int) : gtO (.dat (.int i)) (.dat (.int j)) = bo (decide (j < i)) := (rfl)
@[simp] theorem x_ge_i (i j : Int) : geO (.dat (.int i)) (.dat (.int j)) = bo (decide (j ≤ i)) := (rfl)
@[simp] theorem x_eqO (a b : PyData) : eqO (.dat a) (.dat b) = if min a.depth b.depth ≤ 64 then bo (PyData.eqv a b) else none := (rfl)
@[simp] theorem x_neO (a b : PyData) : neO (.dat a) (.dat b) = if min a.depth b.depth ≤ 64 then bo (!PyData.eqv a b) else none := (rfl)
@[simp] theorem x_neO_ls (a b : List PyData) : neO (.ls a) (.ls b) = if min (PyData.list a).depth (PyData.list b).depth ≤ 64 then bo (!PyData.eqv (.list a) (.list b)) else none := (rfl)
@[simp] theorem x_eqO_ls (a b : List PyData) : eqO (.ls a) (.ls b) = if min (PyData.list a).depth (PyData.list b).depth ≤ 64 then bo (PyData.eqv (.list a) (.list b)) else none := (rfl)
@[simp] theorem x_eqO_ls1 (a : List PyData) (b : PyData) : eqO (.ls a) (.dat b) = if min (PyData.list a).depth b.depth ≤ 64 then bo (PyData.eqv (.list a) b) else none := (rfl)
@[simp] theorem x_eqO_ls2 (b : List PyData) (a : PyData) : eqO (.dat a) (.ls b) = if min a.depth (PyData.list b).depth ≤ 64 then bo (PyData.eqv a (.list b)) else none := (rfl)
@[simp] theorem x_neO_ls1 (a : List PyData) (b : PyData) : neO (.ls a) (.dat b) = if min (PyData.list a).depth b.depth ≤ 64 then bo (!PyData.eqv (.list a) b) else none := (rfl)
@[simp] theorem x_neO_ls2 (b : List PyData) (a : PyData) : neO (.dat a) (.ls b) = if min a.depth (PyData.list b).depth ≤ 64 then bo (!PyData.eqv a (.list b)) else none := (rfl)
@[simp] theorem x_in_s (i j : Str) : inO (.dat (.str i)) (.dat (.str j)) = bo (strIn i j) := (rfl)
@[simp] theorem x_nin_s (i j : Str) : ninO (.dat (.str i)) (.dat (.str j)) = bo (!strIn i j) := (rfl)
theorem x_in_sq (a b : O) (d : PyData) (xs : List PyData) (ha : a.dv = some d) (hb : b.sv = some xs) : inO a b = if min (PyData.depthAll xs) d.depth ≤ 60 then bo (xs.any fun y => PyData.eqv y d) else none := by
  unfold inO
  split
  · cases hb
  · simp [ha, hb]
theorem x_nin_sq (a b : O) (d : PyData) (xs : List PyData) (ha : a.dv = some d) (hb : b.sv = some xs) : ninO a b = if min (PyData.depthAll xs) d.depth ≤ 60 then bo (!xs.any fun y => PyData.eqv y d) else none := by
  unfold ninO
  split
  · cases hb
  · simp [ha, hb]
@[simp] theorem x_in_1 (d : PyData) (xs : List PyData) : inO (.dat d) (.dat (.list xs)) = if min (PyData.depthAll xs) d.depth ≤ 60 then bo (xs.any fun y => PyData.eqv y d) else none := x_in_sq _ _ _ _ rfl rfl
@[simp] theorem x_in_2 (d : PyData) (xs : List PyData) : inO (.dat d) (.dat (.tuple xs)) = if min (PyData.depthAll xs) d.depth ≤ 60 then bo (xs.any fun y => PyData.eqv y d) else none := x_in_sq _ _ _ _ rfl rfl
@[simp] theorem x_in_3 (d : PyData) (xs : List PyData) : inO (.dat d) (.ls xs) = if min (PyData.depthAll xs) d.depth ≤ 60 then bo (xs.any fun y => PyData.eqv y d) else none := x_in_sq _ _ _ _ rfl rfl
@[simp] theorem x_nin_1 (d : PyData) (xs : List PyData) : ninO (.dat d) (.dat (.list xs)) = if min (PyData.depthAll xs) d.depth ≤ 60 then bo (!xs.any fun y => PyData.eqv y d) else none := x_nin_sq _ _ _ _ rfl rfl
@[simp] theorem x_nin_2 (d : PyData) (xs : List PyData) : ninO (.dat d) (.dat (.tuple xs)) = if min (PyData.depthAll xs) d.depth ≤ 60 then bo (!xs.any fun y => PyData.eqv y d) else none := x_nin_sq _ _ _ _ rfl rfl
@[simp] theorem x_nin_3 (d : PyData) (xs : List PyData) : ninO (.dat d) (.ls xs) = if min (PyData.depthAll xs) d.depth ≤ 60 then bo (!xs.any fun y => PyData.eqv y d) else none := x_nin_sq _ _ _ _ rfl rfl
@[simp] theorem x_ix_s (z : Str) (i : Int) : ixO (.dat (.str z)) (.dat (.int i)) = if small (z.length) = true then (atI z.cps.toList i).map (fun c => .dat (.str ⟨#[c]⟩)) else none := by simp only [small_iff]; rfl
theorem x_ix_sq (a : O) (i : Int) (ds : List PyData) (h : a.sv = some ds) : ixO a (.dat (.int i)) = (atI ds i).map .dat := by
  unfold ixO
  split
  · cases h
  · rename_i e
    cases e
    simp [h]
  · rename_i n1 n2
    exact (n1 i rfl).elim
@[simp] theorem x_ix_1 (i : Int) (ds : List PyData) : ixO (.dat (.list ds)) (.dat (.int i)) = (atI ds i).map .dat := x_ix_sq _ _ _ rfl
@[simp] theorem x_ix_2 (i : Int) (ds : List PyData) : ixO (.dat (.tuple ds)) (.dat (.int i)) = (atI ds i).map .dat := x_ix_sq _ _ _ rfl
@[simp] theorem x_ix_3 (i : Int) (ds : List PyData) : ixO (.ls ds) (.dat (.int i)) = (atI ds i).map .dat := x_ix_sq _ _ _ rfl
/-- items by small numbers -/
@[simp] theorem x_at0 {α : Type} (a : α) (r : List α) : atI (a :: r) 0 = some a := by simp [atI, ixN]
@[simp] theorem x_at1 {α : Type} (a b : α) (r : List α) : atI (a :: b :: r) 1 = some b := by
  have h : (1 : Int) < (r.length : Int) + 1 + 1 := by omega
  simp [atI, ixN, h]
@[simp] theorem x_at2 {α : Type} (a b c : α) (r : List α) : atI (a :: b :: c :: r) 2 = some c := by
  have h : (2 : Int) < (r.length : Int) + 1 + 1 + 1 := by omega
  simp [atI, ixN, h]
@[simp] theorem x_at3 {α : Type} (a b c d : α) (r : List α) : atI (a :: b :: c :: d :: r) 3 = some d := by
  have h : (3 : Int) < (r.length : Int) + 1 + 1 + 1 + 1 := by omega
  simp [atI, ixN, h]
@[simp] theorem x_at4 {α : Type} (a b c d e : α) (r : List α) : atI (a :: b :: c :: d :: e :: r) 4 = some e := by
  have h : (4 : Int) < (r.length : Int) + 1 + 1 + 1 + 1 + 1 := by omega
  simp [atI, ixN, h]
theorem x_atN {α : Type} (xs : List α) (j : Nat) (h : j < xs.length) : atI xs (j : Int) = some xs[j] := by
  simp [atI, ixN, h]
@[simp] theorem x_len_s (z : Str) : lenO (.dat (.str z)) = if small (z.length) = true then some (.dat (.int z.length)) else none := by simp only [small_iff]; rfl
@[simp] theorem x_len_1 (ds : List PyData) : lenO (.dat (.list ds)) = some (.dat (.int ds.length)) := (rfl)
@[simp] theorem x_len_2 (ds : List PyData) : lenO (.dat (.tuple ds)) = some (.dat (.int ds.length)) := (rfl)
@[simp] theorem x_len_3 (ds : List PyData) : lenO (.ls ds) = some (.dat (.int ds.length)) := (rfl)
@[simp] theorem x_tr_none : trO (.dat .none) = some false := (rfl)
@[simp] theorem x_tr_bool (b : Bool) : trO (.dat (.bool b)) = some b := (rfl)
@[simp] theorem x_tr_int (i : Int) : trO (.dat (.int i)) = some (i != 0) := (rfl)
@[simp] theorem x_tr_str (z : Str) : trO (.dat (.str z)) = if small (z.length) = true then some ((z.length : Int) != 0) else none := by simp only [small_iff]; rfl
@[simp] theorem x_tr_list (ds : List PyData) : trO (.dat (.list ds)) = some (!ds.isEmpty) := (rfl)
@[simp] theorem x_tr_tuple (ds : List PyData) : trO (.dat (.tuple ds)) = some (!ds.isEmpty) := (rfl)
@[simp] theorem x_tr_ls (ds : List PyData) : trO (.ls ds) = some (!ds.isEmpty) := (rfl)
@[simp] theorem x_tr_dk (kvs : List (L2.Key × PyData)) : trO (.dk kvs) = some (!kvs.isEmpty) := (rfl)
@[simp] theorem x_not_b (b : Bool) : notO (.dat (.bool b)) = some (.dat (.bool !b)) := (rfl)
@[simp] theorem x_isN_none : isNO (.dat .none) = some (.dat (.bool true)) := (rfl)
theorem x_isN {d : PyData} (h : d ≠ .none) : isNO (.dat d) = some (.dat (.bool false)) := by cases d <;> first | exact (h rfl).elim | rfl
@[simp] theorem x_isN_ls (ds : List PyData) : isNO (.ls ds) = some (.dat (.bool false)) := (rfl)
@[simp] theorem x_isN_tuple (ds : List PyData) : isNO (.dat (.tuple ds)) = some (.dat (.bool false)) := (rfl)
@[simp] theorem x_isN_list (ds : List PyData) : isNO (.dat (.list ds)) = some (.dat (.bool false)) := (rfl)
@[simp] theorem x_isN_str (z : Str) : isNO (.dat (.str z)) = some (.dat (.bool false)) := (rfl)
@[simp] theorem x_isN_int (z : Int) : isNO (.dat (.int z)) = some (.dat (.bool false)) := (rfl)
@[simp] theorem x_isN_bool (z : Bool) : isNO (.dat (.bool z)) = some (.dat (.bool false)) := (rfl)
@[simp] theorem x_notN_none : notNO (.dat .none) = some (.dat (.bool false)) := (rfl)
@[simp] theorem x_notN_ls (ds : List PyData) : notNO (.ls ds) = some (.dat (.bool true)) := (rfl)
@[simp] theorem x_notN_tuple (ds : List PyData) : notNO (.dat (.tuple ds)) = some (.dat (.bool true)) := (rfl)
@[simp] theorem x_notN_list (ds : List PyData) : notNO (.dat (.list ds)) = some (.dat (.bool true)) := (rfl)
@[simp] theorem x_notN_str (z : Str) : notNO (.dat (.str z)) = some (.dat (.bool true)) := (rfl)
@[simp] theorem x_notN_int (z : Int) : notNO (.dat (.int z)) = some (.dat (.bool true)) := (rfl)
@[simp] theorem x_int_i (i : Int) : intO (.dat (.int i)) = some (.dat (.int i)) := (rfl)
@[simp] theorem x_int_b (b : Bool) : intO (.dat (.bool b)) = some (.dat (.int (if b then 1 else 0))) := (rfl)
@[simp] theorem x_isa_list (ns : List String) (ds : List PyData) : isaO ns (.dat (.list ds)) = some (.dat (.bool (ns.any fun n => isA "list" n))) := (rfl)
@[simp] theorem x_isa_ls (ns : List String) (ds : List PyData) : isaO ns (.ls ds) = some (.dat (.bool (ns.any fun n => isA "list" n))) := (rfl)
@[simp] theorem x_isa_tuple (ns : List String) (ds : List PyData) : isaO ns (.dat (.tuple ds)) = some (.dat (.bool (ns.any fun n => isA "tuple" n))) := (rfl)
@[simp] theorem x_isa_str (ns : List String) (z : Str) : isaO ns (.dat (.str z)) = some (.dat (.bool (ns.any fun n => isA "str" n))) := (rfl)
@[simp] theorem x_isa_int (ns : List String) (z : Int) : isaO ns (.dat (.int z)) = some (.dat (.bool (ns.any fun n => isA "int" n))) := (rfl)
@[simp] theorem x_isa_bool (ns : List String) (z : Bool) : isaO ns (.dat (.bool z)) = some (.dat (.bool (ns.any fun n => isA "bool" n))) := (rfl)
@[simp] theorem x_isa_none (ns : List String) : isaO ns (.dat .none) = some (.dat (.bool (ns.any fun n => isA "NoneType" n))) := (rfl)
@[simp] theorem x_list (a : O) : listO a = a.sv.map .ls := (rfl)
@[simp] theorem x_tuple_ls (ds : List PyData) : tupleO (.ls ds) = some (.dat (.tuple ds)) := (rfl)
@[simp] theorem x_tuple_l (ds : List PyData) : tupleO (.dat (.list ds)) = some (.dat (.tuple ds)) := (rfl)
@[simp] theorem x_tuple_t (ds : List PyData) : tupleO (.dat (.tuple ds)) = some (.dat (.tuple ds)) := (rfl)
@[simp] theorem x_isStr (z : Str) : isStr (.dat (.str z)) = true := (rfl)
@[simp] theorem x_isLst1 (ds : List PyData) : isLst (.ls ds) = true := (rfl)
@[simp] theorem x_isLst2 (ds : List PyData) : isLst (.dat (.list ds)) = true := (rfl)
@[simp] theorem x_revL1 (ds : List PyData) : revLO (.ls ds) = some (.ls ds.reverse) := (rfl)
@[simp] theorem x_revL2 (ds : List PyData) : revLO (.dat (.list ds)) = some (.ls ds.reverse) := (rfl)
/-! loops by what stays -/
theorem loop_inv {t : Tg} {body : SF} {ds : List PyData} {ρ : En} (I : Nat → En → Prop) (h0 : I 0 ρ)
    (step : ∀ i d ρ, ds[i]? = some d → I i ρ → ∃ ρ1 ρ2, t.f d ρ = some ρ1 ∧ (body ρ1 = .nx ρ2 ∨ body ρ1 = .ct ρ2) ∧ I (i + 1) ρ2) : ∃ ρ', loopF t body ds ρ = .nx ρ' ∧ I ds.length ρ' := by
  have go : ∀ (es : List PyData) (k : Nat) (ρ : En), I k ρ → (∀ i, ds[k + i]? = es[i]?) → ∃ ρ', loopF t body es ρ = .nx ρ' ∧ I (k + es.length) ρ' := by
    intro es
    induction es with
    | nil => exact fun k ρ h _ => ⟨ρ, rfl, h⟩
    | cons d es ih =>
      intro k ρ h e
      obtain ⟨ρ1, ρ2, h1, h2, h3⟩ := step k d ρ (by simpa using e 0) h
      obtain ⟨ρ', h4, h5⟩ := ih (k + 1) ρ2 h3 fun i => by
        have := e (i + 1)
        rw [List.getElem?_cons_succ] at this
        rw [← this]
        congr 1
        omega
      refine ⟨ρ', by rw [loop_nx h1 h2]; exact h4, ?_⟩
      rw [List.length_cons]
      rw [show k + (es.length + 1) = k + 1 + es.length by omega]
      exact h5
  obtain ⟨ρ', h1, h2⟩ := go ds 0 ρ h0 fun i => by rw [Nat.zero_add]
  rw [Nat.zero_add] at h2
  exact ⟨ρ', h1, h2⟩
theorem loop_rng {t : Tg} {body : SF} {n : Nat} {lo : Int} {ρ : En} (I : Nat → En → Prop) (h0 : I 0 ρ)
    (step : ∀ i ρ, i < n → I i ρ → ∃ ρ1 ρ2, t.f (.int (lo + (i : Int))) ρ = some ρ1 ∧ (body ρ1 = .nx ρ2 ∨ body ρ1 = .ct ρ2) ∧ I (i + 1) ρ2) : ∃ ρ', loopF t body ((List.range n).map fun i : Nat => .int (lo + (i : Int))) ρ = .nx ρ' ∧ I n ρ' := by
  obtain ⟨ρ', h1, h2⟩ := loop_inv (t := t) (body := body) (ds := (List.range n).map fun i : Nat => .int (lo + (i : Int))) I h0 fun i d ρ hd h => by
    rw [List.getElem?_map] at hd
    obtain ⟨j, hj, rfl⟩ := Option.map_eq_some_iff.mp hd
    obtain ⟨hl, e⟩ := List.getElem?_eq_some_iff.mp hj
    rw [List.getElem_range] at e
    subst e
    rw [List.length_range] at hl
    exact step i ρ hl h
  rw [List.length_map, List.length_range] at h2
  exact ⟨ρ', h1, h2⟩
theorem loop_rng0 {t : Tg} {body : SF} {n : Nat} {ρ : En} (I : Nat → En → Prop) (h0 : I 0 ρ)
    (step : ∀ i ρ, i < n → I i ρ → ∃ ρ1 ρ2, t.f (.int (i : Int)) ρ = some ρ1 ∧ (body ρ1 = .nx ρ2 ∨ body ρ1 = .ct ρ2) ∧ I (i + 1) ρ2) : ∃ ρ', loopF t body ((List.range n).map fun i : Nat => .int (i : Int)) ρ = .nx ρ' ∧ I n ρ' := by
  have := loop_rng (t := t) (body := body) (n := n) (lo := 0) I h0 fun i ρ a b => by rw [Int.zero_add]; exact step i ρ a b
  simpa using this
/-- a while by what stays and what grows less -/
theorem while_inv {t : TF} {body : SF} (I : Nat → En → Prop) (D : En → Prop)
    (step : ∀ m ρ, I m ρ → (∃ ρ1, t ρ = .ok false ρ1 ∧ D ρ1) ∨ ∃ ρ1 ρ2 m', t ρ = .ok true ρ1 ∧ body ρ1 = .nx ρ2 ∧ m' < m ∧ I m' ρ2) : ∀ {m : Nat} {ρ : En}, I m ρ → ∃ ρ', whileS t body ρ = .nx ρ' ∧ D ρ' := by
  intro m
  induction m using Nat.strongRecOn with
  | ind m ih =>
    intro ρ h
    rcases step m ρ h with ⟨ρ1, h1, h2⟩ | ⟨ρ1, ρ2, m', h1, h2, h3, h4⟩
    · exact ⟨ρ1, whileS_done h1, h2⟩
    · obtain ⟨ρ', h5, h6⟩ := ih m' h3 h4
      exact ⟨ρ', whileS_next h1 h2 h5 (fun z => nomatch z), h6⟩
/-- a comprehension whose parts leave the slots as they are -/
theorem lcL_map {t : Tg} {e : EF} {own : List Nat} {ρ : En} (g : PyData → PyData) : ∀ {ds : List PyData}, (∀ d ∈ ds, ∃ ρ1 ρ2 o, t.f d ρ = some ρ1 ∧ e ρ1 = .ok o ρ2 ∧ o.dv = some (g d) ∧ wipeR ρ2 own = ρ) → lcL t yesT e own ds ρ = .ok (ds.map g) ρ
  | [], _ => rfl
  | d :: ds, h => by
    obtain ⟨ρ1, ρ2, o, h1, h2, h3, h4⟩ := h d List.mem_cons_self
    have ih := lcL_map (t := t) (e := e) (own := own) (ρ := ρ) g (ds := ds) fun z hz => h z (List.mem_cons_of_mem _ hz)
    rw [x_lcL_cons, h1]
    simp [h2, h3, h4, ih]
/-- one by one, by what stays -/
theorem lcL_inv {t : Tg} {e : EF} {own : List Nat} (I : Nat → List PyData → En → Prop) : ∀ {ds : List PyData} {k : Nat} {acc : List PyData} {ρ : En}, I k acc ρ →
    (∀ i d acc ρ, d ∈ ds → i < k + ds.length → I i acc ρ → ∃ ρ1 ρ2 o x, t.f d ρ = some ρ1 ∧ e ρ1 = .ok o ρ2 ∧ o.dv = some x ∧ I (i + 1) (acc ++ [x]) (wipeR ρ2 own)) → ∃ xs ρ', lcL t yesT e own ds ρ = .ok xs ρ' ∧ I (k + ds.length) (acc ++ xs) ρ'
  | [], k, acc, ρ, h, _ => ⟨[], ρ, rfl, by simpa using h⟩
  | d :: ds, k, acc, ρ, h, step => by
    obtain ⟨ρ1, ρ2, o, x, h1, h2, h3, h4⟩ := step k d acc ρ List.mem_cons_self (by rw [List.length_cons]; omega) h
    obtain ⟨xs, ρ', h5, h6⟩ := lcL_inv (t := t) (e := e) (own := own) I (ds := ds) h4 fun i d acc ρ hd hi => step i d acc ρ (List.mem_cons_of_mem _ hd) (by rw [List.length_cons]; omega)
    refine ⟨x :: xs, ρ', ?_, ?_⟩
    · rw [x_lcL_cons, h1]
      simp [h2, h3, h5]
    · rw [List.append_assoc] at h6
      rw [List.length_cons, show k + (ds.length + 1) = k + 1 + ds.length by omega]
      exact h6
/-- with a test -/
theorem lcL_filter {t : Tg} {c : TF} {e : EF} {own : List Nat} {ρ : En} (p : PyData → Bool) (g : PyData → PyData) : ∀ {ds : List PyData}, (∀ d ∈ ds, ∃ ρ1 ρ2, t.f d ρ = some ρ1 ∧ c ρ1 = .ok (p d) ρ2 ∧ (p d = false → wipeR ρ2 own = ρ) ∧ (p d = true → ∃ ρ3 o, e ρ2 = .ok o ρ3 ∧ o.dv = some (g d) ∧ wipeR ρ3 own = ρ)) → lcL t c e own ds ρ = .ok ((ds.filter p).map g) ρ
  | [], _ => rfl
  | d :: ds, h => by
    obtain ⟨ρ1, ρ2, h1, h2, h3, h4⟩ := h d List.mem_cons_self
    have ih := lcL_filter (t := t) (c := c) (e := e) (own := own) (ρ := ρ) p g (ds := ds) fun z hz => h z (List.mem_cons_of_mem _ hz)
    rw [x_lcL_cons, h1]
    cases hp : p d with
    | true =>
      obtain ⟨ρ3, o, h5, h6, h7⟩ := h4 hp
      simp [h2, hp, h5, h6, h7, ih]
    | false => simp [h2, hp, h3 hp, ih]
/-! defs -/
@[simp] theorem x_toSl_dat (d : PyData) : toSl (.dat d) = .val (.dat d) := (rfl)
@[simp] theorem x_toSl_ls (ds : List PyData) : toSl (.ls ds) = .bor (.ls ds) := (rfl)
@[simp] theorem x_toSl_dk (kvs : List (L2.Key × PyData)) : toSl (.dk kvs) = .bor (.dk kvs) := (rfl)
@[simp] theorem x_out_no : outSl .no = .no := (rfl)
@[simp] theorem x_out_val (o : O) : outSl (.val o) = .no := (rfl)
@[simp] theorem x_out_bor (o : O) : outSl (.bor o) = .bor o := (rfl)
def outK (np : Nat) : Out → FRs
  | .rt o ρ => .ok o (leave np ρ)
  | .nx ρ => .ok (.dat .none) (leave np ρ)
  | .er c o ρ => .er c o (leave np ρ)
  | _ => .stuck
@[simp] theorem x_outK1 (np : Nat) (o : O) (ρ : En) : outK np (.rt o ρ) = .ok o (leave np ρ) := (rfl)
@[simp] theorem x_outK2 (np : Nat) (ρ : En) : outK np (.nx ρ) = .ok (.dat .none) (leave np ρ) := (rfl)
@[simp] theorem x_outK3 (np : Nat) (c : Str) (o : O) (ρ : En) : outK np (.er c o ρ) = .er c o (leave np ρ) := (rfl)
theorem x_def (np n : Nat) (body : SF) (os : List O) : defF np n body os = if os.length = np then outK np (body (entry n os)) else .stuck := by unfold defF outK; rfl
/-- the slots ahead of the first row, given out -/
theorem x_entry (n : Nat) (os : List O) : entry n os = os.map toSl ++ List.replicate (n - os.length) .no := (rfl)
theorem x_leave (np : Nat) (ρ : En) : leave np ρ = (ρ.take np).map outSl := (rfl)
theorem x_rep0 (x : Sl) : List.replicate 0 x = [] := (rfl)
end
end Vs

namespace Vs
open PySem PySem.Spec PyProof.Rows L2 Ww
/-! ### errors: a class by its name, one value -/
/-- what a walk lets out, told by W -/
def RX (cl : Str → Option Addr) (W : WX) : RK := fun x dd σ H => ∃ C, cl x = some C ∧ W (.ref C) (some dd) σ H
section
variable {K : PySem.W.Frag} {R : RK} {pins σ : L2.St} {G H G' H' : Hp} {As Bs Cs T : List Addr} {Q : VK} {ρ : En} {X : Cx}
theorem call_leS {F : FF} {g : CF} {cl : Str → Option Addr} {E : XK} (σ : L2.St) (H : Hp) (Q : VK) (hE : ∀ c d H, R c d σ H → ∃ C, cl c = some C ∧ E (.ref C) (some d) H) (h : liftE K R (callF F g) σ H Q) : liftC K R g σ H (fun vs H1 => spF K cl F vs H1 Q E) := by
  obtain ⟨pins, G, ρ, As, s, k⟩ := h
  refine ⟨pins, G, ρ, As, s, ?_⟩
  refine Kont.bind (T := []) (Q := Q) s.nd (fun a z => nomatch z) k fun os ρ1 G1 H1 As1 vs Bs e1 nd1 r1 s1 k1 => ?_
  have nd1' : (Bs ++ As1).Nodup := by simpa using nd1
  have k1 : KontE K R pins σ G1 H1 ([] ++ (Bs ++ As1)) Q (match F (os.map AO.val) with
    | .ok o ss => .ok o (backF os ss ρ1)
    | .er c o ss => .er c o (backF os ss ρ1)
    | .stuck => .stuck) := k1
  refine ⟨G1, os.map AO.val, Bs, RepC.os r1, (List.nodup_append.mp nd1').1, s1.sub, ?_⟩
  have stay : ∀ {G' H' : Hp} {Ds As' : List Addr}, Ext G1 H1 Bs G' H' (Ds ++ As') → (Ds ++ As').Nodup → Sub G' H' → ∀ {ss : List Sl}, Slots K G' H' (vs.map some) ss As' → ∃ Cs, Ste K pins G' H' σ (backF os ss ρ1) Cs ∧ (Ds ++ Cs).Nodup ∧ Ext G1 H1 ([] ++ (Bs ++ As1)) G' H' (Ds ++ Cs) := by
    intro G' H' Ds As' e nd sub ss p
    have dj : ∀ a ∈ As1, a ∉ Bs := fun a ha hb => nd_disj nd1' a hb ha
    have s2 := s1.ext e dj sub
    have hA : ∀ a ∈ As1, H1 a ≠ none := fun a m => (s1.slots.there a m).1
    have out : ∀ a ∈ As1, a ∉ Ds ++ As' := fun a ha hb => by
      rcases e.own a hb with w | w
      · exact dj a ha w
      · exact hA a ha w
    have nd2 : (As' ++ As1).Nodup := List.nodup_append.mpr ⟨(List.nodup_append.mp nd).2.1, s1.nd, fun a ha b hb z => by subst z; exact out a hb (List.mem_append_right _ ha)⟩
    obtain ⟨Cs, w1, w2⟩ := Ste.back r1 s2 p nd2
    refine ⟨Cs, w1, List.nodup_append.mpr ⟨(List.nodup_append.mp nd).1, w1.nd, fun a ha b hb z => ?_⟩, ?_⟩
    · subst z
      rcases List.mem_append.mp (w2 a hb) with w | w
      · exact nd_disj nd a ha w
      · exact out a w (List.mem_append_left _ ha)
    · refine ((e.frame As1).perm (fun a => by simp only [List.nil_append, List.mem_append]; exact Or.comm) fun a ha => ?_)
      rcases List.mem_append.mp ha with w | w
      · exact List.mem_append_right _ (List.mem_append_left _ w)
      · rcases List.mem_append.mp (w2 a w) with w | w
        · exact List.mem_append_right _ (List.mem_append_right _ w)
        · exact List.mem_append_left _ w
  cases hF : F (os.map AO.val) with
  | ok o ss =>
    rw [hF] at k1
    intro G' H' v Ds As' e nd r sub p
    obtain ⟨Cs, w1, w2, w3⟩ := stay e nd sub p
    exact k1 G' H' Cs v Ds w3 w2 r w1
  | er c o ss =>
    rw [hF] at k1
    intro G' H' v Ds As' d e nd r sub p hd
    obtain ⟨Cs, w1, w2, w3⟩ := stay e nd sub p
    exact hE c d H' (k1 σ G' H' Cs v Ds d w3 w2 r w1 hd)
  | stuck =>
    rw [hF] at k1
    exact k1

theorem pf_callE {W : WX} {n : Nat} {f : Addr} {fd : FuncData} {ps : List Str} {F : FF} {g : CF} {cl : Str → Option Addr} {x : Str} {p pos : Pos} {e : Expr} {es : List Expr} (Fn : FnOk X.prog X.w X.K X.mg X.base (L2.CX X.prog X.w) n f fd ps (spF X.K cl F)) (hr : Room n X.A) (hg : Gl X x) (hm : X.mg x = some (.ref f)) (hk : PySem.W.keepIn X.K (.ref f) = true) (hb : Binds X.K fd ps [])
    (tk : Takes X W) (ha : PA X (e :: es) (liftC X.K (RX cl W) g)) (hdb : (x == ("__debug__" : Str)) = false := by decide) (he : starEach (e :: es) X.env = (false, eval e X.env) :: starEach es X.env := by rfl) (hpl : (backTo pos (starEach es X.env)).any (·.1) = false := by rfl) :
    PE X (.Call (.Name x p) (e :: es) [] pos) (liftE X.K (RX cl W) (callF F g)) := PE.weak (pe_callS Fn hr hg hm hk hb (E := WE W) (fun σ => passAt tk σ) ha hdb he hpl) fun σ H Q h => call_leS σ H Q (fun _ _ _ z => z) h
/-! the making of an error -/
def spInit (K : PySem.W.Frag) : Sp := fun vs H Q _ => ∃ (a C : Addr) (y : V), vs = [.ref a, y] ∧ OexC K C ∧ PySem.W.findIn K (.ref C) "value" = some none ∧ H a = some (exo a C none) ∧
  ∀ dx, H dx = none → dx ≠ a → Q .non (upd (upd H dx (exd dx [("value", y)])) a (exo a C (some dx)))
def raiseS (x : Str) (f : EF) : SF := fun ρ => (shE f ρ).bindS fun d ρ1 => .er x (.dat d) ρ1
/-- a class of errors -/
structure Er (K : PySem.W.Frag) (mg : Str → Option Value) (x : Str) (C fI : Addr) : Prop where
  g : mg x = some (.ref C)
  o : OexC K C
  v : PySem.W.findIn K (.ref C) "value" = some none
  i : PySem.W.findIn K (.ref C) "__init__" = some (some (.ref fI))
  t : PySem.W.typeIn K (.ref fI) = some (.type "function")
theorem upd_del {H : Hp} {a dx : Addr} {u v w o : HO} (ha : H a = none) (hn : dx ≠ a) : upd (del (upd (upd (upd H a u) dx v) a w) a) dx o = upd H dx o := by
  funext b
  by_cases h1 : b = dx
  · subst h1
    rw [upd_same, upd_same]
  · rw [upd_ne h1, upd_ne h1]
    by_cases h2 : b = a
    · subst h2
      rw [del_same, ha]
    · rw [del_ne h2, upd_ne h2, upd_ne h1, upd_ne h2]
theorem s_raise {W : WX} {cl : Str → Option Addr} {n : Nat} {x : Str} {C fI : Addr} {fd : FuncData} {ps : List Str} {f : EF} {e : Expr} {p pos pos2 : Pos} (T : Er X.K X.mg x C fI) (F1 : FnOk X.prog X.w X.K X.mg X.base CX0 n fI fd ps (spInit X.K)) (hr : Room (n + 1) X.A) (hb : Binds X.K fd ps []) (hc : X.calm = true) (hcl : cl x = some C) (hg : Gl X x)
    (tk : Takes X W) (h : PE X e (liftE X.K (RX cl W) f)) (hdb : (x == ("__debug__" : Str)) = false := by decide) (he : starEach (e :: []) X.env = (false, eval e X.env) :: starEach [] X.env := by rfl) (hpl : (backTo pos (starEach [] X.env)).any (·.1) = false := by rfl) :
    PS X (.Raise (some (.Call (.Name x p) [e] [] pos)) none pos2) (liftS X.K (RX cl W) (raiseS x f)) := by
  refine PS.weak (ps_raise hc tk (pmk_oex T.o T.i T.t F1 hr hb .nil pass0 hg T.g (pa_one h he) hdb he hpl)) fun D σ H ⟨pins, G, ρ, As, s, k⟩ => ?_
  refine shE_le (α := Nat) (rel2 := RepO X.K) σ H _ ⟨pins, G, ρ, As, s, ?_⟩
  refine Kont.bindS k fun d ρ1 G1 H1 As1 v Bs e1 nd1 r1 s1 k1 => ?_
  obtain ⟨rfl, dp⟩ := r1
  refine ⟨by show 1 ≤ 1000; decide, fun a ha => ⟨a, C, v, rfl, T.o, T.v, upd_same, fun dx hdx hne => ⟨rfl, dx, [("value", v)], upd_same, ?_, ?_, ?_⟩⟩⟩
  · rw [upd_ne hne, upd_same]
  · rw [upd_ne hne] at hdx
    exact hdx
  · rw [upd_ne hne] at hdx
    rw [upd_del ha hne]
    have nd1' : As1.Nodup := by simpa using nd1
    have sb : Sub G1 (upd H1 dx (.xd [("value", v)])) := fun b o q => by
      have q2 := s1.sub b o q
      rw [upd_ne (ne_of_none q2 hdx)]
      exact q2
    have ex : Ext G1 H1 ([] ++ As1) G1 (upd H1 dx (.xd [("value", v)])) ([] ++ As1) := ⟨Sub.refl G1, fun b o q _ => by rw [upd_ne (ne_of_none q hdx)]; exact q, fun b q _ _ => q, fun b q => .inl q⟩
    have k2 : ErOk X.K (RX cl W) pins G1 H1 ([] ++ As1) x (.dat d) ρ1 := k1
    have ex2 : Ext G1 H1 [] G1 (upd H1 dx (.xd [("value", v)])) [] := ⟨Sub.refl G1, fun b o q _ => by rw [upd_ne (ne_of_none q hdx)]; exact q, fun b q _ _ => q, fun b q => .inl q⟩
    obtain ⟨C', h1, h2⟩ := k2 σ G1 (upd H1 dx (.xd [("value", v)])) As1 v [] dx ex (by simpa using nd1') (.dat dp) (s1.ext ex2 (fun _ _ z => nomatch z) sb) upd_same
    cases (Option.some.inj (hcl.symm.trans h1) : C = C')
    exact h2
/-- __init__ of the errors -/
theorem init_ok {K : PySem.W.Frag} {H : Hp} {vs : List V} {Q : VK} {E : XK} (h : spInit K vs H Q E) :
    (tSeq (tDrop (tVeI K (tCons (tVar 0) (tCons (tVar 1) tNil)))) (tOst K "value" (tVar 0) (tVar 1))) { nx := fun _ H' => Q .non H', rt := Q } (L2.start ["self", "value"] vs) H := by
  obtain ⟨a, C, y, rfl, T, hv, ea, q⟩ := h
  exact ⟨.ref a, rfl, y, rfl, a, C, [y], rfl, (show 1 ≤ 1000 by decide), T, ea, y, rfl, .ref a, rfl, a, C, rfl, T, hv, .inl ⟨ea, fun dx hd hne => q dx hd hne⟩⟩
end
end Vs

namespace Vs
open PySem PySem.Spec PyProof.Rows L2 Ww
/-! ### try .. except -/
/-- which classes a clause takes, of those that the table names -/
def Mt (K : PySem.W.Frag) (cl : Str → Option Addr) (c : Value) (mt : Str → Option Bool) : Prop := ∀ x b, mt x = some b → ∃ C, cl x = some C ∧ PySem.W.exmOne K (.ref C) c = some b
/-- a slot emptied at a suite's end -/
def unI (i : Nat) : Out → Out
  | .nx ρ => .nx (ρ.set i .no)
  | .rt o ρ => .rt o ρ
  | .bk ρ => .bk (ρ.set i .no)
  | .ct ρ => .ct (ρ.set i .no)
  | .er _ _ _ => .stuck
  | .stuck => .stuck
def isNo : Option Sl → Bool
  | some .no => true
  | _ => false
theorem isNo_eq {x : Option Sl} (h : isNo x = true) : x = some .no := by
  unfold isNo at h
  split at h
  · rfl
  · cases h
/-- the clause's suite, behind the body's end -/
def catI (i : Nat) (mt : Str → Option Bool) (h : PyData → SF) : Out → Out
  | .er x (.dat d) ρ => match mt x with
    | some true => if isNo ρ[i]? = true then unI i (h d ρ) else .stuck
    | some false => .er x (.dat d) ρ
    | none => .stuck
  | .er _ _ _ => .stuck
  | r => r
theorem Slots.setNo {K : PySem.W.Frag} {G H : Hp} (x : Option V) : ∀ {σ : L2.St} {ρ : En} {As : List Addr} {i : Nat}, Slots K G H σ ρ As → ρ[i]? = some .no → Slots K G H (σ.set i x) ρ As
  | _, _, _, i, .nil, h => by simp at h
  | _, _, _, 0, .no r, _ => .no r
  | _, _, _, i + 1, .no r, h => .no (Slots.setNo x (i := i) r (by simpa using h))
  | _, _, _, 0, .lent r, h => by simp at h
  | _, _, _, i + 1, .lent r, h => .lent (Slots.setNo x (i := i) r (by simpa using h))
  | _, _, _, 0, .val q r, h => by simp at h
  | _, _, _, i + 1, .val q r, h => .val q (Slots.setNo x (i := i) r (by simpa using h))
  | _, _, _, 0, .bor q r, h => by simp at h
  | _, _, _, i + 1, .bor q r, h => .bor q (Slots.setNo x (i := i) r (by simpa using h))
section
variable {K : PySem.W.Frag} {R : RK} {pins σ : L2.St} {G H G' H' : Hp} {As Bs Cs T : List Addr} {Q : VK} {ρ : En} {X : Cx}
theorem Ste.setNo {i : Nat} (x : Option V) (s : Ste K pins G H σ ρ As) (h : ρ[i]? = some .no) : Ste K pins G H (σ.set i x) ρ As := by
  refine ⟨s.slots.setNo x h, s.nd, s.sub, by rw [List.length_set]; exact s.pin.1, fun j hj => ?_⟩
  by_cases e : i = j
  · subst e
    rcases hj with hj | ⟨o, hj⟩ <;> rw [h] at hj <;> cases hj
  · rw [List.getElem?_set_ne e]
    exact s.pin.2 j hj
theorem Ste.unset (i : Nat) (s : Ste K pins G H σ ρ As) : ∃ Cs, Ste K pins G H (σ.set i none) (ρ.set i .no) Cs ∧ ∀ a ∈ Cs, a ∈ As := by
  obtain ⟨Cs, h1, h2, h3⟩ := Slots.unset i s.slots s.nd
  refine ⟨Cs, ⟨h1, h3, s.sub, by rw [List.length_set]; exact s.pin.1, fun j hj => ?_⟩, h2⟩
  by_cases e : i = j
  · subst e
    by_cases hl : i < ρ.length
    · rw [List.getElem?_set_self hl] at hj
      rcases hj with hj | ⟨o, hj⟩ <;> cases hj
    · rw [List.getElem?_eq_none (by rw [List.length_set]; omega)] at hj
      rcases hj with hj | ⟨o, hj⟩ <;> cases hj
  · rw [List.getElem?_set_ne e] at hj ⊢
    exact s.pin.2 j hj
/-- in a suite: the error stands in slot i, its value in its dict -/
def liftH (K : PySem.W.Frag) (R : RK) (cl : Str → Option Addr) (i : Nat) (a : Addr) (cls : Value) (d : Option Addr) (h : PyData → SF) : TS := fun D σ H => ∃ pins G ρ As x C dd v dat, cl x = some C ∧ cls = .ref C ∧ d = some dd ∧ H dd = some (.xd [("value", v)]) ∧ σ[i]? = some (some (.ref a)) ∧ Dp K G v dat ∧ Ste K pins G H σ ρ As ∧ KontS K R pins G H As D (h dat ρ)
theorem s_tryAs {W : WX} {cl : Str → Option Addr} {mt : Str → Option Bool} {x n : Str} {c : Value} {i : Nat} {body suite : List Stmt} {b₀ : Stmt} {np pos pos' : Pos} {f : SF} {h : PyData → SF} (hs : X.stack = X.env :: X.outer) (hf : X.env.frame = some X.env.locals) (hN : X.N.Nodup) (hi : X.N[i]? = some n) (hln : X.env.kindOf n = some .local) (hc : Names X x c) (hm : Mt X.K cl c mt) (tk : Takes X W)
    (hb : ∀ (W' : WX) (pn : List (Addr × Obj)) (xe : Value → Shared → Prop), Takes (X.tr pn xe) W' → PassesOwn (model X.prog X.w) X.A X.env xe → PSs (X.tr pn xe) body (liftS X.K (RX cl W') f))
    (hsu : ∀ (a : Addr) (oe : Obj) (cls : Value) (d : Option Addr) (pn : List (Addr × Obj)), Zc cls d oe → (∃ vs, oe.data = .fields vs) → PSs (X.suite a ((a, oe) :: pn)) (b₀ :: suite) (liftH X.K (RX cl W) cl i a cls d h)) :
    PS X (.Try body [.ExceptHandler (some (.Name x np)) (some n) (b₀ :: suite) pos'] [] [] pos) (liftS X.K (RX cl W) (fun ρ => catI i mt h (f ρ))) := by
  refine PS.weak (ps_try_as hs hf hN hi hln hc tk (tb := fun W' => liftS X.K (RX cl W') f) (ts := fun a cls d => liftH X.K (RX cl W) cl i a cls d h) hb hsu) fun D σ H ⟨pins, G, ρ, As, s, k⟩ => ⟨pins, G, ρ, As, s, ?_⟩
  have k : KontS X.K (RX cl W) pins G H As D (catI i mt h (f ρ)) := k
  cases hfr : f ρ with
  | nx ρ1 => rw [hfr] at k; exact k
  | rt o ρ1 => rw [hfr] at k; exact k
  | bk ρ1 => rw [hfr] at k; exact k
  | ct ρ1 => rw [hfr] at k; exact k
  | stuck => rw [hfr] at k; exact k
  | er y o ρ1 =>
    rw [hfr] at k
    cases o with
    | ls ds => exact k.elim
    | dk kvs => exact k.elim
    | tp es => exact k.elim
    | dat d =>
      intro σ' G' H' As' v Bs dd e nd r st hd
      cases r with
      | dat dp =>
      cases hmt : mt y with
      | none =>
        have k : KontS X.K (RX cl W) pins G H As D .stuck := by
          have : catI i mt h (.er y (.dat d) ρ1) = .stuck := by unfold catI; simp [hmt]
          rw [← this]; exact k
        exact k.elim
      | some b =>
        obtain ⟨C, h1, h2⟩ := hm y b hmt
        refine ⟨C, h1, b, h2, fun hb => ?_, fun hb => ?_⟩
        · subst hb
          intro a ha
          by_cases hno : isNo ρ1[i]? = true
          · have k : KontS X.K (RX cl W) pins G H As D (unI i (h d ρ1)) := by
              have : catI i mt h (.er y (.dat d) ρ1) = unI i (h d ρ1) := by unfold catI; simp [hmt, hno]
              rw [← this]; exact k
            have hno' := isNo_eq hno
            have hlen : i < σ'.length := by
              rw [st.slots.len]
              exact (List.getElem?_eq_some_iff.mp hno').1
            have k := KontS.re k e
            have st2 := st.setNo (some (.ref a)) hno'
            refine ⟨pins, G', ρ1, As', y, C, dd, v, d, h1, rfl, rfl, hd, List.getElem?_set_self hlen, dp, st2, ?_⟩
            cases hh : h d ρ1 with
            | nx ρ2 =>
              rw [hh] at k
              intro σ2 G2 H2 As2 e2 s2
              obtain ⟨Cs, w1, w2⟩ := s2.unset i
              exact k _ G2 H2 Cs (by simpa using e2.less w2) w1
            | rt o ρ2 =>
              rw [hh] at k
              have k2 : KontS X.K (RX cl W) pins G' H' As' D (.rt o ρ2) := by simpa [unI] using k
              exact fun a b c d e f => k2 a b c d e f
            | bk ρ2 =>
              rw [hh] at k
              intro σ2 G2 H2 As2 e2 s2
              obtain ⟨Cs, w1, w2⟩ := s2.unset i
              exact k _ G2 H2 Cs (by simpa using e2.less w2) w1
            | ct ρ2 =>
              rw [hh] at k
              intro σ2 G2 H2 As2 e2 s2
              obtain ⟨Cs, w1, w2⟩ := s2.unset i
              exact k _ G2 H2 Cs (by simpa using e2.less w2) w1
            | er z o ρ2 => rw [hh] at k; exact k.elim
            | stuck => rw [hh] at k; exact k.elim
          · have k : KontS X.K (RX cl W) pins G H As D .stuck := by
              have : catI i mt h (.er y (.dat d) ρ1) = .stuck := by unfold catI; simp [hmt, hno]
              rw [← this]; exact k
            exact k.elim
        · subst hb
          have k : KontS X.K (RX cl W) pins G H As D (.er y (.dat d) ρ1) := by
            have : catI i mt h (.er y (.dat d) ρ1) = .er y (.dat d) ρ1 := by unfold catI; simp [hmt]
            rw [← this]; exact k
          obtain ⟨C', h3, h4⟩ := (show ErOk X.K (RX cl W) pins G H As y (.dat d) ρ1 from k) σ' G' H' As' v [] dd (by simpa using e) (by simpa using nd) (.dat dp) st hd
          cases (Option.some.inj (h1.symm.trans h3) : C = C')
          exact h4
/-- x = e.value, the suite's first row -/
theorem s_hval {a : Addr} {oe : Obj} {cls : Value} {d : Option Addr} {pn : List (Addr × Obj)} {cl : Str → Option Addr} {i j : Nat} {y : Str} {e : Expr} {p1 p2 pos : Pos} {rest : List Stmt} {g : SF} (hall : ∀ x C, cl x = some C → XfC X.K C ∧ PySem.W.findIn X.K (.ref C) "value" = some none)
    (hz : Zc cls d oe) (hf : ∃ vs, oe.data = .fields vs) (he : PE (X.suite a ((a, oe) :: pn)) e (tVar i)) (hN : X.N.Nodup) (hj : X.N[j]? = some y) (hl : Loc X.env.scope y) (hr : PSs (X.suite a ((a, oe) :: pn)) rest (liftS X.K R g))
    (hb : attributeBase e "value" X.env (eval e X.env) = eval e X.env := by rfl) (hsw : swapsWith (.Attribute e "value" p2) (some (.Name y p1)) pos.line X.env = pure false := by rfl) (hfn : X.fn y = true ∨ X.env.scope.names.lookup y = some .local := by first | exact .inl rfl | exact .inr rfl | assumption) :
    PSs (X.suite a ((a, oe) :: pn)) (.Assign [.Name y p1] (.Attribute e "value" p2) pos :: rest) (liftH X.K R cl i a cls d (fun dat => seqS (setS j (cF dat)) g)) := by
  have hE : PE (X.suite a ((a, oe) :: pn)) (.Attribute e "value" p2) (fun σ H Q => ∃ x C, cl x = some C ∧ tXf a cls d C "value" (tVar i) σ H Q) := by
    refine ⟨fun pins s σ H Q I ⟨x, C, hc, w⟩ => ?_⟩
    obtain ⟨t1, t2⟩ := hall x C hc
    exact (pe_xf t1 t2 hz hf he hb).run pins s σ H Q I w
  refine PSs.weak (pss_cons (ps_set (X := X.suite a ((a, oe) :: pn)) (i := j) hN hj hl hE hsw hfn) hr) fun D σ H w => ?_
  obtain ⟨pins, G, ρ, As, x, C, dd, v, dat, hcl, hcls, hd, hdd, hσ, dp, st, k⟩ := w
  refine ⟨x, C, hcl, .ref a, hσ, rfl, hcls, dd, [("value", v)], v, hd, hdd, by simp [List.lookup], ?_⟩
  have k : KontS X.K R pins G H As D ((setS j (cF dat) ρ).seq g) := k
  cases h2 : stO j (.dat dat) ρ with
  | none =>
    have e : setS j (cF dat) ρ = .stuck := by rw [x_setS, x_cF, x_bindS_ok, h2]; rfl
    rw [e] at k
    exact k.elim
  | some ρ2 =>
    have e : setS j (cF dat) ρ = .nx ρ2 := by rw [x_setS, x_cF, x_bindS_ok, h2]; rfl
    rw [e] at k
    obtain ⟨Cs, w1, w2⟩ := st.put (.dat dp) (by simpa using st.nd) h2
    exact ⟨pins, G, ρ2, Cs, w1, KontS.re (show KontS X.K R pins G H As D (g ρ2) from k) (Ext.refl.less fun b z => by simpa using w2 b z)⟩
/-- its only row -/
theorem s_hval1 {a : Addr} {oe : Obj} {cls : Value} {d : Option Addr} {pn : List (Addr × Obj)} {cl : Str → Option Addr} {i j : Nat} {y : Str} {e : Expr} {p1 p2 pos : Pos} (hall : ∀ x C, cl x = some C → XfC X.K C ∧ PySem.W.findIn X.K (.ref C) "value" = some none)
    (hz : Zc cls d oe) (hf : ∃ vs, oe.data = .fields vs) (he : PE (X.suite a ((a, oe) :: pn)) e (tVar i)) (hN : X.N.Nodup) (hj : X.N[j]? = some y) (hl : Loc X.env.scope y)
    (hb : attributeBase e "value" X.env (eval e X.env) = eval e X.env := by rfl) (hsw : swapsWith (.Attribute e "value" p2) (some (.Name y p1)) pos.line X.env = pure false := by rfl) (hfn : X.fn y = true ∨ X.env.scope.names.lookup y = some .local := by first | exact .inl rfl | exact .inr rfl | assumption) :
    PSs (X.suite a ((a, oe) :: pn)) [.Assign [.Name y p1] (.Attribute e "value" p2) pos] (liftH X.K R cl i a cls d (fun dat => seqS (setS j (cF dat)) nxS)) := s_hval hall hz hf he hN hj hl ss_nil hb hsw hfn
end
end Vs

namespace Vs
open PySem PySem.Spec PyProof.Rows L2 Ww
section
variable {K : PySem.W.Frag} {R : RK} {pins σ : L2.St} {G H G' H' : Hp} {As Bs Cs T : List Addr} {Q : VK} {ρ : En} {X : Cx}
theorem pe_callQS {W : WX} {k : Nat} {f : Addr} {fd : FuncData} {ps ks : List Str} {sp : Sp} {x : Str} {p pos : Pos} {kws : List Keyword} {tk : TA} {g : List Value → List Value} {gV : List V → List V} (F : FnOk X.prog X.w X.K X.mg X.base (L2.CX X.prog X.w) k f fd ps sp) (hr : Room k X.A) (hg : Gl X x) (hm : X.mg x = some (.ref f)) (hk : PySem.W.keepIn X.K (.ref f) = true) (hb : KB0 X.K fd ps ks g gV) (tkx : Takes X W)
    (hkw : PK X kws tk) (hall : (backToKw pos (keywordEach kws X.env)).all (·.1.isSome) = true := by rfl) (hks : (backToKw pos (keywordEach kws X.env)).filterMap (·.1) = ks := by rfl)
    (hdb : (x == ("__debug__" : Str)) = false := by decide)
    (hpl : ((backTo pos (starEach [] X.env)).any (·.1) || (backToKw pos (keywordEach kws X.env)).any (·.1.isNone)) = false := by rfl) :
    PE X (.Call (.Name x p) [] kws pos) (fun σ H Q => tk σ H fun zs H2 => zs.length = ks.length ∧ sp (gV zs) H2 Q (WE W σ)) := by
  refine ⟨fun pins s σ H Q I h => ?_⟩
  refine wpAny_Call_Name_kw (ld_glob I hg hm ?_ hdb)
  refine PySem.W.callWith_KW0 (h₀ := X.base) I.ok.mod.kin hk hall (thn (hkw.run pos pins s σ H _ I h) fun ws s2 ⟨zs, H2, I2, rz, hl, q2⟩ => ⟨I2.kIn, ?_⟩) hpl
  rw [hks]
  refine wpAny_call (codeAny_mono (F.run X.A X.stack s2 H2 ⟨[], ks.zip ws⟩ (g ws) (gV zs) Q (WE W σ) hr I2.env0 (hb.to s2 ws (rz.length.symm.trans hl)) (hb.rel rz) q2) fun r s' hq => ?_)
  match r, hq with
  | .error e, hq => exact passAt tkx σ pins H2 s2 e s' I2 hq
  | .ok (.ret u), hq => exact I2.after hq
  | .ok .next, hq => exact hq.elim
  | .ok .brk, hq => exact hq.elim
  | .ok .cont, hq => exact hq.elim
theorem pf_callKE {W : WX} {n : Nat} {f : Addr} {fd : FuncData} {ps ks : List Str} {F : FF} {g : CF} {cl : Str → Option Addr} {x : Str} {p pos : Pos} {kws : List Keyword} (Fn : FnOk X.prog X.w X.K X.mg X.base (L2.CX X.prog X.w) n f fd ps (spF X.K cl F)) (hr : Room n X.A) (hg : Gl X x) (hm : X.mg x = some (.ref f)) (hk : PySem.W.keepIn X.K (.ref f) = true) (hb : KB0 X.K fd ps ks (fun ws => ws) (fun zs => zs))
    (tk : Takes X W) (hkw : PK X kws (liftC X.K (RX cl W) g)) (hw : Wants F ks.length) (hall : (backToKw pos (keywordEach kws X.env)).all (·.1.isSome) = true := by rfl) (hks : (backToKw pos (keywordEach kws X.env)).filterMap (·.1) = ks := by rfl)
    (hdb : (x == ("__debug__" : Str)) = false := by decide) (hpl : ((backTo pos (starEach [] X.env)).any (·.1) || (backToKw pos (keywordEach kws X.env)).any (·.1.isNone)) = false := by rfl) :
    PE X (.Call (.Name x p) [] kws pos) (liftE X.K (RX cl W) (callF F g)) := by
  refine PE.weak (pe_callQS Fn hr hg hm hk hb tk hkw hall hks hdb hpl) fun σ H Q h => ?_
  have q : liftC X.K (RX cl W) g σ H fun vs H1 => spF X.K cl F vs H1 Q (WE W σ) := call_leS σ H Q (fun _ _ _ z => z) h
  obtain ⟨pins, G, ρ, As, s, k⟩ := q
  refine ⟨pins, G, ρ, As, s, ?_⟩
  cases hgρ : g ρ with
  | ok os ρ1 =>
    rw [hgρ] at k
    intro G' H' As' v Bs e nd r st
    have z : spF X.K cl F v H' Q (WE W σ) := k G' H' As' v Bs e nd r st
    exact ⟨spF_wants hw z, z⟩
  | er c o ρ1 => rw [hgρ] at k; exact k
  | stuck => rw [hgρ] at k; exact k
theorem pf_callKRE {W : WX} {n : Nat} {f : Addr} {fd : FuncData} {ps ks : List Str} {F : FF} {g : CF} {cl : Str → Option Addr} {x : Str} {p pos : Pos} {kws : List Keyword} (Fn : FnOk X.prog X.w X.K X.mg X.base (L2.CX X.prog X.w) n f fd ps (spF X.K cl F)) (hr : Room n X.A) (hg : Gl X x) (hm : X.mg x = some (.ref f)) (hk : PySem.W.keepIn X.K (.ref f) = true) (hb : KB0 X.K fd ps ks (fun ws => ws.reverse) (fun zs => zs.reverse))
    (tk : Takes X W) (hkw : PK X kws (liftC X.K (RX cl W) g)) (hw : Wants F ks.length) (hall : (backToKw pos (keywordEach kws X.env)).all (·.1.isSome) = true := by rfl) (hks : (backToKw pos (keywordEach kws X.env)).filterMap (·.1) = ks := by rfl)
    (hdb : (x == ("__debug__" : Str)) = false := by decide) (hpl : ((backTo pos (starEach [] X.env)).any (·.1) || (backToKw pos (keywordEach kws X.env)).any (·.1.isNone)) = false := by rfl) :
    PE X (.Call (.Name x p) [] kws pos) (liftE X.K (RX cl W) (callF F (revC g))) := by
  refine PE.weak (pe_callQS Fn hr hg hm hk hb tk hkw hall hks hdb hpl) fun σ H Q h => ?_
  have q0 : liftC X.K (RX cl W) (revC g) σ H fun vs H1 => spF X.K cl F vs H1 Q (WE W σ) := call_leS σ H Q (fun _ _ _ z => z) h
  have q := revC_le σ H _ q0
  obtain ⟨pins, G, ρ, As, s, k⟩ := q
  refine ⟨pins, G, ρ, As, s, ?_⟩
  cases hgρ : g ρ with
  | ok os ρ1 =>
    rw [hgρ] at k
    intro G' H' As' v Bs e nd r st
    have z : spF X.K cl F v.reverse H' Q (WE W σ) := k G' H' As' v Bs e nd r st
    exact ⟨by have w2 := spF_wants hw z; rw [List.length_reverse] at w2; exact w2, z⟩
  | er c o ρ1 => rw [hgρ] at k; exact k
  | stuck => rw [hgρ] at k; exact k
/-- a def that may raise -/
theorem defE {vs : List V} {np n : Nat} {body : SF} {cl : Str → Option Addr} {E : XK} {N : List Str} (hN : N.length = n) (h : spF K cl (defF np n body) vs H Q E) (hnp : np ≤ n) :
    liftS K (RX cl (fun cls d _ H => E cls d H)) body { nx := fun _ H' => Q .non H', rt := Q } (L2.start N vs) H := def_ok hN h hnp fun _ _ _ _ z => z
/-! abs -/
def absO : O → Option O
  | .dat (.int i) => some (.dat (.int (if i < 0 then -i else i)))
  | _ => none
theorem prim_abs : Prim1 K (fun x H Q => ∃ i, [x] = [V.int i] ∧ Q (.int (if i < 0 then -i else i)) H) absO := by
  intro G H x a o B Q s ra h k
  unfold absO at h
  split at h
  · cases Option.some.inj h
    exact ⟨_, by rw [dat_int ra], Grow.dat s (.int _) k⟩
  · cases h
@[simp] theorem x_abs (i : Int) : absO (.dat (.int i)) = some (.dat (.int (if i < 0 then -i else i))) := (rfl)
/-! rewriting -/
@[simp] theorem x_raiseS (x : Str) (f : EF) (ρ : En) : raiseS x f ρ = (shE f ρ).bindS fun d ρ1 => .er x (.dat d) ρ1 := (rfl)
def tryS (i : Nat) (mt : Str → Option Bool) (f : SF) (h : PyData → SF) : SF := fun ρ => catI i mt h (f ρ)
@[simp] theorem x_tryS (i : Nat) (mt : Str → Option Bool) (f : SF) (h : PyData → SF) (ρ : En) : tryS i mt f h ρ = catI i mt h (f ρ) := (rfl)
@[simp] theorem x_cat_nx (i : Nat) (mt : Str → Option Bool) (h : PyData → SF) (ρ : En) : catI i mt h (.nx ρ) = .nx ρ := (rfl)
@[simp] theorem x_cat_rt (i : Nat) (mt : Str → Option Bool) (h : PyData → SF) (o : O) (ρ : En) : catI i mt h (.rt o ρ) = .rt o ρ := (rfl)
@[simp] theorem x_cat_bk (i : Nat) (mt : Str → Option Bool) (h : PyData → SF) (ρ : En) : catI i mt h (.bk ρ) = .bk ρ := (rfl)
@[simp] theorem x_cat_ct (i : Nat) (mt : Str → Option Bool) (h : PyData → SF) (ρ : En) : catI i mt h (.ct ρ) = .ct ρ := (rfl)
theorem x_cat_yes {i : Nat} {mt : Str → Option Bool} {h : PyData → SF} {x : Str} {d : PyData} {ρ : En} (hm : mt x = some true) (hn : ρ[i]? = some .no) : catI i mt h (.er x (.dat d) ρ) = unI i (h d ρ) := by
  unfold catI
  simp [hm, hn, isNo]
theorem x_cat_no {i : Nat} {mt : Str → Option Bool} {h : PyData → SF} {x : Str} {d : PyData} {ρ : En} (hm : mt x = some false) : catI i mt h (.er x (.dat d) ρ) = .er x (.dat d) ρ := by
  unfold catI
  simp [hm]
@[simp] theorem x_un_nx (i : Nat) (ρ : En) : unI i (.nx ρ) = .nx (ρ.set i .no) := (rfl)
@[simp] theorem x_un_rt (i : Nat) (o : O) (ρ : En) : unI i (.rt o ρ) = .rt o ρ := (rfl)
end
/-- a table of classes -/
def clT (t : List (Str × Addr)) (x : Str) : Option Addr := t.lookup x
def mtT (t : List (Str × Bool)) (x : Str) : Option Bool := t.lookup x
theorem mt_nil {K : PySem.W.Frag} {c : Value} : Mt K (clT []) c (mtT []) := fun _ _ h => nomatch h
theorem mt_cons {K : PySem.W.Frag} {c : Value} {y : Str} {C : Addr} {b : Bool} {t : List (Str × Addr)} {u : List (Str × Bool)} (h : PySem.W.exmOne K (.ref C) c = some b) (r : Mt K (clT t) c (mtT u)) : Mt K (clT ((y, C) :: t)) c (mtT ((y, b) :: u)) := by
  intro x b' hx
  unfold mtT at hx
  unfold clT
  rw [List.lookup_cons] at hx ⊢
  cases e : (x == y) with
  | true =>
    rw [e] at hx
    cases Option.some.inj (show some b = some b' from hx)
    exact ⟨C, rfl, h⟩
  | false =>
    rw [e] at hx
    exact r x b' hx
theorem lookup_mem2 {t : List (Str × Addr)} {x : Str} {C : Addr} (h : t.lookup x = some C) : (x, C) ∈ t := PySem.mem_of_lookup h
theorem hall_of {K : PySem.W.Frag} {t : List (Str × Addr)} (h : ∀ p ∈ t, XfC K p.2 ∧ PySem.W.findIn K (.ref p.2) "value" = some none) : ∀ x C, clT t x = some C → XfC K C ∧ PySem.W.findIn K (.ref C) "value" = some none := fun x C e => h (x, C) (lookup_mem2 e)
theorem clT_at {t : List (Str × Addr)} {y : Str} {C : Addr} : clT ((y, C) :: t) y = some C := by unfold clT; rw [List.lookup_cons, beq_self_eq_true]
theorem clT_on {t : List (Str × Addr)} {x y : Str} {C D : Addr} (h : (x == y) = false) (r : clT t x = some D) : clT ((y, C) :: t) x = some D := by
  unfold clT at r ⊢
  rw [List.lookup_cons, h]
  exact r
theorem exm_of {K : PySem.W.Frag} {S C : Addr} {b : Bool} (h1 : PySem.W.subIn K (.ref C) (.type "BaseException") = some true) (h2 : PySem.W.isClsIn K C = true) (h3 : PySem.W.typeIn K (.ref C) = some (.type "type")) (h4 : PySem.W.subIn K (.ref S) (.ref C) = some b) :
    PySem.W.exmOne K (.ref S) (.ref C) = some b := by
  have e1 : (PySem.W.subIn K (.ref C) (.type "BaseException") == some true) = true := by rw [h1] <;> rfl
  have e2 : ((PySem.W.clsIn K C).isSome && PySem.W.typeIn K (.ref C) == some (.type "type")) = true := by
    have h2' : (PySem.W.clsIn K C).isSome = true := h2
    rw [h2', h3] <;> rfl
  show (if (PySem.W.subIn K (.ref C) (.type "BaseException") == some true) = true then (if ((PySem.W.clsIn K C).isSome && PySem.W.typeIn K (.ref C) == some (.type "type")) = true then PySem.W.subIn K (.ref S) (.ref C) else none) else none) = some b
  rw [if_pos e1, if_pos e2]
  exact h4
end Vs

namespace Vs
open PySem PySem.Spec PyProof.Rows L2 Ww
/-! ### a test that is asked of all as data: what is one's own stays one's own -/
def frO (o : O) : Sl := match o.dv with
  | some d => .val (.dat d)
  | none => .no
def frS : Sl → Sl
  | .val o => frO o
  | .bor o => frO o
  | _ => .no
def frz (ρ : En) : En := ρ.map frS
def frT (f : TF) : TF := fun ρ => match f (frz ρ) with
  | .ok b _ => .ok b ρ
  | _ => .stuck
section
variable {K : PySem.W.Frag} {R : RK} {pins σ : L2.St} {G H G' H' : Hp} {As Bs Cs T : List Addr} {Q : VK} {ρ : En} {X : Cx}
theorem frO_gap (o : O) : frO o = .no ∨ ∃ d, frO o = .val (.dat d) := by
  unfold frO
  cases o.dv with
  | none => exact .inl rfl
  | some d => exact .inr ⟨d, rfl⟩
theorem frS_gap (s : Sl) : frS s = .no ∨ ∃ d, frS s = .val (.dat d) := by
  cases s with
  | no => exact .inl rfl
  | lent => exact .inl rfl
  | val o => exact frO_gap o
  | bor o => exact frO_gap o
theorem RepO.frozen {v : V} {o : O} {σ : L2.St} {ρ : En} {B As : List Addr} (r : RepO K G H v o B) (ih : As.Nodup → Sub G H → ∃ G', Ext G H As G' H [] ∧ Sub G' H ∧ Slots K G' H σ (frz ρ) []) (nd : (B ++ As).Nodup) (s : Sub G H) :
    ∃ G', Ext G H (B ++ As) G' H [] ∧ Sub G' H ∧ Slots K G' H (some v :: σ) (frO o :: frz ρ) [] := by
  obtain ⟨n1, n2, n3⟩ := List.nodup_append.mp nd
  obtain ⟨G2, e2, s2, p2⟩ := ih n2 s
  have r' := r.ext e2 fun a ha hb => n3 a ha a hb rfl
  unfold frO
  split
  · rename_i d hd
    obtain ⟨G3, e3, s3, d3⟩ := r'.share n1 s2 hd
    refine ⟨G3, (e2.frame B).trans (e3.perm (fun a => by simp) fun a z => nomatch z), s3, ?_⟩
    exact .val (B := []) (As := []) (.dat d3) (p2.ext e3 fun a z => nomatch z)
  · exact ⟨G2, ((e2.frame B).less fun a z => nomatch z), s2, .no p2⟩
theorem Slots.freeze (r : Slots K G H σ ρ As) : As.Nodup → Sub G H → ∃ G', Ext G H As G' H [] ∧ Sub G' H ∧ Slots K G' H σ (frz ρ) [] := by
  induction r with
  | nil => exact fun _ s => ⟨G, Ext.refl, s, .nil⟩
  | no _ ih =>
    intro nd s
    obtain ⟨G2, e2, s2, p2⟩ := ih nd s
    exact ⟨G2, e2, s2, .no p2⟩
  | lent _ ih =>
    intro nd s
    obtain ⟨G2, e2, s2, p2⟩ := ih nd s
    exact ⟨G2, e2, s2, .no p2⟩
  | val q _ ih => exact fun nd s => q.frozen ih nd s
  | bor q _ ih => exact fun nd s => q.frozen ih nd s
theorem frT_ok {e : Expr} {f : TF} (h : PT X e (liftT X.K R f)) : PT X e (liftT X.K R (frT f)) := by
  refine PT.weak h fun σ H Q ⟨pins, G, ρ, As, s, k⟩ => ?_
  unfold frT at k
  split at k
  · rename_i b ρ' hf
    obtain ⟨G1, e1, s1, sl⟩ := s.slots.freeze s.nd s.sub
    refine ⟨pins, G1, frz ρ, [], ⟨sl, .nil, s1, s.pin.1, fun i hi => ?_⟩, ?_⟩
    · have hm : (frz ρ)[i]? = (ρ[i]?).map frS := by unfold frz; rw [List.getElem?_map]
      exfalso
      cases hr : ρ[i]? with
      | none =>
        rw [hr] at hm
        rcases hi with z | ⟨o, z⟩ <;> rw [hm] at z <;> cases z
      | some x =>
        rw [hr] at hm
        have hm : (frz ρ)[i]? = some (frS x) := hm
        rcases frS_gap x with z | ⟨d, z⟩
        · rw [z] at hm
          rcases hi with y | ⟨o, y⟩ <;> rw [hm] at y <;> cases y
        · rw [z] at hm
          rcases hi with y | ⟨o, y⟩ <;> rw [hm] at y <;> cases y
    · rw [hf]
      intro G' H' As' v Bs e nd r st
      obtain ⟨rfl, rfl⟩ := r
      have kp : ∀ a o, H a = some o → H' a = some o := fun a o z => e.keep a o z fun y => nomatch y
      have sb : Sub G H' := fun a o z => kp a o (s.sub a o z)
      have st' : Ste X.K pins G H' σ ρ As := s.ext (As := []) (Cs := []) ⟨Sub.refl G, fun a o z _ => kp a o z, fun a z _ _ => z, fun a z => nomatch z⟩ (fun a _ z => nomatch z) sb
      exact k G H' As v [] ⟨Sub.refl G, fun a o z _ => kp a o z, fun a z _ _ => z, fun a z => .inl z⟩ s.nd ⟨rfl, rfl⟩ st'
  · exact k.elim

/-! ### a tuple of one's own -/
def elO : O → Option El
  | .dat d => some (.d d)
  | .ls xs => some (.l xs)
  | _ => none
def elsO : List O → Option (List El)
  | [] => some []
  | o :: os => match elO o, elsO os with
    | some e, some es => some (e :: es)
    | _, _ => none
def tpF (g : AF) : EF := fun ρ => (g ρ).bind fun os ρ1 => match elsO os with
  | some es => if es.length ≤ sizeLine then .ok (.tp es) ρ1 else .stuck
  | none => .stuck
theorem RepOs.els {vs : List V} {os : List O} {Bs : List Addr} (r : RepOs K G H vs os Bs) : ∀ {es : List El}, elsO os = some es → RepEls K G H vs es Bs := by
  induction r with
  | nil =>
    intro es h
    cases (Option.some.inj h : [] = es)
    exact .nil
  | cons r _ ih =>
    intro es h
    unfold elsO at h
    split at h
    · rename_i e es' h1 h2
      cases (Option.some.inj h : _ = es)
      cases r with
      | dat q =>
        cases (Option.some.inj h1 : _ = e)
        exact .d q (ih h2)
      | ls g1 g2 g3 =>
        cases (Option.some.inj h1 : _ = e)
        exact .l g1 g2 g3 (ih h2)
      | dk _ _ _ => cases h1
      | tp _ _ _ => cases h1
    · cases h
theorem RepEls.len {vs : List V} {es : List El} {Bs : List Addr} (r : RepEls K G H vs es Bs) : vs.length = es.length := by
  induction r with
  | nil => rfl
  | d _ _ ih => simp [ih]
  | l _ _ _ _ ih => simp [ih]
theorem pf_tupO {es : List Expr} {g : AF} {x1 pos} (h : PA X es (liftA X.K R g)) : PE X (.Tuple es x1 pos) (liftE X.K R (tpF g)) := by
  refine PE.weak (pe_tup h) fun σ H Q ⟨pins, G, ρ, As, s, k⟩ => ⟨pins, G, ρ, As, s, ?_⟩
  refine Kont.bind (T := []) (Q := Q) s.nd (fun a z => nomatch z) k fun os ρ1 G1 H1 As1 vs Bs e1 nd1 r1 s1 k1 => ?_
  split at k1
  · rename_i ds hd
    split at k1
    · rename_i hz
      have nd1' : (Bs ++ As1).Nodup := by simpa using nd1
      have re := RepOs.els r1 hd
      refine ⟨by rw [re.len]; exact hz, fun p np => ?_⟩
      have k2 : KontE X.K R pins σ G1 H1 (Bs ++ As1) Q (.ok (.tp ds) ρ1) := by simpa using k1
      have kp : ∀ a o, H1 a = some o → (upd H1 p (.tup vs)) a = some o := fun a o z => by rw [upd_ne (ne_of_none z np)]; exact z
      have sb : Sub G1 (upd H1 p (.tup vs)) := fun a o z => kp a o (s1.sub a o z)
      have hB : ∀ a ∈ Bs ++ As1, H1 a ≠ none := fun a z => by
        rcases List.mem_append.mp z with w | w
        · exact (re.there a w).1
        · exact (s1.slots.there a w).1
      have e3 : Ext G1 H1 (Bs ++ As1) G1 (upd H1 p (.tup vs)) ((p :: Bs) ++ As1) := ⟨Sub.refl _, fun a o z _ => kp a o z, fun a z _ _ => z, fun a z => by
        rcases List.mem_cons.mp z with w | w
        · exact .inr (by rw [w]; exact np)
        · exact .inl w⟩
      have e4 : Ext G1 H1 [] G1 (upd H1 p (.tup vs)) [] := ⟨Sub.refl _, fun a o z _ => kp a o z, fun a z _ _ => z, fun a z => nomatch z⟩
      exact k2 G1 _ As1 (.ref p) (p :: Bs) e3 (List.nodup_cons.mpr ⟨fun z => hB p z np, nd1'⟩)
        (.tp (s1.sub.free np) upd_same (re.stay (Sub.refl _) (fun a _ u z => kp a u z) fun a _ z _ => z)) (s1.ext e4 (fun a _ z => nomatch z) sb)
    · exact k1.elim
  · exact k1.elim

/-! ### a list in such a tuple is changed -/
theorem RepEls.mut {vs : List V} {es : List El} {Bs : List Addr} (r : RepEls K G H vs es Bs) : ∀ {c : Nat} {xs : List PyData}, Bs.Nodup → es[c]? = some (.l xs) → ∃ a, vs[c]? = some (.ref a) ∧ a ∈ Bs ∧ RepO K G H (.ref a) (.ls xs) [a] ∧
    ∀ u ys, RepO K G (upd H a u) (.ref a) (.ls ys) [a] → RepEls K G (upd H a u) vs (es.set c (.l ys)) Bs := by
  induction r with
  | nil =>
    intro c xs _ h
    cases h
  | @d v x vs es Bs q r ih =>
    intro c xs nd h
    cases c with
    | zero => cases (Option.some.inj h)
    | succ c =>
      obtain ⟨a, h1, h2, h3, h4⟩ := ih nd h
      exact ⟨a, h1, h2, h3, fun u ys z => .d q (h4 u ys z)⟩
  | @l b us xs' vs es Bs g1 g2 g3 r ih =>
    intro c xs nd h
    obtain ⟨n1, n2⟩ := List.nodup_cons.mp nd
    cases c with
    | zero =>
      cases (Option.some.inj h)
      refine ⟨b, rfl, List.mem_cons_self, .ls g1 g2 g3, fun u ys z => ?_⟩
      cases z with
      | ls w1 w2 w3 =>
        exact .l w1 w2 w3 (r.stay (Sub.refl _) (fun a ha o z => by rw [upd_ne fun y => n1 (by rw [← y]; exact ha)]; exact z) fun a _ z _ => z)
    | succ c =>
      obtain ⟨a, h1, h2, h3, h4⟩ := ih n2 h
      refine ⟨a, h1, List.mem_cons_of_mem _ h2, h3, fun u ys z => .l g1 ?_ g3 (h4 u ys z)⟩
      rw [upd_ne fun y => n1 (by rw [y]; exact h2)]
      exact g2
theorem Ste.mutTp {i c : Nat} {es : List El} {xs : List PyData} (s : Ste K pins G H σ ρ As) (h : getS ρ i = some (.tp es)) (hc : es[c]? = some (.l xs)) : ∃ t vs a, σ[i]? = some (some (.ref t)) ∧ H t = some (.tup vs) ∧ vs[c]? = some (.ref a) ∧ RepO K G H (.ref a) (.ls xs) [a] ∧
    ∀ u ys, RepO K G (upd H a u) (.ref a) (.ls ys) [a] → ∃ Cs, Ste K pins G (upd H a u) σ (updS i (.tp (es.set c (.l ys))) ρ) Cs ∧ Ext G H As G (upd H a u) Cs := by
  obtain ⟨v, B, Cs, h1, h2, h3, h4, h5⟩ := Slots.out (y := .no) trivial s.slots h
  have nd := h4 s.nd
  cases h2 with
  | @tp t vs _ Bs g1 g2 g3 =>
    obtain ⟨n1, n2⟩ := List.nodup_cons.mp (List.nodup_append.mp nd).1
    obtain ⟨a, q1, q2, q3, q4⟩ := g3.mut n2 hc
    refine ⟨t, vs, a, h1, g2, q1, q3, fun u ys z => ?_⟩
    have ga : G a = none := (q3.there a List.mem_cons_self).2
    have na : a ∉ Cs := fun z => nd_disj nd a (List.mem_cons_of_mem _ q2) z
    have nt : t ≠ a := fun y => n1 (by rw [y]; exact q2)
    have e : Ext G H [a] G (upd H a u) [] := ⟨Sub.refl _, fun b x q n => by rw [upd_ne fun z => n (by rw [z]; exact List.mem_cons_self)]; exact q, fun _ q _ _ => q, fun _ z => nomatch z⟩
    have sub : Sub G (upd H a u) := fun b x q => by rw [upd_ne (ne_of_none q ga)]; exact s.sub b x q
    have h6 := h5.ext e fun b hb z => by rw [List.mem_singleton.mp z] at hb; exact na hb
    have r' : RepO K G (upd H a u) (.ref t) (.tp (es.set c (.l ys))) (t :: Bs) := .tp g1 (by rw [upd_ne nt]; exact g2) (q4 u ys z)
    have hl : i < ρ.length := by
      rcases getS_cases h with z | z <;> exact (List.getElem?_eq_some_iff.mp z).1
    have aA : a ∈ As := (h3 a).2 (List.mem_append_left _ (List.mem_cons_of_mem _ q2))
    have e2 : ∀ Ds : List Addr, (∀ b, b ∈ Ds ↔ b ∈ (t :: Bs) ++ Cs) → Ext G H As G (upd H a u) Ds := fun Ds hD =>
      ⟨Sub.refl _, fun b x q n => by rw [upd_ne fun z => n (by rw [z]; exact aA)]; exact q, fun _ q _ _ => q, fun b hb => .inl ((h3 b).2 ((hD b).1 hb))⟩
    rcases getS_cases h with z | z
    · obtain ⟨Ds, w1, w2, w3⟩ := Slots.into (z := .val (.tp (es.set c (.l ys)))) rfl r' h6 (List.getElem?_set_self hl) trivial h1
      rw [List.set_set] at w1
      have eu : updS i (.tp (es.set c (.l ys))) ρ = ρ.set i (.val (.tp (es.set c (.l ys)))) := by unfold updS; rw [z]
      exact ⟨Ds, ⟨by rw [eu]; exact w1, w3 nd, sub, by rw [eu]; exact s.pin.set trivial⟩, e2 Ds w2⟩
    · obtain ⟨Ds, w1, w2, w3⟩ := Slots.into (z := .bor (.tp (es.set c (.l ys)))) rfl r' h6 (List.getElem?_set_self hl) trivial h1
      rw [List.set_set] at w1
      have eu : updS i (.tp (es.set c (.l ys))) ρ = ρ.set i (.bor (.tp (es.set c (.l ys)))) := by unfold updS; rw [z]
      exact ⟨Ds, ⟨by rw [eu]; exact w1, w3 nd, sub, by rw [eu]; exact s.pin.keepB z⟩, e2 Ds w2⟩
def elF (i c : Nat) (F : O → Ch) : EF := fun ρ => match getS ρ i with
  | some (.tp es) => match es[c]? with
    | some (.l xs) => match F (.ls xs) with
      | some (.ls ys, d) => .ok (.dat d) (updS i (.tp (es.set c (.l ys))) ρ)
      | _ => .stuck
    | _ => .stuck
  | _ => .stuck
/-- the part of a tuple at a slot -/
def tPart1 (K : PySem.W.Frag) (i c : Nat) : TE := fun σ H Q => ∃ t vs x, σ[i]? = some (some (V.ref t)) ∧ SqT K H t vs ∧ vs[c]? = some x ∧ Q x H
theorem el_le0 {i c : Nat} {r : V → List V → Hp → VK → Prop} {F : O → Ch} (p : Mut0 K r F) (σ : L2.St) (H : Hp) (Q : VK) (h : liftE K R (elF i c F) σ H Q) : tBM0 K "list" r (tPart1 K i c) σ H Q := by
  obtain ⟨pins, G, ρ, As, s, k⟩ := h
  unfold elF at k
  split at k
  · rename_i es he
    split at k
    · rename_i xs hx
      split at k
      · rename_i ys d hF
        obtain ⟨t, vs, a, h1, h2, h3, h4, h5⟩ := s.mutTp he hx
        refine ⟨t, vs, .ref a, h1, SqT.of h2, h3, ?_, ?_⟩
        · cases h4 with
          | ls g1 g2 g3 => exact .inl ⟨rfl, _, SqL.of g2⟩
        · refine (p G H a (.ls xs) (.ls ys) d Q s.sub h4 hF).2 fun u v r' dv => ?_
          obtain ⟨Cs, w1, w2⟩ := h5 u ys r'
          exact k G _ Cs v [] w2 w1.nd (.dat dv) w1
      · exact k.elim
    · exact k.elim
  · exact k.elim
theorem el_le1 {i c : Nat} {r : V → List V → Hp → VK → Prop} {F : O → PyData → Ch} {v1 : V} {d1 : PyData} (p : Mut1 K r F) (hd : ∀ G, Dp K G v1 d1) (σ : L2.St) (H : Hp) (Q : VK) (h : liftE K R (elF i c fun o => F o d1) σ H Q) : tBM K "list" r (tPart1 K i c) (tCons (tC v1) tNil) σ H Q := by
  obtain ⟨pins, G, ρ, As, s, k⟩ := h
  unfold elF at k
  split at k
  · rename_i es he
    split at k
    · rename_i xs hx
      split at k
      · rename_i ys d hF
        obtain ⟨t, vs, a, h1, h2, h3, h4, h5⟩ := s.mutTp he hx
        refine ⟨t, vs, .ref a, h1, SqT.of h2, h3, ?_, ?_⟩
        · cases h4 with
          | ls g1 g2 g3 => exact .inl ⟨rfl, _, SqL.of g2⟩
        · refine (p G H a v1 (.ls xs) (.ls ys) d1 d Q s.sub hF).2 h4 (hd G) fun u v r' dv => ?_
          obtain ⟨Cs, w1, w2⟩ := h5 u ys r'
          exact k G _ Cs v [] w2 w1.nd (.dat dv) w1
      · exact k.elim
    · exact k.elim
  · exact k.elim
theorem el_le2 {i c : Nat} {r : V → List V → Hp → VK → Prop} {F : O → PyData → PyData → Ch} {v1 v2 : V} {d1 d2 : PyData} (p : Mut2 K r F) (hd : ∀ G, Dp K G v1 d1) (hd2 : ∀ G, Dp K G v2 d2) (σ : L2.St) (H : Hp) (Q : VK) (h : liftE K R (elF i c fun o => F o d1 d2) σ H Q) : tBM K "list" r (tPart1 K i c) (tCons (tC v1) (tCons (tC v2) tNil)) σ H Q := by
  obtain ⟨pins, G, ρ, As, s, k⟩ := h
  unfold elF at k
  split at k
  · rename_i es he
    split at k
    · rename_i xs hx
      split at k
      · rename_i ys d hF
        obtain ⟨t, vs, a, h1, h2, h3, h4, h5⟩ := s.mutTp he hx
        refine ⟨t, vs, .ref a, h1, SqT.of h2, h3, ?_, ?_⟩
        · cases h4 with
          | ls g1 g2 g3 => exact .inl ⟨rfl, _, SqL.of g2⟩
        · refine (p G H a v1 v2 (.ls xs) (.ls ys) d1 d2 d Q s.sub hF).2 h4 (hd G) (hd2 G) fun u v r' dv => ?_
          obtain ⟨Cs, w1, w2⟩ := h5 u ys r'
          exact k G _ Cs v [] w2 w1.nd (.dat dv) w1
      · exact k.elim
    · exact k.elim
  · exact k.elim
theorem atI_nat {α : Type} {xs : List α} {c : Nat} {x : α} (h : xs[c]? = some x) : L2.atI xs (c : Int) = some x := by
  have hl := (List.getElem?_eq_some_iff.mp h).1
  have e : L2.ixN xs.length (c : Int) = some c := by
    unfold L2.ixN
    simp [hl]
  unfold L2.atI
  rw [e]
  exact h
variable {o e : Expr} {pos : Pos} {f : EF}
theorem pe_part {i c : Nat} {n : Int} (hn : n = (c : Int)) (hv : PE X o (tVar i)) (he : PE X e (tC (.int n))) (hs : PlainIx e := by intro _ _; rfl) : PE X (.Subscript o e pos) (tPart1 X.K i c) := by
  refine PE.weak (pe_ix ix_tup hv he hs) fun σ H Q ⟨t, vs, x, h1, h2, h3, q⟩ => ⟨_, h1, t, vs, n, x, rfl, rfl, h2, ?_, q⟩
  rw [hn]
  exact atI_nat h3
theorem m_elRev {i c : Nat} (h : PE X o (tBM0 X.K "list" rReverse (tPart1 X.K i c))) : PE X o (liftE X.K R (elF i c revO)) := PE.weak h (el_le0 mut_rev)
theorem m_elApp {i c : Nat} {v1 : V} {d1 : PyData} (hd : ∀ G, Dp X.K G v1 d1) (h : PE X o (tBM X.K "list" rAppend (tPart1 X.K i c) (tCons (tC v1) tNil))) : PE X o (liftE X.K R (elF i c fun o => appO o d1)) := PE.weak h (el_le1 mut_append hd)
theorem m_elIns {i c : Nat} {v1 v2 : V} {d1 d2 : PyData} (hd : ∀ G, Dp X.K G v1 d1) (hd2 : ∀ G, Dp X.K G v2 d2) (h : PE X o (tBM X.K "list" rInsert (tPart1 X.K i c) (tCons (tC v1) (tCons (tC v2) tNil)))) : PE X o (liftE X.K R (elF i c fun o => insO o d1 d2)) := PE.weak h (el_le2 mut_insert hd hd2)
end

/-! ### a < b < c -/
def chF (C1 C2 : Int → Int → Bool) (f g h : EF) : TF := fun ρ => (shE f ρ).bind fun a ρ1 => (shE g ρ1).bind fun b ρ2 => match a, b with
  | .int i, .int j => if C1 i j = true then (shE h ρ2).bind fun c ρ3 => match c with
    | .int k => .ok (C2 j k) ρ3
    | _ => .stuck else .ok false ρ2
  | _, _ => .stuck
section
variable {K : PySem.W.Frag} {R : RK} {pins σ : L2.St} {G H G' H' : Hp} {As Bs Cs T : List Addr} {ρ : En} {X : Cx} {a b c : Expr} {f g h : EF} {pos : Pos}
theorem dp_int {v : V} {i : Int} (q : Dp K G v (.int i)) : v = .int i := by cases q; rfl
theorem ch_ok {op op' : CmpOp} {C1 C2 : Int → Int → Bool} (ho : OpR X (compareOp op) (rI0 fun i j => .bl (C1 i j))) (ho' : OpR X (compareOp op') (rI0 fun i j => .bl (C2 i j))) (ha : PE X a (liftE X.K R f)) (hb : PE X b (liftE X.K R g)) (hc : PE X c (liftE X.K R h))
    (hm : lastMarks [op, op'] [b, c] = false := by with_unfolding_all rfl) : PT X (.Compare a [op, op'] [b, c] pos) (liftT X.K R (chF C1 C2 f g h)) := by
  refine PT.weak (pt_chain ho ho' ha hb hc hm) fun σ H Q ⟨pins, G, ρ, As, s, k⟩ => ?_
  refine shE_le (α := Nat) (rel2 := RepO X.K) σ H _ ⟨pins, G, ρ, As, s, ?_⟩
  refine Kont.bind (T := []) (Q := Q) s.nd (fun a z => nomatch z) k fun d ρ1 G1 H1 As1 x Bs e1 nd1 r1 s1 k1 => ?_
  obtain ⟨rfl, dx⟩ := r1
  refine shE_le (α := Nat) (rel2 := RepO X.K) σ H1 _ ⟨pins, G1, ρ1, As1, s1, ?_⟩
  refine Kont.bind (T := []) (Q := Q) s1.nd (fun a z => nomatch z) (by simpa using k1) fun e ρ2 G2 H2 As2 y Bs e2 nd2 r2 s2 k2 => ?_
  obtain ⟨rfl, dy⟩ := r2
  split at k2
  · rename_i i j
    cases dp_int dx
    cases dp_int dy
    refine ⟨i, j, rfl, rfl, C1 i j, rfl, ?_⟩
    split at k2
    · rename_i hC
      rw [hC, if_pos rfl]
      refine shE_le (α := Nat) (rel2 := RepO X.K) σ H2 _ ⟨pins, G2, ρ2, As2, s2, ?_⟩
      refine Kont.bind (T := []) (Q := Q) s2.nd (fun a z => nomatch z) (by simpa using k2) fun l ρ3 G3 H3 As3 z Bs e3 nd3 r3 s3 k3 => ?_
      obtain ⟨rfl, dz⟩ := r3
      split at k3
      · rename_i n
        cases dp_int dz
        exact ⟨j, n, rfl, rfl, C2 j n, rfl, Kont.now k3 s3 (Bs := []) (fun a z => by simpa using z) s3.nd ⟨rfl, rfl⟩⟩
      · exact k3.elim
    · rename_i hC
      rw [if_neg hC]
      exact ⟨false, rfl, Kont.now k2 s2 (Bs := []) (fun a z => by simpa using z) s2.nd ⟨rfl, rfl⟩⟩
  · exact k2.elim
end

/-! ### [*xs, ..] -/
def starA (f : PF) (g : AF) : AF := fun ρ => (f ρ).bind fun p ρ1 => match p.get ρ1 with
  | some o => match o.sv with
    | some ds => (g ρ1).bind fun os ρ2 => .ok (ds.map O.dat ++ os) ρ2
    | none => .stuck
  | none => .stuck
section
variable {K : PySem.W.Frag} {R : RK} {pins σ : L2.St} {G H G' H' : Hp} {As Bs Cs T : List Addr} {ρ : En} {X : Cx}
theorem RepOs.dats {vs ws : List V} {ds : List PyData} {os : List O} (d : DpAll K G vs ds) (r : RepOs K G H ws os Bs) : RepOs K G H (vs ++ ws) (ds.map O.dat ++ os) Bs := by
  induction vs generalizing ds with
  | nil => cases d; exact r
  | cons v vs ih =>
    cases d with
    | cons a q => exact .cons (B := []) (.dat a) (ih q)
theorem pa_starF {e : Expr} {es : List Expr} {f : PF} {g : AF} {p : Pos} (h1 : PE X e (liftP X.K R f)) (h2 : PA X es (liftA X.K R g)) (hs : starEach (.Starred e p :: es) X.env = (true, eval e X.env) :: starEach es X.env := by rfl) : PA X (.Starred e p :: es) (liftA X.K R (starA f g)) := by
  refine PA.weak (StX.pa_star h1 h2 hs) fun σ H Q ⟨pins, G, ρ, As, s, k⟩ => ⟨pins, G, ρ, As, s, ?_⟩
  refine Kont.bind (T := []) (Q := Q) s.nd (fun a z => nomatch z) k fun q ρ1 G1 H1 As1 v Bs e1 nd1 r1 s1 k1 => ?_
  split at k1
  · rename_i o ho
    split at k1
    · rename_i ds hd
      obtain ⟨Cs, rc⟩ := RepP.get r1 s1 ho
      obtain ⟨p', vs, rfl, hp, dp⟩ := rc.sv s1.sub hd
      have nd1' : (Bs ++ As1).Nodup := by simpa using nd1
      refine ⟨p', vs, rfl, hp.symm, pins, G1, ρ1, As1, s1, ?_⟩
      refine Kont.bind (T := Bs) (Q := Q) nd1' (RepP.there r1) (by simpa using k1) fun os ρ2 G2 H2 As2 ws Ds e2 nd2 r2 s2 k2 => ?_
      exact Kont.now (Bs := Ds) k2 s2 (fun a z => List.mem_append_right _ z) (List.nodup_append.mp nd2).2.1 (RepOs.dats (dps_same e2.sub dp) r2)
    · exact k1.elim
  · exact k1.elim
end
/-! ### x, y = a, b where a name is a cell: by way of a tuple -/
section
variable {K : PySem.W.Frag} {R : RK} {pins σ : L2.St} {G H G' H' : Hp} {As Bs Cs T : List Addr} {ρ : En} {X : Cx} {D : Ends}
theorem s_par2T {st : Stmt} {i j : Nat} {g : AF} (h : PS X st (tAsg (tTup (liftA X.K R g)) (gTup X.K 2 (gCons (gName i) (gCons (gName j) gNil))))) : PS X st (liftS X.K R (par2S i j g)) := by
  refine PS.weak h fun D σ H ⟨pins, G, ρ, As, s, k⟩ => ⟨pins, G, ρ, As, s, ?_⟩
  refine Kont.bindS k fun os ρ1 G1 H1 As1 vs Bs e1 nd1 r1 s1 k1 => ?_
  split at k1
  · rename_i a b
    split at k1
    · rename_i ρ2 h2
      obtain ⟨ρ3, h3, h4⟩ := Option.bind_eq_some_iff.mp h2
      cases r1 with
      | @cons v vs _ _ B Bs' ra r1 =>
        cases r1 with
        | @cons w vs _ _ C Bs'' rb r1 =>
          cases r1
          have nd1' : (B ++ (C ++ As1)).Nodup := by simpa using nd1
          refine ⟨by rw [sz_lit]; show 2 ≤ 16777216; decide, fun p np => ⟨p, [v, w], rfl, SqT.of upd_same, rfl, v, [w], rfl, w, [], rfl, rfl, ?_⟩⟩
          have kp : ∀ a o, H1 a = some o → (upd H1 p (.tup [v, w])) a = some o := fun a o z => by rw [upd_ne (ne_of_none z np)]; exact z
          have sb : Sub G1 (upd H1 p (.tup [v, w])) := fun a o z => kp a o (s1.sub a o z)
          have e4 : Ext G1 H1 [] G1 (upd H1 p (.tup [v, w])) [] := ⟨Sub.refl _, fun a o z _ => kp a o z, fun a z _ _ => z, fun a z => nomatch z⟩
          have ra' := ra.ext e4 fun a _ z => nomatch z
          have rb' := rb.ext e4 fun a _ z => nomatch z
          obtain ⟨Cs, s3, l3, n3⟩ := (s1.ext e4 (fun a _ z => nomatch z) sb).putT ra' nd1' h3
          obtain ⟨Ds, s4, l4⟩ := s3.put rb' n3 h4
          have e5 := e4.frame ((B ++ (C ++ [])) ++ As1)
          rw [List.append_nil] at e5
          refine KontS.now (KontS.re k1 e5) s4 fun a z => ?_
          rcases List.mem_append.mp (l4 a z) with w | w
          · simp [w]
          · rcases List.mem_append.mp (l3 a w) with w | w <;> simp [w]
    · exact k1.elim
  · exact k1.elim
end
/-! rewriting -/
@[simp] theorem x_frT (f : TF) (ρ : En) : frT f ρ = match f (frz ρ) with
  | .ok b _ => .ok b ρ
  | _ => .stuck := (rfl)
@[simp] theorem x_frz_nil : frz [] = [] := (rfl)
@[simp] theorem x_frz_cons (s : Sl) (ρ : En) : frz (s :: ρ) = frS s :: frz ρ := (rfl)
@[simp] theorem x_frS_no : frS .no = .no := (rfl)
@[simp] theorem x_frS_lent : frS .lent = .no := (rfl)
@[simp] theorem x_frS_vd (d : PyData) : frS (.val (.dat d)) = .val (.dat d) := (rfl)
@[simp] theorem x_frS_vl (d : List PyData) : frS (.val (.ls d)) = .val (.dat (.list d)) := (rfl)
@[simp] theorem x_frS_vk (d : List (L2.Key × PyData)) : frS (.val (.dk d)) = .no := (rfl)
@[simp] theorem x_frS_vt (d : List El) : frS (.val (.tp d)) = .val (.dat (.tuple (d.map El.dv))) := (rfl)
@[simp] theorem x_frS_bd (d : PyData) : frS (.bor (.dat d)) = .val (.dat d) := (rfl)
@[simp] theorem x_frS_bl (d : List PyData) : frS (.bor (.ls d)) = .val (.dat (.list d)) := (rfl)
@[simp] theorem x_tpF (g : AF) (ρ : En) : tpF g ρ = (g ρ).bind fun os ρ1 => match elsO os with
  | some es => if small es.length = true then .ok (.tp es) ρ1 else .stuck
  | none => .stuck := by simp only [small_iff]; rfl
@[simp] theorem x_els_nil : elsO [] = some [] := (rfl)
@[simp] theorem x_els_d (d : PyData) (os : List O) : elsO (.dat d :: os) = (elsO os).map (El.d d :: ·) := by cases h : elsO os <;> simp [elsO, elO, h]
@[simp] theorem x_els_l (d : List PyData) (os : List O) : elsO (.ls d :: os) = (elsO os).map (El.l d :: ·) := by cases h : elsO os <;> simp [elsO, elO, h]
@[simp] theorem x_chF (C1 C2 : Int → Int → Bool) (f g h : EF) (ρ : En) : chF C1 C2 f g h ρ = (shE f ρ).bind fun a ρ1 => (shE g ρ1).bind fun b ρ2 => match a, b with
  | .int i, .int j => if C1 i j = true then (shE h ρ2).bind fun c ρ3 => match c with
    | .int k => .ok (C2 j k) ρ3
    | _ => .stuck else .ok false ρ2
  | _, _ => .stuck := (rfl)
@[simp] theorem x_starA (f : PF) (g : AF) (ρ : En) : starA f g ρ = (f ρ).bind fun p ρ1 => match p.get ρ1 with
  | some o => match o.sv with
    | some ds => (g ρ1).bind fun os ρ2 => .ok (ds.map O.dat ++ os) ρ2
    | none => .stuck
  | none => .stuck := (rfl)
@[simp] theorem x_elF (i c : Nat) (F : O → Ch) (ρ : En) : elF i c F ρ = match getS ρ i with
  | some (.tp es) => match es[c]? with
    | some (.l xs) => match F (.ls xs) with
      | some (.ls ys, d) => .ok (.dat d) (updS i (.tp (es.set c (.l ys))) ρ)
      | _ => .stuck
    | _ => .stuck
  | _ => .stuck := (rfl)
end Vs

namespace Vs
open PySem PySem.Spec PyProof.Rows L2 Ww
theorem find_ve {K : PySem.W.Frag} : PySem.W.findCls K (.type "ValueError") (.type "type") "__init__" = some (.val (.builtin "ValueError.__init__")) := by kernel_rfl
end Vs

namespace Fn
open PySem PySem.Spec PyProof.Rows L2 Ww Vs
def L1_alike (self : FF) : SF := ifS (notT (truF (tmpF (callF self (consC (aD (varF 2)) (consC (aD (varF 3)) (nilC)))))))
    (retS (cF (.bool false)))
    (nxS)
def B_alike (self : FF) : SF := seqS (ifS (tstF (op1 isNO (slotF 1)))
    (retS (op1 isNO (slotF 0)))
    (nxS))
    (seqS (ifS (truF (tmpF (op1 (isaO ["list", "tuple"]) (slotF 1))))
    (seqS (ifS (orT (notT (truF (tmpF (op1 (isaO ["list", "tuple"]) (slotF 0))))) (tstF (op2 neO (tmpF (op1 (isaO ["list"]) (slotF 0))) (tmpF (op1 (isaO ["list"]) (slotF 1))))))
    (retS (cF (.bool false)))
    (nxS))
    (seqS (ifS (tstF (op2 neO (tmpF (op1 lenO (slotF 0))) (tmpF (op1 lenO (slotF 1)))))
    (retS (cF (.bool false)))
    (nxS))
    (seqS (forS (zipI (varF 0) (varF 1)) (tupT 2 (consTs (nmT 2) (consTs (nmT 3) (nilTs)))) (L1_alike self))
    (retS (cF (.bool true))))))
    (nxS))
    (seqS (ifS (truF (tmpF (op1 (isaO ["str"]) (slotF 1))))
    (retS (andE (op1 (isaO ["str"]) (slotF 0)) (op2 eqO (slotF 0) (slotF 1))))
    (nxS))
    (seqS (ifS (tstF (op2 neO (tmpF (op1 (isaO ["bool"]) (slotF 0))) (tmpF (op1 (isaO ["bool"]) (slotF 1)))))
    (retS (cF (.bool false)))
    (nxS))
    (retS (andE (op1 (isaO ["int"]) (slotF 0)) (op2 eqO (slotF 0) (slotF 1)))))))
def F_alike : Nat → FF
  | 0 => fun _ => .stuck
  | n + 1 => defF 2 4 (B_alike (F_alike n))

def L1_begun : SF := ifS (tstF (op2 geO (tmpF (ixS 0 (varF 3))) (tmpF (op2 powO (tmpF (cF (.int 10))) (tmpF (cF (.int 18)))))))
    (exS (mm1 1 appO (op2 subO (tmpF (ixS 0 (varF 3))) (tmpF (op2 powO (tmpF (cF (.int 10))) (tmpF (cF (.int 18))))))))
    (setS 2 (op2 modO (tmpF (op1 intO (tmpF (op2 addO (tmpF (op2 powO (tmpF (op2 addO (tmpF (op2 addO (slotF 2) (tmpF (op2 modO (tmpF (op1 intO (tmpF (ixS 0 (varF 3))))) (tmpF (cF (.int 10000000000037))))))) (tmpF (op2 mulO (tmpF (cF (.int 911))) (slotF 3))))) (tmpF (cF (.int 3))))) (slotF 3))))) (tmpF (cF (.int 999999999999999989)))))
def B_begun : SF := seqS (par2S 1 2 (consA (lstF (nilA)) (consA (cF (.int 7310581)) (nilA))))
    (seqS (forS (rng1 (tmpF (op1 lenO (slotF 0)))) (nmT 3) L1_begun)
    (retS (lstF (consA (varF 1) (consA (cF (.int 0)) (consA (cF (.int 0)) (consA (varF 2) (consA (cF (.int 0)) (nilA)))))))))
def F_begun : FF := defF 1 4 B_begun

noncomputable def L1_comes_of : SF := seqS (asgS (tupT 2 (consTs (nmT 4) (consTs (nmT 5) (nilTs)))) (mm0 3 popO))
    (ifS (tstF (op2 eqO (tmpF (ixS 4 (cF (.int 0)))) (tmpF (cF (.str "plain")))))
    (seqS (ifS (tstF (op2 neO (tmpF (dGet2 2 (ixS 4 (cF (.int 1))) (varF 5))) (slotF 5)))
    (retS (cF (.bool false)))
    (nxS))
    (stS 2 stA (ixS 4 (cF (.int 1))) (varF 5)))
    (ifS (tstF (op2 neO (tmpF (ixS 4 (cF (.int 0)))) (tmpF (ixS 5 (cF (.int 0))))))
    (retS (cF (.bool false)))
    (setS 3 (op2 addO (slotF 3) (tmpF (lstF (consA (tupF (consA (ixS 4 (cF (.int 1))) (consA (ixS 5 (cF (.int 1))) (nilA)))) (consA (tupF (consA (ixS 4 (cF (.int 2))) (consA (ixS 5 (cF (.int 2))) (nilA)))) (nilA)))))))))
noncomputable def B_comes_of : SF := seqS (par2S 2 3 (consA (newD) (consA (lstF (consA (tupF (consA (varF 0) (consA (varF 1) (nilA)))) (nilA))) (nilA))))
    (seqS (whileS (tstF (op2 neO (slotF 3) (tmpF (lstF (nilA))))) L1_comes_of)
    (retS (cF (.bool true))))
noncomputable def F_comes_of : FF := defF 2 6 B_comes_of

noncomputable def L1_due : SF := seqS (asgS (tupT 2 (consTs (nmT 4) (consTs (nmT 5) (nilTs)))) (mm0 3 popO))
    (ifS (andT (tstF (op2 eqO (tmpF (ixS 4 (cF (.int 0)))) (tmpF (ixS 5 (cF (.int 0)))))) (tstF (op2 neO (tmpF (ixS 4 (cF (.int 0)))) (tmpF (cF (.str "plain"))))))
    (seqS (exS (mm1 2 appO (tupF (consA (ixS 4 (cF (.int 0))) (consA (cF .none) (nilA))))))
    (setS 3 (op2 addO (slotF 3) (tmpF (lstF (consA (tupF (consA (ixS 4 (cF (.int 2))) (consA (ixS 5 (cF (.int 2))) (nilA)))) (consA (tupF (consA (ixS 4 (cF (.int 1))) (consA (ixS 5 (cF (.int 1))) (nilA)))) (nilA))))))))
    (exS (mm1 2 appO (tupF (consA (cF (.str "plain")) (consA (tupF (consA (varF 4) (consA (varF 5) (nilA)))) (nilA)))))))
noncomputable def L2_due : SF := ifS (andT (tstF (op2 eqO (tmpF (ixS 7 (cF (.int 0)))) (tmpF (cF (.str "plain"))))) (tstF (ninS 6 (ixS 7 (cF (.int 1))))))
    (exS (mm1 6 appO (ixS 7 (cF (.int 1)))))
    (nxS)
noncomputable def L3_due : SF := ifS (tstF (op2 eqO (tmpF (ixS 7 (cF (.int 0)))) (tmpF (cF (.str "plain")))))
    (exS (mm1 8 appO (tupF (consA (cF (.str "plain")) (consA (op2 ixO (tmpF (cF (.str "abcdefghijklmnopqrstuvwxyz"))) (tmpF (op2c isLst idxO (slotF 6) (tmpF (ixS 7 (cF (.int 1))))))) (nilA))))))
    (seqS (setS 4 (mm0 8 popO))
    (exS (mm1 8 appO (tupF (consA (ixS 7 (cF (.int 0))) (consA (varF 4) (consA (mm0 8 popO) (nilA))))))))
noncomputable def B_due : SF := seqS (par2S 2 3 (consA (lstF (nilA)) (consA (lstF (consA (tupF (consA (varF 0) (consA (varF 1) (nilA)))) (nilA))) (nilA))))
    (seqS (whileS (tstF (op2 neO (slotF 3) (tmpF (lstF (nilA))))) L1_due)
    (seqS (setS 6 (lstF (nilA)))
    (seqS (forS (itS (varF 2)) (nmT 7) L2_due)
    (seqS (setS 8 (lstF (nilA)))
    (seqS (forS (itS (op1 revLO (slotF 2))) (nmT 7) L3_due)
    (retS (ixS 8 (cF (.int 0)))))))))
noncomputable def F_due : FF := defF 2 9 B_due

def B_pick : SF := seqS (ifS (andT (tstF (op2 eqO (tmpF (ixS 0 (cF (.int 2)))) (tmpF (cF (.int 0))))) (tstF (op2 ltO (tmpF (ixS 0 (cF (.int 1)))) (tmpF (op1 lenO (tmpF (ixS 0 (cF (.int 0)))))))))
    (seqS (stS 0 stA (cF (.int 2)) (op2 ixO (tmpF (ixS 0 (cF (.int 0)))) (tmpF (ixS 0 (cF (.int 1))))))
    (stS 0 stA (cF (.int 1)) (op2 addO (tmpF (ixS 0 (cF (.int 1)))) (tmpF (cF (.int 1))))))
    (nxS))
    (seqS (ifS (tstF (op2 gtO (tmpF (ixS 0 (cF (.int 2)))) (tmpF (cF (.int 0)))))
    (seqS (setS 2 (op2 modO (tmpF (op1 intO (tmpF (ixS 0 (cF (.int 2)))))) (slotF 1)))
    (seqS (stS 0 stA (cF (.int 2)) (op2 fdivO (tmpF (ixS 0 (cF (.int 2)))) (slotF 1)))
    (retS (movF 2))))
    (nxS))
    (seqS (stS 0 stA (cF (.int 4)) (op2 addO (tmpF (ixS 0 (cF (.int 4)))) (tmpF (cF (.int 1)))))
    (seqS (setS 3 (op2 modO (tmpF (op1 intO (tmpF (op2 powO (tmpF (op2 addO (tmpF (ixS 0 (cF (.int 3)))) (tmpF (op2 mulO (tmpF (op2 mulO (tmpF (cF (.int 613))) (tmpF (ixS 0 (cF (.int 4)))))) (tmpF (ixS 0 (cF (.int 4)))))))) (tmpF (cF (.int 3))))))) (tmpF (cF (.int 1000000000000000000000000000057)))))
    (retS (op2 modO (tmpF (op2 fdivO (tmpF (op2 modO (tmpF (op1 intO (tmpF (op2 mulO (slotF 3) (tmpF (op2 addO (slotF 3) (tmpF (cF (.int 29))))))))) (tmpF (cF (.int 340282366920938463463374607431768211507))))) (tmpF (cF (.int 8191))))) (slotF 1))))))
def F_pick : FF := defF 2 4 B_pick

def B_grown (self : FF) : SF := seqS (ifS (orT (tstF (op2 ltO (slotF 1) (tmpF (cF (.int 2))))) (tstF (op2 ltO (slotF 2) (tmpF (cF (.int 2))))))
    (retS (tupF (consA (cF (.str "plain")) (consA (ixS 4 (callF F_pick (lendC 0 (consC (aD (op1 lenO (slotF 4))) (nilC))))) (nilA)))))
    (nxS))
    (seqS (par2S 5 6 (consA (ixS 3 (callF F_pick (lendC 0 (consC (aD (op1 lenO (slotF 3))) (nilC))))) (consA (op2 addO (tmpF (cF (.int 1))) (tmpF (callF F_pick (lendC 0 (consC (aD (op2 subO (slotF 1) (tmpF (cF (.int 1))))) (nilC)))))) (nilA))))
    (seqS (setS 7 (callF self (lendC 0 (consC (aD (varF 6)) (consC (aD (op2 subO (slotF 2) (tmpF (cF (.int 1))))) (consC (aD (varF 3)) (consC (aD (varF 4)) (nilC))))))))
    (retS (tupF (consA (varF 5) (consA (varF 7) (consA (callF self (lendC 0 (consC (aD (op2 subO (slotF 1) (slotF 6))) (consC (aD (op2 subO (slotF 2) (tmpF (cF (.int 1))))) (consC (aD (varF 3)) (consC (aD (varF 4)) (nilC))))))) (nilA))))))))
def F_grown : Nat → FF
  | 0 => fun _ => .stuck
  | n + 1 => defF 5 8 (B_grown (F_grown n))

def B_pool : SF := seqS (asgS (tupT 2 (consTs (nmT 1) (consTs (nmT 2) (nilTs)))) (tupF (consA (cF (.str "abcdefghijklmnopqrstuvwxyz")) (consA (op2 addO (tmpF (cF (.int 1))) (tmpF (callF F_pick (lendC 0 (consC (aD (op2 ixO (tmpF (lstF (consA (cF (.int 1)) (consA (cF (.int 3)) (consA (cF (.int 7)) (nilA)))))) (tmpF (callF F_pick (lendC 0 (consC (aD (cF (.int 3))) (nilC))))))) (nilC)))))) (nilA)))))
    (retS (op2c isStr joinO (tmpF (cF (.str ""))) (tmpF (lcF (rng1 (slotF 2)) (nmT 3) (yesT) (ixS 1 (callF F_pick (lendC 0 (consC (aD (cF (.int 26))) (nilC))))) [3]))))
def F_pool : FF := defF 1 4 B_pool

noncomputable def L1_places : SF := seqS (asgS (tupT 2 (consTs (nmT 3) (consTs (nmT 4) (nilTs)))) (mm0 2 popO))
    (ifS (tstF (op2 eqO (tmpF (ixS 3 (cF (.int 0)))) (tmpF (cF (.str "plain")))))
    (exS (mm1 1 appO (tupF (consA (ixS 3 (cF (.int 1))) (consA (varF 4) (nilA))))))
    (seqS (exS (mm1 2 appO (tupF (consA (ixS 3 (cF (.int 2))) (consA (op2 addO (slotF 4) (tmpF (cF (.int 1)))) (nilA))))))
    (exS (mm1 2 appO (tupF (consA (ixS 3 (cF (.int 1))) (consA (op2 addO (slotF 4) (tmpF (cF (.int 1)))) (nilA))))))))
noncomputable def B_places : SF := seqS (par2S 1 2 (consA (lstF (nilA)) (consA (lstF (consA (tupF (consA (varF 0) (consA (cF (.int 1)) (nilA)))) (nilA))) (nilA))))
    (seqS (whileS (tstF (op2 neO (slotF 2) (tmpF (lstF (nilA))))) L1_places)
    (retS (movF 1)))
noncomputable def F_places : FF := defF 1 5 B_places

def B_put (self : FF) : SF := seqS (ifS (tstF (op2 eqO (tmpF (ixS 0 (cF (.int 0)))) (tmpF (cF (.str "plain")))))
    (retS (dGet2 1 (ixS 0 (cF (.int 1))) (varF 0)))
    (nxS))
    (retS (tupF (consA (ixS 0 (cF (.int 0))) (consA (callF self (consC (aD (ixS 0 (cF (.int 1)))) (lendC 1 (nilC)))) (consA (callF self (consC (aD (ixS 0 (cF (.int 2)))) (lendC 1 (nilC)))) (nilA))))))
def F_put : Nat → FF
  | 0 => fun _ => .stuck
  | n + 1 => defF 2 2 (B_put (F_put n))

noncomputable def B_within : SF := seqS (setS 1 (callF F_places (consC (aD (varF 0)) (nilC))))
    (retS (andE (op2 leO (tmpF (op1 lenO (slotF 1))) (tmpF (cF (.int 7)))) (op2 leO (tmpF (op1 maxO (tmpF (lcF (itS (varF 1)) (nmT 2) (yesT) (ixS 2 (cF (.int 1))) [2])))) (tmpF (cF (.int 5))))))
noncomputable def F_within : FF := defF 1 3 B_within

noncomputable def L1_two : SF := stS 10 stA (varF 11) (callF (F_grown 30) (lendC 0 (consC (aD (op2 addO (tmpF (cF (.int 1))) (tmpF (callF F_pick (lendC 0 (consC (aD (varF 4)) (nilC))))))) (consC (aD (cF (.int 2))) (consC (aD (lstF (consA (cF (.str "behind")) (consA (cF (.str "ahead")) (consA (cF (.str "with")) (nilA)))))) (consC (aD (varF 1)) (nilC)))))))
noncomputable def L2_two : SF := seqS (setS 10 (newD))
    (seqS (forS (itS (varF 6)) (nmT 11) L1_two)
    (seqS (setS 12 (callF (F_put 30) (consC (aD (varF 5)) (lendC 10 (nilC)))))
    (seqS (ifS (notT (truF (tmpF (callF F_within (consC (aD (varF 12)) (nilC))))))
    (setS 12 (callF (F_put 30) (consC (aD (varF 5)) (consC (aT (dispF (consP (ixS 6 (cF (.int 0))) (tupF (consA (cF (.str "plain")) (consA (ixS 1 (op1 negO (tmpF (cF (.int 1))))) (nilA)))) (nilP)))) (nilC)))))
    (nxS))
    (exS (mm1 7 appO (varF 12))))))
noncomputable def B_two : SF := seqS (par2S 1 2 (consA (op2 addO (tmpF (callF F_pool (lendC 0 (nilC)))) (tmpF (callF F_pool (lendC 0 (nilC))))) (consA (op2 eqO (tmpF (callF F_pick (lendC 0 (consC (aD (cF (.int 3))) (nilC))))) (tmpF (cF (.int 0)))) (nilA))))
    (seqS (asgS (tupT 2 (consTs (nmT 3) (consTs (nmT 4) (nilTs)))) (op2 ixO (tmpF (lstF (consA (lstF (consA (op2 addO (tmpF (cF (.int 1))) (tmpF (callF F_pick (lendC 0 (consC (aD (cF (.int 4))) (nilC)))))) (consA (cF (.int 2)) (nilA)))) (consA (lstF (consA (cF (.int 7)) (consA (cF (.int 1)) (nilA)))) (nilA))))) (tmpF (op1 intO (slotF 2)))))
    (seqS (setS 5 (callF (F_grown 30) (lendC 0 (consC (aD (varF 3)) (consC (aD (cF (.int 5))) (consC (aD (lstF (consA (cF (.str "behind")) (consA (cF (.str "ahead")) (consA (cF (.str "with")) (nilA)))))) (consC (aD (varF 1)) (nilC))))))))
    (seqS (par2S 6 7 (consA (op1 sortedSetO (tmpF (lcF (itS (callF F_places (consC (aD (varF 5)) (nilC)))) (nmT 8) (yesT) (ixS 8 (cF (.int 0))) [8]))) (consA (lstF (nilA)) (nilA))))
    (seqS (forS (rng1 (tmpF (cF (.int 2)))) (nmT 9) L2_two)
    (retS (tupF (consA (varF 5) (consA (ixS 7 (cF (.int 0))) (consA (ixS 7 (cF (.int 1))) (nilA))))))))))
noncomputable def F_two : FF := defF 1 13 B_two

def B_both_share (self : FF) : SF := seqS (ifS (andT (tstF (op2 eqO (tmpF (ixS 0 (cF (.int 0)))) (tmpF (ixS 1 (cF (.int 0)))))) (tstF (op2 neO (tmpF (ixS 0 (cF (.int 0)))) (tmpF (cF (.str "plain"))))))
    (retS (tupF (consA (ixS 0 (cF (.int 0))) (consA (callF self (consC (aD (ixS 0 (cF (.int 1)))) (consC (aD (ixS 1 (cF (.int 1)))) (lendC 2 (nilC))))) (consA (callF self (consC (aD (ixS 0 (cF (.int 2)))) (consC (aD (ixS 1 (cF (.int 2)))) (lendC 2 (nilC))))) (nilA))))))
    (nxS))
    (seqS (ifS (tstF (ninS 2 (tupF (consA (varF 0) (consA (varF 1) (nilA))))))
    (exS (mm1 2 appO (tupF (consA (varF 0) (consA (varF 1) (nilA))))))
    (nxS))
    (retS (tupF (consA (cF (.str "plain")) (consA (op2 ixO (tmpF (cF (.str "abcdefghijklmnopqrstuvwxyz"))) (tmpF (op2c isLst idxO (slotF 2) (tmpF (tupF (consA (varF 0) (consA (varF 1) (nilA)))))))) (nilA))))))
def F_both_share : Nat → FF
  | 0 => fun _ => .stuck
  | n + 1 => defF 3 3 (B_both_share (F_both_share n))

def B_is_letter : SF := retS (andE (op2 eqO (tmpF (op1 lenO (slotF 0))) (tmpF (cF (.int 1)))) (op2 inO (slotF 0) (tmpF (cF (.str "abcdefghijklmnopqrstuvwxyz")))))
def F_is_letter : FF := defF 1 1 B_is_letter

def B_wrong_part (self : FF) : SF := seqS (ifS (tstF (op2 eqO (tmpF (ixS 0 (cF (.int 0)))) (tmpF (cF (.str "plain")))))
    (retS (ifE (truF (tmpF (callF F_is_letter (consC (aD (ixS 0 (cF (.int 1)))) (nilC))))) (cF .none) (varF 0)))
    (nxS))
    (seqS (ifS (tstF (op1 (kdNin [("behind", "ahead"), ("ahead", "behind"), ("with", "with")]) (tmpF (ixS 0 (cF (.int 0))))))
    (retS (varF 0))
    (nxS))
    (seqS (setS 1 (callF self (consC (aD (ixS 0 (cF (.int 1)))) (nilC))))
    (retS (ifE (tstF (op1 isNO (slotF 1))) (callF self (consC (aD (ixS 0 (cF (.int 2)))) (nilC))) (varF 1)))))
def F_wrong_part : Nat → FF
  | 0 => fun _ => .stuck
  | n + 1 => defF 1 2 (B_wrong_part (F_wrong_part n))

def B_checked_kind : SF := seqS (setS 1 (callF (F_wrong_part 30) (consC (aD (varF 0)) (nilC))))
    (seqS (ifS (tstF (op1 notNO (slotF 1)))
    (noS)
    (nxS))
    (retS (varF 0)))
def F_checked_kind : FF := defF 1 2 B_checked_kind

def L1_checked_kinds : SF := exS (callF F_checked_kind (consC (aD (varF 1)) (nilC)))
def B_checked_kinds : SF := seqS (forS (itS (varF 0)) (nmT 1) L1_checked_kinds)
    (retS (varF 0))
def F_checked_kinds : FF := defF 1 2 B_checked_kinds

def B_common : SF := seqS (exS (callF F_checked_kinds (consC (aD (lstF (consA (varF 0) (consA (varF 1) (nilA))))) (nilC))))
    (retS (callF (F_both_share 30) (consC (aD (varF 0)) (consC (aD (varF 1)) (consC (aT (lstF (nilA))) (nilC))))))
def F_common : FF := defF 2 2 B_common

def B_matches (self : FF) : SF := seqS (ifS (tstF (op2 eqO (tmpF (ixS 0 (cF (.int 0)))) (tmpF (cF (.str "plain")))))
    (retS (op2 eqO (tmpF (dSetd 2 (ixS 0 (cF (.int 1))) (varF 1))) (slotF 1)))
    (nxS))
    (seqS (ifS (tstF (op2 neO (tmpF (ixS 0 (cF (.int 0)))) (tmpF (ixS 1 (cF (.int 0))))))
    (retS (cF (.bool false)))
    (nxS))
    (retS (andE (callF self (consC (aD (ixS 0 (cF (.int 1)))) (consC (aD (ixS 1 (cF (.int 1)))) (lendC 2 (nilC))))) (callF self (consC (aD (ixS 0 (cF (.int 2)))) (consC (aD (ixS 1 (cF (.int 2)))) (lendC 2 (nilC))))))))
def F_matches : Nat → FF
  | 0 => fun _ => .stuck
  | n + 1 => defF 3 3 (B_matches (F_matches n))

def B_puts : SF := seqS (exS (callF F_checked_kinds (consC (aD (lstF (consA (varF 0) (consA (varF 1) (nilA))))) (nilC))))
    (seqS (setS 2 (newD))
    (retS (ifE (truF (tmpF (callF (F_matches 30) (consC (aD (varF 0)) (consC (aD (varF 1)) (lendC 2 (nilC))))))) (sItems 2) (cF .none))))
def F_puts : FF := defF 2 3 B_puts

noncomputable def L1_law : SF := ifS (orT (notT (truF (tmpF (callF F_comes_of (consC (aD (varF 9)) (consC (aD (varF 10)) (nilC))))))) (tstF (op1 isNO (tmpF (callF F_puts (consC (aD (varF 9)) (consC (aD (varF 10)) (nilC))))))))
    (retS (cF (.bool false)))
    (nxS)
noncomputable def L2_law : SF := seqS (asgS (tupT 3 (consTs (nmT 3) (consTs (nmT 4) (consTs (nmT 5) (nilTs))))) (callF F_two (lendC 1 (nilC))))
    (seqS (setS 6 (callF F_pick (lendC 1 (consC (aD (cF (.int 4))) (nilC)))))
    (seqS (ifS (tstF (op2 eqO (slotF 6) (tmpF (cF (.int 0)))))
    (setS 5 (varF 4))
    (nxS))
    (seqS (ifS (tstF (op2 eqO (slotF 6) (tmpF (cF (.int 1)))))
    (seqS (setS 7 (callF F_pool (lendC 1 (nilC))))
    (seqS (setS 5 (callF (F_grown 30) (lendC 1 (consC (aD (op2 addO (tmpF (cF (.int 1))) (tmpF (callF F_pick (lendC 1 (consC (aD (cF (.int 7))) (nilC))))))) (consC (aD (cF (.int 5))) (consC (aD (lstF (consA (cF (.str "behind")) (consA (cF (.str "ahead")) (consA (cF (.str "with")) (nilA)))))) (consC (aD (varF 7)) (nilC))))))))
    (setS 3 (tupF (consA (cF (.str "plain")) (consA (cF (.str "k")) (nilA)))))))
    (nxS))
    (seqS (setS 8 (callF F_due (consC (aD (varF 4)) (consC (aD (varF 5)) (nilC)))))
    (seqS (setS 9 (callF F_common (consC (aD (varF 4)) (consC (aD (varF 5)) (nilC)))))
    (seqS (ifS (orT (notT (truF (tmpF (callF (F_alike 30) (consC (aD (varF 9)) (consC (aD (varF 8)) (nilC))))))) (notT (truF (tmpF (callF (F_alike 30) (consC (aD (callF F_common (revC (consC (aD (varF 4)) (consC (aD (varF 5)) (nilC)))))) (consC (aD (varF 8)) (nilC))))))))
    (retS (cF (.bool false)))
    (nxS))
    (seqS (forS (itS (lstF (consA (varF 4) (consA (varF 5) (nilA))))) (nmT 10) L1_law)
    (seqS (ifS (orT (notT (truF (tmpF (callF F_comes_of (consC (aD (varF 3)) (consC (aD (varF 9)) (nilC))))))) (tstF (op1 isNO (tmpF (callF F_puts (consC (aD (varF 3)) (consC (aD (varF 9)) (nilC))))))))
    (retS (cF (.bool false)))
    (nxS))
    (ifS (orT (notT (truF (tmpF (callF (F_alike 30) (consC (aD (callF F_common (consC (aD (varF 4)) (consC (aD (varF 4)) (nilC))))) (consC (aD (callF F_due (consC (aD (varF 4)) (consC (aD (varF 4)) (nilC))))) (nilC))))))) (notT (truF (tmpF (callF (F_alike 30) (consC (aD (callF F_common (consC (aD (varF 4)) (consC (aD (varF 5)) (nilC))))) (consC (aD (varF 8)) (nilC))))))))
    (retS (cF (.bool false)))
    (nxS))))))))))
noncomputable def B_law : SF := seqS (setS 1 (callF F_begun (consC (aD (varF 0)) (nilC))))
    (seqS (forS (rng1 (tmpF (cF (.int 9)))) (nmT 2) L2_law)
    (retS (cF (.bool true))))
noncomputable def F_law : FF := defF 1 11 B_law
end Fn

namespace Fn
open PySem PySem.Spec PyProof.Rows L2 Ww Vs
@[simp] theorem y_d_str (s : Str) : (PyData.str s).depth = 0 := rfl
@[simp] theorem y_d_int (s : Int) : (PyData.int s).depth = 0 := rfl
@[simp] theorem y_d_bool (s : Bool) : (PyData.bool s).depth = 0 := rfl
@[simp] theorem y_e_str (s t : Str) : PyData.eqv (.str s) (.str t) = (s == t) := rfl
@[simp] theorem y_e_int (s t : Int) : PyData.eqv (.int s) (.int t) = (s == t) := rfl
@[simp] theorem y_e_bool (s t : Bool) : PyData.eqv (.bool s) (.bool t) = (s == t) := rfl
@[simp] theorem y_k_pl (s : Str) : (Kd.pl s).dat = .tuple [.str "plain", .str s] := rfl
@[simp] theorem y_k_nd (f : Str) (a b : Kd) : (Kd.nd f a b).dat = .tuple [.str f, a.dat, b.dat] := rfl
/-! ### letters -/
theorem strIn_one (x : Str) (c : Nat) : strIn ⟨#[c]⟩ x = decide (c ∈ x.cps.toList) := StrLaws.found_one x c
theorem is_letter_ok (s : Str) (h : s.length ≤ 1000000) : F_is_letter [.dat (.str s)] = .ok (.dat (.bool (isLet s))) [.no] := by
  have h2 : s.length ≤ 16777216 := by omega
  by_cases c : s.length = 1
  · obtain ⟨x, rfl⟩ := str_one c
    have e : decide (x ∈ (Str.ofString "abcdefghijklmnopqrstuvwxyz").cps.toList) = isLet ⟨#[x]⟩ := by
      rw [isLet_one]
      exact decide_eq_decide.mpr (abc_mem x)
    simp only [F_is_letter, x_def]
    simp [x_entry, B_is_letter, h2, strIn_one, x_leave, c, -Array.mem_toList_iff, e]
  · have c2 : ¬ (s.length : Int) = 1 := by omega
    simp [F_is_letter, x_def, x_entry, B_is_letter, h2, isLet_many c, x_leave, c2]
theorem Kd.ne {k : Kd} : k.dat ≠ .none := by cases k <;> exact fun z => nomatch z
@[simp] theorem isN_kd (k : Kd) : isNO (.dat k.dat) = some (.dat (.bool false)) := x_isN Kd.ne
theorem form_ne {f : Str} (h : Form f) : (f == (Str.ofString "plain")) = false := by
  rcases h with rfl | rfl | rfl <;> decide +kernel
theorem form_turn {f : Str} (h : Form f) : kdNin [("behind", "ahead"), ("ahead", "behind"), ("with", "with")] (.dat (.str f)) = some (.dat (.bool false)) := by
  have e : (List.lookup f [(Str.ofString "behind", Str.ofString "ahead"), (Str.ofString "ahead", Str.ofString "behind"), (Str.ofString "with", Str.ofString "with")]).isSome = true := by rcases h with rfl | rfl | rfl <;> decide +kernel
  rw [show ∀ tbl, kdNin tbl (.dat (.str f)) = if (tbl.lookup f).isSome = true then bo false else none from fun _ => rfl, if_pos e]
  rfl
theorem wrong_part_ok : ∀ (n : Nat) (k : Kd), k.ok → k.deep ≤ n → F_wrong_part n [.dat k.dat] = .ok (.dat .none) [.no]
  | 0, k, _, h => by have := k.deep_pos; omega
  | n + 1, .pl s, ok, h => by
    have l := is_letter_ok s ok.small
    have e : isLet s = true := isLet_iff.mpr ok
    simp [F_wrong_part, x_def, x_entry, B_wrong_part, l, e, x_leave]
  | n + 1, .nd f a b, ⟨hf, oa, ob⟩, h => by
    have dm : 1 + max a.deep b.deep ≤ n + 1 := h
    have ea := wrong_part_ok n a oa (by omega)
    have eb := wrong_part_ok n b ob (by omega)
    simp [F_wrong_part, x_def, x_entry, B_wrong_part, x_leave, form_ne hf, form_turn hf, ea, eb]
theorem checked_kind_ok (k : Kd) (ok : k.ok) (h : k.deep ≤ 30) : F_checked_kind [.dat k.dat] = .ok (.dat k.dat) [.no] := by
  have l := wrong_part_ok 30 k ok h
  simp [F_checked_kind, x_def, x_entry, B_checked_kind, l, x_leave]
theorem checked_loop (d : PyData) : ∀ (ks : List Kd) (s : Sl), (s = .no ∨ ∃ k : Kd, s = .val (.dat k.dat)) → (∀ k ∈ ks, k.ok ∧ k.deep ≤ 30) → ∃ s', loopF (nmT 1) L1_checked_kinds (ks.map Kd.dat) [.val (.dat d), s] = .nx [.val (.dat d), s']
  | [], s, _, _ => ⟨s, rfl⟩
  | k :: ks, s, hs, h => by
    obtain ⟨ok, hd⟩ := h k List.mem_cons_self
    have l := checked_kind_ok k ok hd
    obtain ⟨s', e⟩ := checked_loop d ks (.val (.dat k.dat)) (.inr ⟨k, rfl⟩) fun z hz => h z (List.mem_cons_of_mem _ hz)
    refine ⟨s', ?_⟩
    have b : L1_checked_kinds [.val (.dat d), .val (.dat k.dat)] = .nx [.val (.dat d), .val (.dat k.dat)] := by simp [L1_checked_kinds, l]
    rw [List.map_cons, x_loop_cons]
    rcases hs with rfl | ⟨_, rfl⟩ <;> simp [b, e]
theorem checked_kinds_ok (ks : List Kd) (h : ∀ k ∈ ks, k.ok ∧ k.deep ≤ 30) : F_checked_kinds [.dat (.list (ks.map Kd.dat))] = .ok (.dat (.list (ks.map Kd.dat))) [.no] := by
  obtain ⟨s', e⟩ := checked_loop (.list (ks.map Kd.dat)) ks .no (.inl rfl) h
  simp [F_checked_kinds, x_def, x_entry, B_checked_kinds, e, x_leave]
/-! ### the law's source of draws, at most n draws so far -/
def Src (n : Nat) (ds : List PyData) : Prop := ∃ (gs : List Int) (i o m c : Int), ds = [.list (gs.map .int), .int i, .int o, .int m, .int c] ∧
  gs.length ≤ 63 ∧ (∀ x ∈ gs, 0 ≤ x) ∧ 0 ≤ i ∧ i ≤ gs.length ∧ 0 ≤ o ∧ 0 ≤ m ∧ m < 10 ^ 18 ∧ 0 ≤ c ∧ c ≤ n
theorem Src.le {n n' : Nat} {ds : List PyData} (h : Src n ds) (l : n ≤ n') : Src n' ds := by
  obtain ⟨gs, i, o, m, c, h1, h2, h3, h4, h5, h6, h7, h8, h9, h10⟩ := h
  exact ⟨gs, i, o, m, c, h1, h2, h3, h4, h5, h6, h7, h8, h9, by omega⟩
/-- numbers of such a size -/
theorem wid_of {i : Int} (h : i.natAbs < 2 ^ 200) : Wid i := Nat.lt_of_lt_of_le h (Nat.pow_le_pow_right (by decide) (by decide))
theorem ixN_of {n : Nat} {i : Int} (h0 : 0 ≤ i) (h1 : i < n) : ixN n i = some i.toNat := by
  unfold ixN
  simp [h0, h1]
theorem at_int {gs : List Int} {i : Int} (h0 : 0 ≤ i) (h1 : i < gs.length) : ∃ x ∈ gs, atI (gs.map PyData.int) i = some (.int x) := by
  have hi : i.toNat < gs.length := by omega
  refine ⟨gs[i.toNat], List.getElem_mem hi, ?_⟩
  unfold atI
  rw [ixN_of h0 (by rw [List.length_map]; exact h1)]
  simp [hi]
theorem pick_ok (n : Nat) (ds : List PyData) (many : Int) (hs : Src n ds) (hn : n ≤ 1000000) (m0 : 0 < many) (m1 : many < 2 ^ 200) :
    ∃ (r : Int) (es : List PyData), 0 ≤ r ∧ r < many ∧ Src (n + 1) es ∧ F_pick [.ls ds, .dat (.int many)] = .ok (.dat (.int r)) [.bor (.ls es), .no] := by
  obtain ⟨gs, i, o, m, c, rfl, h63, hpos, i0, i1, o0, mm0, mm1, c0, c1⟩ := hs
  have wm : Wid many := wid_of (by omega)
  have wo : Wid 613 := by decide
  have w1 : Wid (c + 1) := wid_of (by omega)
  have w2 : Wid (613 * (c + 1)) := wid_of (by omega)
  have p2 : 613 * (c + 1) * (c + 1) ≤ 613 * (1000001 * 1000001) := by
    have := Int.mul_le_mul (show 613 * (c + 1) ≤ 613 * 1000001 by omega) (show c + 1 ≤ 1000001 by omega) (by omega) (by decide)
    omega
  have p3 : 0 ≤ 613 * (c + 1) * (c + 1) := Int.mul_nonneg (by omega) (by omega)
  have nb : (m + 613 * (c + 1) * (c + 1)).natAbs < 2 ^ 64 := by omega
  have pk : powOk (m + 613 * (c + 1) * (c + 1)) 3 = true := powOk_s (by decide) (by decide) nb
  have t0 := Int.emod_nonneg ((m + 613 * (c + 1) * (c + 1)) ^ 3) (show (1000000000000000000000000000057 : Int) ≠ 0 by decide)
  have t1 := Int.emod_lt_of_pos ((m + 613 * (c + 1) * (c + 1)) ^ 3) (show (0 : Int) < 1000000000000000000000000000057 by decide)
  generalize hz : (m + 613 * (c + 1) * (c + 1)) ^ 3 % 1000000000000000000000000000057 = z at t0 t1
  have wz : Wid z := wid_of (by omega)
  have wy : Wid (z + 29) := wid_of (by omega)
  have wq : Wid 8191 := by decide
  have ne : many ≠ 0 := by omega
  have r3 : ∀ i' : Int, 0 ≤ i' → i' ≤ gs.length → ∃ (r : Int) (es : List PyData), 0 ≤ r ∧ r < many ∧ Src (n + 1) es ∧ r = z * (z + 29) % 340282366920938463463374607431768211507 / 8191 % many ∧ es = [.list (gs.map .int), .int i', .int 0, .int m, .int (c + 1)] := fun i' h0 h1 =>
    ⟨_, _, Int.emod_nonneg _ ne, Int.emod_lt_of_pos _ m0, ⟨gs, i', 0, m, c + 1, rfl, h63, hpos, h0, h1, by decide, mm0, mm1, by omega, by omega⟩, rfl, rfl⟩
  have r2 : ∀ i' o' : Int, 0 ≤ i' → i' ≤ gs.length → 0 ≤ o' → ∃ (r : Int) (es : List PyData), 0 ≤ r ∧ r < many ∧ Src (n + 1) es ∧ r = o' % many ∧ es = [.list (gs.map .int), .int i', .int (o' / many), .int m, .int c] := fun i' o' h0 h1 h2 =>
    ⟨_, _, Int.emod_nonneg _ ne, Int.emod_lt_of_pos _ m0, ⟨gs, i', o' / many, m, c, rfl, h63, hpos, h0, h1, Int.ediv_nonneg h2 (by omega), mm0, mm1, by omega, by omega⟩, rfl, rfl⟩
  by_cases c1 : o = 0 ∧ i < gs.length
  · obtain ⟨rfl, c2⟩ := c1
    obtain ⟨x, hx, ex⟩ := at_int i0 c2
    have x0 := hpos x hx
    by_cases c3 : x = 0
    · subst c3
      obtain ⟨r, es, h0, h1, h2, rfl, rfl⟩ := r3 (i + 1) (by omega) (by omega)
      refine ⟨_, _, h0, h1, h2, ?_⟩
      simp [F_pick, x_def, x_entry, x_leave, B_pick, c2, ex, ixN, m0, wm, wo, w1, w2, pk, hz, wz, wy, wq]
    · have c4 : 0 < x := by omega
      obtain ⟨r, es, h0, h1, h2, rfl, rfl⟩ := r2 (i + 1) x (by omega) (by omega) x0
      refine ⟨_, _, h0, h1, h2, ?_⟩
      simp [F_pick, x_def, x_entry, x_leave, B_pick, c2, ex, ixN, m0, wm, c4]
  · by_cases c3 : o = 0
    · subst c3
      have c2 : ¬ i < gs.length := fun h => c1 ⟨rfl, h⟩
      obtain ⟨r, es, h0, h1, h2, rfl, rfl⟩ := r3 i i0 i1
      refine ⟨_, _, h0, h1, h2, ?_⟩
      simp [F_pick, x_def, x_entry, x_leave, B_pick, c2, ixN, m0, wm, wo, w1, w2, pk, hz, wz, wy, wq]
    · have c4 : 0 < o := by omega
      obtain ⟨r, es, h0, h1, h2, rfl, rfl⟩ := r2 i o i0 i1 o0
      refine ⟨_, _, h0, h1, h2, ?_⟩
      simp [F_pick, x_def, x_entry, x_leave, B_pick, c3, c4, ixN, m0, wm]
/-! ### begun -/
def Beg (ns : List Int) (i : Nat) (ρ : En) : Prop := ∃ (s3 : Sl) (gs : List Int) (m : Int), ρ = [.val (.dat (.list (ns.map .int))), .val (.ls (gs.map .int)), .val (.dat (.int m)), s3] ∧ (s3 = .no ∨ ∃ x, s3 = .val (.dat (.int x))) ∧
  gs.length ≤ i ∧ (∀ x ∈ gs, 0 ≤ x) ∧ 0 ≤ m ∧ m < 10 ^ 18
theorem begun_step (ns : List Int) (i : Nat) (ρ : En) (h63 : ns.length ≤ 63) (hi : i < ns.length) (h : Beg ns i ρ) : ∃ ρ1 ρ2, (nmT 3).f (.int (i : Int)) ρ = some ρ1 ∧ (L1_begun ρ1 = .nx ρ2 ∨ L1_begun ρ1 = .ct ρ2) ∧ Beg ns (i + 1) ρ2 := by
  obtain ⟨s3, gs, m, rfl, h3, hl, hpos, m0, m1⟩ := h
  have e1 : (nmT 3).f (.int (i : Int)) [.val (.dat (.list (ns.map .int))), .val (.ls (gs.map .int)), .val (.dat (.int m)), s3] = some [.val (.dat (.list (ns.map .int))), .val (.ls (gs.map .int)), .val (.dat (.int m)), .val (.dat (.int i))] := by
    rcases h3 with rfl | ⟨x, rfl⟩ <;> simp
  have ex : atI (ns.map PyData.int) (i : Int) = some (.int ns[i]) := by rw [x_atN _ _ (by rw [List.length_map]; exact hi)]; simp
  generalize ns[i] = x at ex
  by_cases c : (1000000000000000000 : Int) ≤ x
  · refine ⟨_, [.val (.dat (.list (ns.map .int))), .val (.ls ((gs ++ [x - 1000000000000000000]).map .int)), .val (.dat (.int m)), .val (.dat (.int i))], e1, .inl ?_, .val (.dat (.int i)), _, _, rfl, .inr ⟨_, rfl⟩, ?_, ?_, m0, m1⟩
    · have hz : small (gs.length + 1) = true := small_of (by omega)
      simp [L1_begun, ex, c, hz]
    · rw [List.length_append]
      exact Nat.succ_le_succ hl
    · intro y hy
      rcases List.mem_append.mp hy with z | z
      · exact hpos y z
      · rw [List.mem_singleton] at z
        omega
  · have x0 : 0 ≤ x % 10000000000037 := Int.emod_nonneg _ (by decide)
    have x1 : x % 10000000000037 < 10000000000037 := Int.emod_lt_of_pos _ (by decide)
    have nb : (m + x % 10000000000037 + 911 * (i : Int)).natAbs < 2 ^ 64 := by omega
    have pk : powOk (m + x % 10000000000037 + 911 * (i : Int)) 3 = true := powOk_s (by decide) (by decide) nb
    have w1 : Wid 911 := by decide
    have w2 : Wid (i : Int) := wid_of (by omega)
    refine ⟨_, [.val (.dat (.list (ns.map .int))), .val (.ls (gs.map .int)), .val (.dat (.int (((m + x % 10000000000037 + 911 * (i : Int)) ^ 3 + i) % 999999999999999989))), .val (.dat (.int i))], e1, .inl ?_, .val (.dat (.int i)), _, _, rfl, .inr ⟨_, rfl⟩, by omega, hpos, Int.emod_nonneg _ (by decide), Int.lt_trans (Int.emod_lt_of_pos _ (by decide)) (by decide)⟩
    simp [L1_begun, ex, c, pk, w1, w2]
theorem begun_ok (ns : List Int) (h63 : ns.length ≤ 63) : ∃ es, Src 0 es ∧ F_begun [.dat (.list (ns.map .int))] = .ok (.ls es) [.no] := by
  obtain ⟨ρ', h1, s3, gs, m, rfl, _, hl, hpos, m0, m1⟩ := loop_rng0 (t := nmT 3) (body := L1_begun) (n := ns.length) (ρ := [.val (.dat (.list (ns.map .int))), .val (.ls []), .val (.dat (.int 7310581)), .no]) (Beg ns) ⟨.no, [], 7310581, rfl, .inl rfl, Nat.le_refl 0, (fun _ z => nomatch z), by decide, by decide⟩ (fun i ρ hi h => begun_step ns i ρ h63 hi h)
  refine ⟨[.list (gs.map .int), .int 0, .int 0, .int m, .int 0], ⟨gs, 0, 0, m, 0, rfl, by omega, hpos, by omega, by omega, by omega, m0, m1, by omega, by omega⟩, ?_⟩
  have hz : rngB (ns.length : Int) = true := rngB_of (by omega) (by omega)
  simp [F_begun, x_def, x_entry, x_leave, B_begun, hz, h1]
end Fn

namespace Fn
open PySem PySem.Spec PyProof.Rows L2 Ww Vs
/-! ### alike: the same data -/
@[simp] theorem isA_s (t n : String) : isA t n = (t == n || (t == "bool" && n == "int")) := rfl
theorem alike_loop (F : FF) (d e : PyData) (s2 s3 : Sl) : ∀ (ds : List PyData), (∀ x ∈ ds, F [.dat x, .dat x] = .ok (.dat (.bool true)) [.no, .no]) → (s2 = .no ∨ ∃ x, s2 = .val (.dat x)) → (s3 = .no ∨ ∃ x, s3 = .val (.dat x)) →
    ∃ u v, loopF (tupT 2 (consTs (nmT 2) (consTs (nmT 3) (nilTs)))) (L1_alike F) ((ds.zip ds).map fun z => .tuple [z.1, z.2]) [.val (.dat d), .val (.dat e), s2, s3] = .nx [.val (.dat d), .val (.dat e), u, v]
  | [], _, _, _ => ⟨s2, s3, rfl⟩
  | x :: ds, h, h2, h3 => by
    obtain ⟨u, v, ih⟩ := alike_loop F d e (.val (.dat x)) (.val (.dat x)) ds (fun y hy => h y (List.mem_cons_of_mem _ hy)) (.inr ⟨_, rfl⟩) (.inr ⟨_, rfl⟩)
    refine ⟨u, v, ?_⟩
    have hx := h x List.mem_cons_self
    have b : L1_alike F [.val (.dat d), .val (.dat e), .val (.dat x), .val (.dat x)] = .nx [.val (.dat d), .val (.dat e), .val (.dat x), .val (.dat x)] := by simp [L1_alike, hx]
    rw [List.zip_cons_cons, List.map_cons, x_loop_cons]
    rcases h2 with rfl | ⟨_, rfl⟩ <;> rcases h3 with rfl | ⟨_, rfl⟩ <;> simp [b, ih]
theorem alike_ok : ∀ (n : Nat) (d : PyData), Gd n d → F_alike n [.dat d, .dat d] = .ok (.dat (.bool true)) [.no, .no]
  | 0, d, h => h.elim
  | n + 1, .none, _ => by simp [F_alike, x_def, x_entry, x_leave, B_alike]
  | n + 1, .bool b, _ => by simp [F_alike, x_def, x_entry, x_leave, B_alike]
  | n + 1, .int b, _ => by simp [F_alike, x_def, x_entry, x_leave, B_alike]
  | n + 1, .str b, _ => by simp [F_alike, x_def, x_entry, x_leave, B_alike]
  | n + 1, .list ds, h => by
    obtain ⟨u, v, e⟩ := alike_loop (F_alike n) (.list ds) (.list ds) .no .no ds (fun x hx => alike_ok n x (h.2 x hx)) (.inl rfl) (.inl rfl)
    simp [F_alike, x_def, x_entry, x_leave, B_alike, e]
  | n + 1, .tuple ds, h => by
    obtain ⟨u, v, e⟩ := alike_loop (F_alike n) (.tuple ds) (.tuple ds) .no .no ds (fun x hx => alike_ok n x (h.2 x hx)) (.inl rfl) (.inl rfl)
    simp [F_alike, x_def, x_entry, x_leave, B_alike, e]
  | n + 1, .dict _, h => h.elim
/-! ### a pool of letters -/
theorem allStr_map (ys : List Str) : allStr (ys.map .str) = some ys := by
  induction ys with
  | nil => rfl
  | cons y ys ih => simp [allStr, ih]
def PoolI (n : Nat) (i : Nat) (acc : List PyData) (ρ : En) : Prop := ∃ (es : List PyData) (ys : List Str) (r : Int), Src (n + i) es ∧ ρ = [.bor (.ls es), .val (.dat (.str "abcdefghijklmnopqrstuvwxyz")), .val (.dat (.int r)), .no] ∧ acc = ys.map .str ∧ ys.length = i ∧ ∀ y ∈ ys, Let y
theorem pool_ok (n : Nat) (ds : List PyData) (hs : Src n ds) (hn : n ≤ 900000) : ∃ (t : Str) (es : List PyData), AllLet t ∧ 1 ≤ t.length ∧ t.length ≤ 7 ∧ Src (n + 9) es ∧ F_pool [.ls ds] = .ok (.dat (.str t)) [.bor (.ls es)] := by
  obtain ⟨r1, es1, a0, a1, s1, e1⟩ := pick_ok n ds 3 hs (by omega) (by decide) (by decide)
  obtain ⟨m, hm, m0, m1⟩ : ∃ m : Int, atI [PyData.int 1, .int 3, .int 7] r1 = some (.int m) ∧ 1 ≤ m ∧ m ≤ 7 := by
    obtain ⟨v, hv, hm⟩ := atI_mem (xs := [PyData.int 1, .int 3, .int 7]) a0 a1
    simp only [List.mem_cons, List.not_mem_nil, or_false] at hm
    rcases hm with rfl | rfl | rfl
    · exact ⟨1, hv, by decide, by decide⟩
    · exact ⟨3, hv, by decide, by decide⟩
    · exact ⟨7, hv, by decide, by decide⟩
  obtain ⟨r2, es2, b0, b1, s2, e2⟩ := pick_ok (n + 1) es1 m s1 (by omega) (by omega) (by omega)
  have hI : PoolI (n + 2) 0 [] [.bor (.ls es2), .val (.dat (.str "abcdefghijklmnopqrstuvwxyz")), .val (.dat (.int (1 + r2))), .no] := ⟨es2, [], _, s2, rfl, rfl, rfl, fun _ z => nomatch z⟩
  obtain ⟨xs, ρ', h1, es3, ys, r3, s3, rfl, rfl, hl, hy⟩ := lcL_inv (t := nmT 3) (e := ixS 1 (callF F_pick (lendC 0 (consC (aD (cF (.int 26))) (nilC))))) (own := [3]) (PoolI (n + 2)) (ds := (List.range (1 + r2).toNat).map fun i : Nat => .int (i : Int)) (k := 0) hI (by
    rintro i d acc ρ hd hi ⟨es, ys, r, sI, rfl, rfl, hl, hy⟩
    rw [List.length_map, List.length_range] at hi
    obtain ⟨j, _, rfl⟩ := List.mem_map.mp hd
    obtain ⟨r4, es4, c0, c1, s4, e4⟩ := pick_ok (n + 2 + i) es 26 sI (by omega) (by decide) (by decide)
    obtain ⟨c, hc, lc⟩ := abc_all.at c0 (by rw [abc_len]; exact c1)
    have ec : atI (Str.ofString "abcdefghijklmnopqrstuvwxyz").cps.toList r4 = some c := by
      unfold atI
      rw [ixN_of c0 (by rw [← len_cps, abc_len]; exact c1)]
      simpa using hc
    have sm : small (Str.ofString "abcdefghijklmnopqrstuvwxyz").length = true := by rw [abc_len]; rfl
    refine ⟨[.bor (.ls es), .val (.dat (.str "abcdefghijklmnopqrstuvwxyz")), .val (.dat (.int r)), .val (.dat (.int j))], [.bor (.ls es4), .val (.dat (.str "abcdefghijklmnopqrstuvwxyz")), .val (.dat (.int r)), .val (.dat (.int j))], .dat (.str ⟨#[c]⟩), .str ⟨#[c]⟩, by simp, ?_, rfl, es4, ys ++ [⟨#[c]⟩], r, s4, by simp, by simp, by simp [hl], fun y m => ?_⟩
    · simp [e4, sm, ec, -Array.getElem?_toList]
    · rcases List.mem_append.mp m with z | z
      · exact hy y z
      · rw [List.mem_singleton.mp z]
        exact lc)
  rw [List.length_map, List.length_range] at hl
  refine ⟨Txt.join (Str.ofString "") ys, es3, join_all hy, by rw [join_len hy]; omega, by rw [join_len hy]; omega, ?_, ?_⟩
  · refine s3.le ?_
    rw [List.length_map, List.length_range]
    omega
  · have hr : rngB (1 + r2) = true := rngB_of (by omega) (by omega)
    have hz : small (1 + r2).toNat = true := small_of (by omega)
    have hj : joinO (.dat (.str (Str.ofString ""))) (.ls (ys.map .str)) = some (.dat (.str (Txt.join (Str.ofString "") ys))) := by
      show ((some (ys.map PyData.str)).bind allStr).bind _ = _
      rw [Option.bind_some, allStr_map, Option.bind_some, if_pos (let_small hy (by omega))]
    simp [F_pool, x_def, x_entry, x_leave, B_pool, e1, e2, hm, hr, hz, h1, hj]
/-! ### a kind grown -/
def Pool (t : Str) : Prop := AllLet t ∧ 1 ≤ t.length ∧ t.length ≤ 14
def Forms (fs : List Str) : Prop := fs ≠ [] ∧ fs.length ≤ 10 ∧ ∀ f ∈ fs, Form f
theorem grown_ok : ∀ (n : Nat) (c : Nat) (ds : List PyData) (most deep : Int) (fs : List Str) (t : Str), Src c ds → c + 3 * most.toNat ≤ 900000 → Forms fs → Pool t → 1 ≤ most → most ≤ 20 → 1 ≤ deep → deep ≤ n →
    ∃ (k : Kd) (es : List PyData), k.ok ∧ (k.deep : Int) ≤ deep ∧ (k.letters.length : Int) ≤ most ∧ Src (c + 3 * most.toNat - 2) es ∧
      F_grown n [.ls ds, .dat (.int most), .dat (.int deep), .dat (.list (fs.map .str)), .dat (.str t)] = .ok (.dat k.dat) [.bor (.ls es), .no, .no, .no, .no]
  | 0, c, ds, most, deep, fs, t, _, _, _, _, _, _, h1, h2 => by omega
  | n + 1, c, ds, most, deep, fs, t, hs, hc, hf, ht, m1, m2, d1, d2 => by
    obtain ⟨ta, t1, t14⟩ := ht
    have sm : small t.length = true := small_of (by omega)
    by_cases cc : most < 2 ∨ deep < 2
    · obtain ⟨r, es, a0, a1, s1, e1⟩ := pick_ok c ds t.length hs (by omega) (by omega) (by omega)
      obtain ⟨x, hx, lx⟩ := ta.at a0 a1
      have ec : atI t.cps.toList r = some x := by
        unfold atI
        rw [ixN_of a0 (by rw [← len_cps]; exact a1)]
        simpa using hx
      refine ⟨.pl ⟨#[x]⟩, es, lx, by show (1 : Int) ≤ deep; omega, by show (1 : Int) ≤ most; omega, s1.le (by omega), ?_⟩
      by_cases c1 : most < 2
      · simp [F_grown, x_def, x_entry, x_leave, B_grown, c1, sm, e1, ec]
      · have c2 : deep < 2 := cc.resolve_left c1
        simp [F_grown, x_def, x_entry, x_leave, B_grown, c1, c2, sm, e1, ec]
    · have c1 : ¬ most < 2 := fun z => cc (.inl z)
      have c2 : ¬ deep < 2 := fun z => cc (.inr z)
      obtain ⟨f0, f10, hform⟩ := hf
      have fpos : 0 < fs.length := List.length_pos_iff.mpr f0
      obtain ⟨r, es1, a0, a1, s1, e1⟩ := pick_ok c ds fs.length hs (by omega) (by omega) (by omega)
      obtain ⟨f, hf1, hf2⟩ := atI_of (xs := fs) a0 a1
      have hfm : Form f := hform f (List.mem_of_getElem? hf2)
      have ef : atI (fs.map PyData.str) r = some (.str f) := by
        unfold atI
        rw [ixN_of a0 (by rw [List.length_map]; exact a1)]
        simp [hf2]
      obtain ⟨q, es2, b0, b1, s2, e2⟩ := pick_ok (c + 1) es1 (most - 1) s1 (by omega) (by omega) (by omega)
      obtain ⟨k1, es3, o3, d3, l3, s3, e3⟩ := grown_ok n (c + 2) es2 (1 + q) (deep - 1) fs t s2 (by omega) ⟨f0, f10, hform⟩ ⟨ta, t1, t14⟩ (by omega) (by omega) (by omega) (by omega)
      obtain ⟨k2, es4, o4, d4, l4, s4, e4⟩ := grown_ok n _ es3 (most - (1 + q)) (deep - 1) fs t s3 (by omega) ⟨f0, f10, hform⟩ ⟨ta, t1, t14⟩ (by omega) (by omega) (by omega) (by omega)
      refine ⟨.nd f k1 k2, es4, ⟨hfm, o3, o4⟩, ?_, ?_, s4.le (by omega), ?_⟩
      · show ((1 + max k1.deep k2.deep : Nat) : Int) ≤ deep
        omega
      · show ((k1.letters ++ k2.letters).length : Int) ≤ most
        rw [List.length_append]
        omega
      · simp [F_grown, x_def, x_entry, x_leave, B_grown, c1, c2, e1, ef, e2, e3, e4]
/-! ### the places of its letters -/
def rowD (x : Str × Int) : PyData := .tuple [.str x.1, .int x.2]
def kiD (x : Kd × Int) : PyData := .tuple [x.1.dat, .int x.2]
@[simp] theorem y_d_list (ds : List PyData) : (PyData.list ds).depth = PyData.depthAll ds + 1 := rfl
@[simp] theorem y_d_tuple (ds : List PyData) : (PyData.tuple ds).depth = PyData.depthAll ds + 1 := rfl
@[simp] theorem y_d_nil : PyData.depthAll [] = 0 := rfl
@[simp] theorem y_d_cons (d : PyData) (ds : List PyData) : PyData.depthAll (d :: ds) = max d.depth (PyData.depthAll ds) := rfl
@[simp] theorem y_e_nil : PyData.eqv (.list []) (.list []) = true := rfl
@[simp] theorem y_e_nil2 (d : PyData) (ds : List PyData) : PyData.eqv (.list (d :: ds)) (.list []) = false := rfl
theorem y_e_snoc (d : PyData) (ds : List PyData) : PyData.eqv (.list (ds ++ [d])) (.list []) = false := by cases ds <;> rfl
@[simp] theorem y_snoc (d : PyData) (ds : List PyData) : PyData.eqv (.list (ds ++ [d])) (.list []) = false := y_e_snoc d ds
@[simp] theorem min_le1 (a : Nat) : min a (0 + 1) ≤ 64 := by omega
def PlI (k : Kd) (m : Nat) (ρ : En) : Prop := ∃ (done : List (Str × Int)) (st : List (Kd × Int)) (s3 s4 : Sl), ρ = [.val (.dat k.dat), .val (.ls (done.map rowD)), .val (.ls (st.reverse.map kiD)), s3, s4] ∧ m = (st.map fun x => x.1.wt).sum ∧
  done ++ (st.flatMap fun x => x.1.places x.2) = k.places 1 ∧ (∀ x ∈ st, x.1.ok) ∧ Fr s3 ∧ Fr s4
theorem places_ok (k : Kd) (ok : k.ok) (hz : k.letters.length ≤ 1000) : F_places [.dat k.dat] = .ok (.ls ((k.places 1).map rowD)) [.no] := by
  obtain ⟨ρ', h1, s3, s4, rfl⟩ := while_inv (t := (tstF (op2 neO (slotF 2) (tmpF (lstF (nilA)))))) (body := L1_places) (PlI k) (fun ρ => ∃ s3 s4, ρ = [.val (.dat k.dat), .val (.ls ((k.places 1).map rowD)), .val (.ls []), s3, s4]) (by
    rintro m ρ ⟨done, st, s3, s4, rfl, rfl, hall, hok, h3, h4⟩
    have lall := congrArg List.length hall
    rw [List.length_append, k.places_len] at lall
    cases st with
    | nil =>
      rw [List.flatMap_nil, List.append_nil] at hall
      refine .inl ⟨_, ?_, s3, s4, rfl⟩
      simp [hall]
    | cons x st =>
      obtain ⟨kx, d⟩ := x
      have lst := places_flat st
      have hz1 : small (done.length + 1) = true := small_of (by rw [List.flatMap_cons, List.length_append] at lall; omega)
      have hz2 : small (st.length + 1) = true := small_of (by rw [List.flatMap_cons, List.length_append] at lall; omega)
      have hz3 : small (st.length + 1 + 1) = true := small_of (by rw [List.flatMap_cons, List.length_append] at lall; have := kx.letters_pos; rw [← kx.places_len d] at this; omega)
      have hk := hok (kx, d) List.mem_cons_self
      have hst := fun x hx => hok x (List.mem_cons_of_mem _ hx)
      have t0 : (tstF (op2 neO (slotF 2) (tmpF (lstF (nilA))))) [.val (.dat k.dat), .val (.ls (done.map rowD)), .val (.ls (((kx, d) :: st).reverse.map kiD)), s3, s4] = .ok true [.val (.dat k.dat), .val (.ls (done.map rowD)), .val (.ls (((kx, d) :: st).reverse.map kiD)), s3, s4] := by simp
      cases kx with
      | pl s =>
        refine .inr ⟨_, [.val (.dat k.dat), .val (.ls ((done ++ [(s, d)]).map rowD)), .val (.ls (st.reverse.map kiD)), .val (.dat (Kd.pl s).dat), .val (.dat (.int d))], _, t0, ?_, ?_, done ++ [(s, d)], st, _, _, rfl, rfl, ?_, hst, .val, .val⟩
        · simp [L1_places, x_fr h3, x_fr h4, hz1, rowD, kiD]
        · simp [Kd.wt]
        · rw [← hall]
          simp [Kd.places]
      | nd f a b =>
        obtain ⟨hf, oa, ob⟩ := hk
        refine .inr ⟨_, [.val (.dat k.dat), .val (.ls (done.map rowD)), .val (.ls (((a, d + 1) :: (b, d + 1) :: st).reverse.map kiD)), .val (.dat (Kd.nd f a b).dat), .val (.dat (.int d))], _, t0, ?_, ?_, done, (a, d + 1) :: (b, d + 1) :: st, _, _, rfl, rfl, ?_, ?_, .val, .val⟩
        · simp [L1_places, x_fr h3, x_fr h4, hz2, hz3, kiD, form_ne hf]
        · simp [Kd.wt]
          omega
        · rw [← hall]
          simp [Kd.places]
        · intro x hx
          rcases List.mem_cons.mp hx with rfl | hx
          · exact oa
          · rcases List.mem_cons.mp hx with rfl | hx
            · exact ob
            · exact hst x hx) (m := k.wt) (ρ := [.val (.dat k.dat), .val (.ls []), .val (.ls [kiD (k, 1)]), .no, .no]) ⟨[], [(k, 1)], .no, .no, rfl, by simp, by simp, by simpa using ok, .no, .no⟩
  simp only [kiD] at h1
  simp [F_places, x_def, x_entry, x_leave, B_places, h1]
end Fn

namespace Fn
open PySem PySem.Spec PyProof.Rows L2 Ww Vs
/-! ### tables of kinds -/
def tabD (t : List (Str × Kd)) : List (L2.Key × PyData) := t.map fun x => (.inr x.1, x.2.dat)
theorem valD_nil (k : L2.Key) : valD [] k = none := rfl
theorem valD_cons (x : L2.Key × PyData) (r : List (L2.Key × PyData)) (k : L2.Key) : valD (x :: r) k = if x.1 = k then some x.2 else valD r k := by
  unfold valD
  rw [List.find?_cons]
  by_cases h : x.1 = k
  · simp [h]
  · simp [h]
theorem valD_tab (s : Str) : ∀ t : List (Str × Kd), valD (tabD t) (.inr s) = (t.lookup s).map Kd.dat
  | [] => rfl
  | (a, k) :: t => by
    show valD ((.inr a, k.dat) :: tabD t) (.inr s) = _
    rw [valD_cons, valD_tab s t, List.lookup_cons]
    by_cases h : a = s
    · subst h
      simp
    · have h2 : (s == a) = false := by simpa using fun z => h z.symm
      simp [h, h2]
/-- parts by a table -/
def Kd.sub (σ : Str → Kd) : Kd → Kd
  | .pl s => σ s
  | .nd f a b => .nd f (sub σ a) (sub σ b)
def tau (t : List (Str × Kd)) (s : Str) : Kd := (t.lookup s).getD (.pl s)
theorem put_ok (t : List (Str × Kd)) : ∀ (n : Nat) (k : Kd), k.ok → k.deep ≤ n → F_put n [.dat k.dat, .dk (tabD t)] = .ok (.dat (Kd.sub (tau t) k).dat) [.no, .bor (.dk (tabD t))]
  | 0, k, _, h => by have := k.deep_pos; omega
  | n + 1, .pl s, ok, h => by
    have e : ((t.lookup s).map Kd.dat).getD (Kd.pl s).dat = (tau t s).dat := by
      unfold tau
      cases t.lookup s <;> rfl
    rw [y_k_pl] at e
    simp [F_put, x_def, x_entry, x_leave, B_put, valD_tab, e, Kd.sub]
  | n + 1, .nd f a b, ⟨hf, oa, ob⟩, h => by
    have dm : 1 + max a.deep b.deep ≤ n + 1 := h
    have ea := put_ok t n a oa (by omega)
    have eb := put_ok t n b ob (by omega)
    simp [F_put, x_def, x_entry, x_leave, B_put, form_ne hf, ea, eb, Kd.sub]
/-! ### both share -/
def PB (x : Kd × Kd) : Prop := x.1.ok ∧ x.2.ok ∧ x.1.deep ≤ 40 ∧ x.2.deep ≤ 40
theorem pd_lay {x : Kd × Kd} (h : PB x) : (pd x).canLay0 = true ∧ (pd x).depth ≤ 45 := by
  refine ⟨?_, ?_⟩
  · show (x.1.dat.canLay0 && (x.2.dat.canLay0 && true)) = true
    rw [Kd.lay h.1, Kd.lay h.2.1]
    rfl
  · show max x.1.dat.depth (max x.2.dat.depth 0) + 1 ≤ 45
    rw [Kd.dat_depth, Kd.dat_depth]
    have := h.2.2.1
    have := h.2.2.2
    omega
theorem pds_lay : ∀ {ps : List (Kd × Kd)}, (∀ x ∈ ps, PB x) → PyData.canLayAll0 (ps.map pd) = true ∧ PyData.depthAll (ps.map pd) ≤ 45
  | [], _ => ⟨rfl, by decide⟩
  | x :: ps, h => by
    obtain ⟨h1, h2⟩ := pds_lay fun y hy => h y (List.mem_cons_of_mem _ hy)
    obtain ⟨g1, g2⟩ := pd_lay (h x List.mem_cons_self)
    refine ⟨?_, ?_⟩
    · show ((pd x).canLay0 && PyData.canLayAll0 (ps.map pd)) = true
      rw [g1, h1]
      rfl
    · show max (pd x).depth (PyData.depthAll (ps.map pd)) ≤ 45
      omega
theorem idx_pd {ps : List (Kd × Kd)} {x : Kd × Kd} (h : ∀ y ∈ ps, PB y) (hx : x ∈ ps) : idxO (.ls (ps.map pd)) (.dat (pd x)) = some (.dat (.int ((idxP ps x : Nat) : Int))) := by
  have s1 : SeqAt.shaped (.list (ps.map pd)) = true := shaped_list (pds_lay h).1 (by have := (pds_lay h).2; omega)
  have s2 : SeqAt.shaped (pd x) = true := by
    show ((pd x).canLay0 && decide ((pd x).depth ≤ 64)) = true
    rw [(pd_lay (h x hx)).1, decide_eq_true (by have := (pd_lay (h x hx)).2; omega)]
    rfl
  show (if SeqAt.shaped (.list (ps.map pd)) = true ∧ SeqAt.shaped (pd x) = true then _ else none) = _
  rw [if_pos ⟨s1, s2⟩]
  have e : (ps.map pd).findIdx? (fun z => PyData.eqv z (pd x)) = some (idxP ps x) := by
    rw [List.findIdx?_map]
    have l := idxP_lt hx
    have : ps.findIdx? (same2 x) = some (ps.findIdx (same2 x)) := by
      rw [List.findIdx?_eq_some_iff_findIdx_eq]
      exact ⟨l, rfl⟩
    exact this
  rw [e]
  rfl
theorem any_pd (ps : List (Kd × Kd)) (x : Kd × Kd) : ((ps.map pd).any fun z => PyData.eqv z (pd x)) = ps.any (same2 x) := by
  rw [List.any_map]
  rfl
theorem nin_pd {ps : List (Kd × Kd)} {x : Kd × Kd} (hx : PB x) : ninO (.dat (pd x)) (.ls (ps.map pd)) = some (.dat (.bool (!ps.any (same2 x)))) := by
  rw [x_nin_3, if_pos (by have := (pd_lay hx).2; omega), any_pd]
  rfl
theorem abc_at {i : Nat} (h : i < 26) : atI (Str.ofString "abcdefghijklmnopqrstuvwxyz").cps.toList (i : Int) = some (97 + i) := by
  have e : (Str.ofString "abcdefghijklmnopqrstuvwxyz").cps.toList = List.range' 97 26 := by decide +kernel
  rw [e, x_atN _ _ (by rw [List.length_range']; exact h), List.getElem_range']
  simp
theorem abc_small : small (Str.ofString "abcdefghijklmnopqrstuvwxyz").length = true := by rw [abc_len]; rfl
def plS (n : Nat) : List PyData := [.str "plain", .str (letAt n)]
/-- the end of both_share: a pair that is a letter -/
def Leaf (k o : Kd) (p : List (Kd × Kd)) : Prop := shr k o p = (.pl (letAt (idxP (addP p (k, o)) (k, o))), addP p (k, o))
theorem share_leaf (F : FF) (n : Nat) (k o : Kd) (p : List (Kd × Kd)) (hp : ∀ x ∈ p, PB x) (hb : PB (k, o)) (hl : p.length + 1 ≤ 26)
    (h1 : andT (tstF (op2 eqO (tmpF (ixS 0 (cF (.int 0)))) (tmpF (ixS 1 (cF (.int 0)))))) (tstF (op2 neO (tmpF (ixS 0 (cF (.int 0)))) (tmpF (cF (.str "plain"))))) [.val (.dat k.dat), .val (.dat o.dat), .bor (.ls (p.map pd))] = .ok false [.val (.dat k.dat), .val (.dat o.dat), .bor (.ls (p.map pd))]) :
    B_both_share F [.val (.dat k.dat), .val (.dat o.dat), .bor (.ls (p.map pd))] = .rt (.dat (Kd.pl (letAt (idxP (addP p (k, o)) (k, o)))).dat) [.val (.dat k.dat), .val (.dat o.dat), .bor (.ls ((addP p (k, o)).map pd))] := by
  have e1 := nin_pd (ps := p) hb
  have hpb : ∀ x ∈ addP p (k, o), PB x := fun x hx => by
    unfold addP at hx
    split at hx
    · exact hp x hx
    · rcases List.mem_append.mp hx with z | z
      · exact hp x z
      · rw [List.mem_singleton.mp z]
        exact hb
  have e2 := idx_pd hpb (addP_mem p (k, o))
  have l2 := idxP_lt (addP_mem p (k, o))
  have l3 := addP_len p (k, o)
  have e3 := abc_at (i := idxP (addP p (k, o)) (k, o)) (by omega)
  have hz : small (p.length + 1) = true := small_of (by omega)
  have ep : pd (k, o) = .tuple [k.dat, o.dat] := rfl
  rw [ep] at e1 e2
  have el : (⟨#[97 + idxP (addP p (k, o)) (k, o)]⟩ : Str) = letAt (idxP (addP p (k, o)) (k, o)) := rfl
  unfold B_both_share
  rw [x_seqS, x_ifS, h1]
  by_cases c : p.any (same2 (k, o)) = true
  · have ea : addP p (k, o) = p := by unfold addP; rw [if_pos c]
    rw [ea] at e2 e3 el ⊢
    simp [e1, e2, e3, el, c, abc_small]
  · have ea : addP p (k, o) = p ++ [(k, o)] := by unfold addP; rw [if_neg c]
    have c2 : p.any (same2 (k, o)) = false := by simpa using c
    rw [ea, List.map_append, List.map_singleton, ep] at e2
    rw [ea] at e3 el
    rw [ea, List.map_append, List.map_singleton, ep]
    simp [e1, e2, e3, el, c2, abc_small, hz]
end Fn

namespace Fn
open PySem PySem.Spec PyProof.Rows L2 Ww Vs
theorem Form.neP {f : Str} (h : Form f) : f ≠ Str.ofString "plain" := fun z => by
  have := form_ne h
  rw [z] at this
  simp at this
theorem share_pb : ∀ (k o : Kd) (p : List (Kd × Kd)), (∀ x ∈ p, PB x) → PB (k, o) → ∀ x ∈ (shr k o p).2, PB x := by
  have leaf : ∀ (k o : Kd) (p : List (Kd × Kd)), (∀ x ∈ p, PB x) → PB (k, o) → ∀ x ∈ addP p (k, o), PB x := fun k o p hp hb x hx => by
    unfold addP at hx
    split at hx
    · exact hp x hx
    · rcases List.mem_append.mp hx with z | z
      · exact hp x z
      · rw [List.mem_singleton.mp z]
        exact hb
  intro k
  induction k with
  | pl s => exact fun o p hp hb => leaf _ _ p hp hb
  | nd f a b iha ihb =>
    intro o p hp hb
    cases o with
    | pl t => exact leaf _ _ p hp hb
    | nd g c d =>
      unfold shr
      split
      · obtain ⟨⟨_, oa, ob⟩, ⟨_, oc, od⟩, h1, h2⟩ := hb
        have h1 : 1 + max a.deep b.deep ≤ 40 := h1
        have h2 : 1 + max c.deep d.deep ≤ 40 := h2
        exact ihb d _ (iha c p hp ⟨oa, oc, by show a.deep ≤ 40; omega, by show c.deep ≤ 40; omega⟩) ⟨ob, od, by show b.deep ≤ 40; omega, by show d.deep ≤ 40; omega⟩
      · exact leaf _ _ p hp hb
theorem share_ok : ∀ (n : Nat) (k o : Kd) (p : List (Kd × Kd)), (∀ x ∈ p, PB x) → PB (k, o) → k.deep ≤ n → p.length + k.letters.length ≤ 26 →
    F_both_share n [.dat k.dat, .dat o.dat, .ls (p.map pd)] = .ok (.dat (shr k o p).1.dat) [.no, .no, .bor (.ls ((shr k o p).2.map pd))]
  | 0, k, o, p, _, _, h, _ => by have := k.deep_pos; omega
  | n + 1, .pl s, o, p, hp, hb, h, hl => by
    have b := share_leaf (F_both_share n) 0 (.pl s) o p hp hb hl (by cases o <;> simp)
    simp [F_both_share, x_def, x_entry, x_leave] at b ⊢
    rw [b]
    simp [shr, x_leave]
  | n + 1, .nd f a b, .pl t, p, hp, hb, h, hl => by
    have hf : Form f := hb.1.1
    have := (Kd.nd f a b).letters_pos
    have hn := form_ne hf
    have b := share_leaf (F_both_share n) 0 (.nd f a b) (.pl t) p hp hb (by omega) (by simp [Form.neP hf])
    simp [F_both_share, x_def, x_entry, x_leave] at b ⊢
    rw [b]
    simp [shr, x_leave]
  | n + 1, .nd f a b, .nd g c d, p, hp, hb, h, hl => by
    have hf : Form f := hb.1.1
    have hpos := (Kd.nd f a b).letters_pos
    by_cases e : f = g
    · subst e
      have pbs := share_pb a c p hp
      obtain ⟨⟨_, oa, ob⟩, ⟨_, oc, od⟩, h1, h2⟩ := hb
      have h1 : 1 + max a.deep b.deep ≤ 40 := h1
      have h2 : 1 + max c.deep d.deep ≤ 40 := h2
      have dm : 1 + max a.deep b.deep ≤ n + 1 := h
      have hl : p.length + (a.letters ++ b.letters).length ≤ 26 := hl
      rw [List.length_append] at hl
      have pb1 : PB (a, c) := ⟨oa, oc, by show a.deep ≤ 40; omega, by show c.deep ≤ 40; omega⟩
      have pb2 : PB (b, d) := ⟨ob, od, by show b.deep ≤ 40; omega, by show d.deep ≤ 40; omega⟩
      have l1 := shr_len a c p
      have e1 := share_ok n a c p hp pb1 (by omega) (by omega)
      have e2 := share_ok n b d (shr a c p).2 (pbs pb1) pb2 (by omega) (by omega)
      have er : shr (.nd f a b) (.nd f c d) p = (.nd f (shr a c p).1 (shr b d (shr a c p).2).1, (shr b d (shr a c p).2).2) := by rw [shr, if_pos rfl]
      rw [er]
      simp [F_both_share, x_def, x_entry, x_leave, B_both_share, form_ne hf, e1, e2, Form.neP hf]
    · have e2 : (f == g) = false := by simpa using e
      have b := share_leaf (F_both_share n) 0 (.nd f a b) (.nd g c d) p hp hb (by omega) (by simp [e])
      simp [F_both_share, x_def, x_entry, x_leave] at b ⊢
      rw [b]
      simp [shr, e, x_leave]
theorem common_ok (k o : Kd) (hb : PB (k, o)) (d1 : k.deep ≤ 30) (d2 : o.deep ≤ 30) (hl : k.letters.length ≤ 26) : F_common [.dat k.dat, .dat o.dat] = .ok (.dat (shr k o []).1.dat) [.no, .no] := by
  have e1 := checked_kinds_ok [k, o] fun z hz => by
    rcases List.mem_cons.mp hz with rfl | hz
    · exact ⟨hb.1, d1⟩
    · rw [List.mem_singleton.mp hz]
      exact ⟨hb.2.1, d2⟩
  have e2 := share_ok 30 k o [] (fun _ z => nomatch z) hb d1 (by simpa using hl)
  simp at e1 e2
  simp [F_common, x_def, x_entry, x_leave, B_common, e1, e2]
/-! ### matches: when the one is the other by a table -/
theorem con_mid {t x y : List (Str × Kd)} (h : Con (t ++ (x ++ y))) : Con (t ++ x) := h.sub fun z hz => by
  rcases List.mem_append.mp hz with z | z
  · exact List.mem_append_left _ z
  · exact List.mem_append_right _ (List.mem_append_left _ z)
/-- a table is told by its pairs -/
def TabI (t : List (Str × Kd)) (ps : List (Str × Kd)) : Prop := Ww.Good t ∧ ∀ x, x ∈ t ↔ x ∈ ps
theorem lookup_tab : ∀ {t : List (Str × Kd)} (s : Str), (t.lookup s = none → ∀ k, (s, k) ∉ t) ∧ ∀ k, t.lookup s = some k → (s, k) ∈ t
  | [], s => ⟨fun _ _ => by simp, fun _ h => by simp at h⟩
  | (a, x) :: t, s => by
    obtain ⟨h1, h2⟩ := lookup_tab (t := t) s
    rw [List.lookup_cons]
    by_cases h : s = a
    · subst h
      simp
    · have e : (s == a) = false := by simpa using h
      rw [e]
      refine ⟨fun z k m => ?_, fun k z => List.mem_cons_of_mem _ (h2 k z)⟩
      rcases List.mem_cons.mp m with m | m
      · exact h (Prod.mk.inj m).1
      · exact h1 z k m
theorem putD_new {t : List (Str × Kd)} {s : Str} {k : Kd} (h : t.lookup s = none) : putD (tabD t) (.inr s) k.dat = tabD (t ++ [(s, k)]) := by
  unfold putD
  rw [if_neg]
  · simp [tabD]
  · intro z
    obtain ⟨y, hy, e⟩ := List.any_eq_true.mp z
    obtain ⟨w, hw, rfl⟩ := List.mem_map.mp hy
    have e2 : w.1 = s := by simpa using e
    exact (lookup_tab s).1 h w.2 (by rw [← e2]; exact hw)
theorem matches_ok : ∀ (n : Nat) (k o : Kd) (t ps qs : List (Str × Kd)), k.ok → k.deep ≤ n → k.deep ≤ 40 → o.deep ≤ 40 → (∀ x ∈ t, x.2.deep ≤ 40) → TabI t qs → prs k o = some ps → Con (qs ++ ps) → t.length + k.letters.length ≤ 1000 →
    ∃ t', TabI t' (qs ++ ps) ∧ t'.length ≤ t.length + k.letters.length ∧ (∀ x ∈ t', x.2.deep ≤ 40) ∧ F_matches n [.dat k.dat, .dat o.dat, .dk (tabD t)] = .ok (.dat (.bool true)) [.no, .no, .bor (.dk (tabD t'))]
  | 0, k, _, _, _, _, _, h, _, _, _, _, _, _, _ => by have := k.deep_pos; omega
  | n + 1, .pl s, o, t, ps, qs, ok, h, hk4, h4, ht4, hT, hp, hc, hl => by
    have hp : some [(s, o)] = some ps := hp
    cases Option.some.inj hp
    have hd : o.dat.depth ≤ 64 := by rw [o.dat_depth]; omega
    have he : PyData.eqv o.dat o.dat = true := (kd_eqv o o).2 rfl
    have hz : small ((tabD t).length + 1) = true := small_of (by unfold tabD; rw [List.length_map]; have := (Kd.pl s).letters_pos; omega)
    cases hlk : t.lookup s with
    | some x =>
      have hx := (lookup_tab s).2 x hlk
      have ex : x = o := hc s x o (List.mem_append_left _ ((hT.2 _).1 hx)) (List.mem_append_right _ (List.mem_singleton.mpr rfl))
      subst ex
      refine ⟨t, ⟨hT.1, fun y => ?_⟩, by omega, ht4, ?_⟩
      · rw [hT.2, List.mem_append, List.mem_singleton]
        refine ⟨.inl, fun z => z.elim id fun z => ?_⟩
        rw [z]
        exact (hT.2 _).1 hx
      · have hv : valD (tabD t) (.inr s) = some x.dat := by rw [valD_tab, hlk]; rfl
        simp [F_matches, x_def, x_entry, x_leave, B_matches, hv, hz, hd, he]
    | none =>
      have hv : valD (tabD t) (.inr s) = none := by rw [valD_tab, hlk]; rfl
      have hn := (lookup_tab s).1 hlk
      refine ⟨t ++ [(s, o)], ⟨?_, fun y => ?_⟩, ?_, ?_, ?_⟩
      · unfold Ww.Good
        rw [List.map_append, List.nodup_append]
        refine ⟨hT.1, by simp, fun a ha b hb z => ?_⟩
        obtain ⟨w, hw, rfl⟩ := List.mem_map.mp ha
        have hb' : b = s := by simpa using hb
        exact hn w.2 (by rw [← hb', ← z]; exact hw)
      · rw [List.mem_append, List.mem_append, hT.2]
      · rw [List.length_append]
        exact Nat.le_refl _
      · intro y hy
        rcases List.mem_append.mp hy with z | z
        · exact ht4 y z
        · rw [List.mem_singleton.mp z]
          exact h4
      · have hp2 := putD_new (k := o) hlk
        simp [F_matches, x_def, x_entry, x_leave, B_matches, hv, hz, hd, he, hp2]
  | n + 1, .nd f a b, .pl u, t, ps, qs, ok, h, hk4, h4, ht4, hT, hp, hc, hl => nomatch hp
  | n + 1, .nd f a b, .nd g c d, t, ps, qs, ⟨hf, oa, ob⟩, h, hk4, h4, ht4, hT, hp, hc, hl => by
    have hp : (if f = g then (match prs a c, prs b d with
      | some x, some y => some (x ++ y)
      | _, _ => none) else none) = some ps := hp
    by_cases e : f = g
    · subst e
      rw [if_pos rfl] at hp
      have dm : 1 + max a.deep b.deep ≤ n + 1 := h
      have hk4 : 1 + max a.deep b.deep ≤ 40 := hk4
      have h4 : 1 + max c.deep d.deep ≤ 40 := h4
      have hl : t.length + (a.letters ++ b.letters).length ≤ 1000 := hl
      rw [List.length_append] at hl
      cases h1 : prs a c with
      | none => rw [h1] at hp; cases hp
      | some xs =>
        cases h2 : prs b d with
        | none => rw [h1, h2] at hp; cases hp
        | some ys =>
          rw [h1, h2] at hp
          cases Option.some.inj hp
          obtain ⟨t1, T1, l1, d1, e1⟩ := matches_ok n a c t xs qs oa (by omega) (by omega) (by omega) ht4 hT h1 (con_mid hc) (by omega)
          rw [← List.append_assoc] at hc
          obtain ⟨t2, T2, l2, d2, e2⟩ := matches_ok n b d t1 ys (qs ++ xs) ob (by omega) (by omega) (by omega) d1 T1 h2 hc (by omega)
          rw [← List.append_assoc]
          refine ⟨t2, T2, ?_, d2, ?_⟩
          · show t2.length ≤ t.length + (a.letters ++ b.letters).length
            rw [List.length_append]
            omega
          · simp [F_matches, x_def, x_entry, x_leave, B_matches, form_ne hf, e1, e2]
    · rw [if_neg e] at hp
      cases hp
/-! ### puts: something, then -/
theorem strKs_tab : ∀ t : List (Str × Kd), strKs (tabD t) = some (t.map fun x => (x.1, x.2.dat))
  | [] => rfl
  | (s, k) :: t => by
    show strKs ((.inr s, k.dat) :: tabD t) = _
    have hr : isRf k.dat = true := by cases k <;> rfl
    unfold strKs
    rw [if_pos hr, strKs_tab t]
    rfl
theorem puts_ok (k o : Kd) (ps : List (Str × Kd)) (h1 : k.ok) (h2 : o.ok) (d1 : k.deep ≤ 30) (d2 : o.deep ≤ 30) (hl : k.letters.length ≤ 63) (hp : prs k o = some ps) (hc : Con ps) :
    ∃ ds, F_puts [.dat k.dat, .dat o.dat] = .ok (.ls ds) [.no, .no] := by
  have e1 := checked_kinds_ok [k, o] fun z hz => by
    rcases List.mem_cons.mp hz with rfl | hz
    · exact ⟨h1, d1⟩
    · rw [List.mem_singleton.mp hz]
      exact ⟨h2, d2⟩
  obtain ⟨t', T, l, _, e2⟩ := matches_ok 30 k o [] ps [] h1 d1 (by omega) (by omega) (fun _ z => nomatch z) ⟨List.nodup_nil, fun x => Iff.rfl⟩ hp (by simpa using hc) (by simp; omega)
  have e3 : ((t'.map fun x => (x.1, x.2.dat)).map (·.1)).Nodup := by
    rw [List.map_map]
    exact T.1
  have e4 : (t'.map fun x => (x.1, x.2.dat)).length < 64 := by rw [List.length_map]; simp at l; omega
  have e5 : sItems 2 [.val (.dat k.dat), .val (.dat o.dat), .val (.dk (tabD t'))] = .ok (.ls ((sortK (t'.map fun x => (x.1, x.2.dat))).map Vs.pairD)) [.val (.dat k.dat), .val (.dat o.dat), .val (.dk (tabD t'))] := by
    rw [x_sItems]
    show ((some (tabD t')).bind strKs).elim _ _ = _
    rw [Option.bind_some, strKs_tab, Option.elim_some, if_pos ⟨e4, e3⟩]
  refine ⟨(sortK (t'.map fun x => (x.1, x.2.dat))).map Vs.pairD, ?_⟩
  have et : (tabD [] : List (L2.Key × PyData)) = [] := rfl
  rw [et] at e2
  simp only [List.map_cons, List.map_nil] at e1
  simp [F_puts, x_def, x_entry, x_leave, B_puts, e1, e2, -x_sItems, e5]
end Fn

namespace Fn
open PySem PySem.Spec PyProof.Rows L2 Ww Vs
theorem Kd.wt_pos : ∀ k : Kd, 1 ≤ k.wt
  | .pl s => Nat.le_refl 1
  | .nd f a b => by show 1 ≤ 1 + a.wt + b.wt; omega
theorem Kd.wt_le : ∀ k : Kd, k.wt + 1 = 2 * k.letters.length
  | .pl s => rfl
  | .nd f a b => by
    show 1 + a.wt + b.wt + 1 = 2 * (a.letters ++ b.letters).length
    have := wt_le a
    have := wt_le b
    rw [List.length_append]
    omega
theorem wt_len : ∀ st : List (Kd × Kd), st.length ≤ (st.map fun x => x.1.wt).sum
  | [] => Nat.le_refl 0
  | x :: st => by
    have := wt_len st
    have := Kd.wt_pos x.1
    rw [List.map_cons, List.sum_cons, List.length_cons]
    omega
theorem putD_tab (t : List (Str × Kd)) (s : Str) (k : Kd) : ∃ t', putD (tabD t) (.inr s) k.dat = tabD t' ∧ (∀ y ∈ t', y ∈ t ∨ y = (s, k)) ∧ t'.length ≤ t.length + 1 := by
  unfold putD
  split
  · refine ⟨t.map fun x => if x.1 = s then (s, k) else x, ?_, fun y hy => ?_, by rw [List.length_map]; omega⟩
    · unfold tabD
      rw [List.map_map, List.map_map]
      apply List.map_congr_left
      intro x _
      by_cases h : x.1 = s <;> simp [h]
    · obtain ⟨x, hx, rfl⟩ := List.mem_map.mp hy
      split
      · exact .inr rfl
      · exact .inl hx
  · refine ⟨t ++ [(s, k)], by simp [tabD], fun y hy => ?_, by simp⟩
    rcases List.mem_append.mp hy with z | z
    · exact .inl z
    · exact .inr (List.mem_singleton.mp z)
theorem tabD_len (t : List (Str × Kd)) : (tabD t).length = t.length := List.length_map ..
/-- k comes to o by parts -/
def ComI (τ : Str → Kd) (k o : Kd) (W m : Nat) (ρ : En) : Prop := ∃ (st : List (Kd × Kd)) (t : List (Str × Kd)) (s4 s5 : Sl), ρ = [.val (.dat k.dat), .val (.dat o.dat), .val (.dk (tabD t)), .val (.ls (st.reverse.map pd)), s4, s5] ∧ m = (st.map fun x => x.1.wt).sum ∧ t.length + m ≤ W ∧
  (∀ x ∈ st, x.1.ok ∧ x.2 = Kd.sub τ x.1 ∧ x.2.deep ≤ 60) ∧ (∀ x ∈ t, x.2 = τ x.1) ∧ Fr s4 ∧ Fr s5
theorem comes_ok (τ : Str → Kd) (k o : Kd) (ok : k.ok) (e : o = Kd.sub τ k) (hd : o.deep ≤ 60) (hl : k.letters.length ≤ 1000) : F_comes_of [.dat k.dat, .dat o.dat] = .ok (.dat (.bool true)) [.no, .no] := by
  have hw := Kd.wt_le k
  obtain ⟨ρ', h1, t, s4, s5, rfl⟩ := while_inv (t := (tstF (op2 neO (slotF 3) (tmpF (lstF (nilA)))))) (body := L1_comes_of) (ComI τ k o k.wt) (fun ρ => ∃ t s4 s5, ρ = [.val (.dat k.dat), .val (.dat o.dat), .val (.dk (tabD t)), .val (.ls []), s4, s5]) (by
    rintro m ρ ⟨st, t, s4, s5, rfl, rfl, hm, hst, ht, h4, h5⟩
    cases st with
    | nil =>
      refine .inl ⟨_, ?_, t, s4, s5, rfl⟩
      simp
    | cons x st =>
      obtain ⟨kx, ox⟩ := x
      obtain ⟨hk, he, hd⟩ := hst (kx, ox) List.mem_cons_self
      have hk : kx.ok := hk
      have he : ox = Kd.sub τ kx := he
      have hd : ox.deep ≤ 60 := hd
      have hr := fun x hx => hst x (List.mem_cons_of_mem _ hx)
      have lst := wt_len st
      have t0 : (tstF (op2 neO (slotF 3) (tmpF (lstF (nilA))))) [.val (.dat k.dat), .val (.dat o.dat), .val (.dk (tabD t)), .val (.ls (((kx, ox) :: st).reverse.map pd)), s4, s5] = .ok true [.val (.dat k.dat), .val (.dat o.dat), .val (.dk (tabD t)), .val (.ls (((kx, ox) :: st).reverse.map pd)), s4, s5] := by simp
      have hm : t.length + (kx.wt + (st.map fun x => x.1.wt).sum) ≤ k.wt := hm
      have wp := Kd.wt_pos kx
      cases kx with
      | pl s =>
        subst he
        show _ ∨ _
        simp only [Kd.sub] at hd
        have hz : small ((tabD t).length + 1) = true := small_of (by rw [tabD_len]; omega)
        have hg : (((t.lookup s).map Kd.dat).getD (τ s).dat) = (τ s).dat := by
          cases hlk : t.lookup s with
          | none => rfl
          | some x =>
            show x.dat = _
            rw [show x = τ s from ht _ ((lookup_tab s).2 x hlk)]
        have hq : PyData.eqv (τ s).dat (τ s).dat = true := (kd_eqv _ _).2 rfl
        have hdd : (τ s).dat.depth ≤ 64 := by rw [Kd.dat_depth]; omega
        obtain ⟨t', e1, e2, e3⟩ := putD_tab t s (τ s)
        refine .inr ⟨_, [.val (.dat k.dat), .val (.dat o.dat), .val (.dk (tabD t')), .val (.ls (st.reverse.map pd)), .val (.dat (Kd.pl s).dat), .val (.dat (τ s).dat)], _, t0, ?_, ?_, st, t', _, _, rfl, rfl, ?_, hr, fun y hy => ?_, .val, .val⟩
        · simp [L1_comes_of, Kd.sub, pd, x_fr h4, x_fr h5, valD_tab, hg, hq, hdd, hz, e1]
        · show (st.map fun x => x.1.wt).sum < 1 + (st.map fun x => x.1.wt).sum
          omega
        · have : t.length + (1 + (st.map fun x => x.1.wt).sum) ≤ k.wt := hm
          omega
        · rcases e2 y hy with z | z
          · exact ht y z
          · rw [z]
      | nd f a b =>
        obtain ⟨hf, oa, ob⟩ := hk
        subst he
        have hz : small (st.length + 1 + 1) = true := small_of (by omega)
        have hz2 : small (st.length + 2) = true := hz
        have hd : 1 + max (Kd.sub τ a).deep (Kd.sub τ b).deep ≤ 60 := hd
        have hm : t.length + (1 + a.wt + b.wt + (st.map fun x => x.1.wt).sum) ≤ k.wt := hm
        refine .inr ⟨_, [.val (.dat k.dat), .val (.dat o.dat), .val (.dk (tabD t)), .val (.ls (((b, Kd.sub τ b) :: (a, Kd.sub τ a) :: st).reverse.map pd)), .val (.dat (Kd.nd f a b).dat), .val (.dat (Kd.sub τ (Kd.nd f a b)).dat)], _, t0, ?_, ?_, (b, Kd.sub τ b) :: (a, Kd.sub τ a) :: st, t, _, _, rfl, rfl, ?_, ?_, ht, .val, .val⟩
        · simp [L1_comes_of, Kd.sub, pd, x_fr h4, x_fr h5, hz, hz2, form_ne hf]
        · show b.wt + (a.wt + (st.map fun x => x.1.wt).sum) < 1 + a.wt + b.wt + (st.map fun x => x.1.wt).sum
          omega
        · show t.length + (b.wt + (a.wt + (st.map fun x => x.1.wt).sum)) ≤ k.wt
          omega
        · intro x hx
          rcases List.mem_cons.mp hx with rfl | hx
          · exact ⟨ob, rfl, by show (Kd.sub τ b).deep ≤ 60; omega⟩
          · rcases List.mem_cons.mp hx with rfl | hx
            · exact ⟨oa, rfl, by show (Kd.sub τ a).deep ≤ 60; omega⟩
            · exact hr x hx) (m := k.wt) (ρ := [.val (.dat k.dat), .val (.dat o.dat), .val (.dk (tabD [])), .val (.ls [pd (k, o)]), .no, .no]) ⟨[(k, o)], [], .no, .no, rfl, by simp, by simp, fun x hx => by rw [List.mem_singleton.mp hx]; exact ⟨ok, e, hd⟩, (fun _ z => nomatch z), .no, .no⟩
  have et : (tabD [] : List (L2.Key × PyData)) = [] := rfl
  have ep : pd (k, o) = .tuple [k.dat, o.dat] := rfl
  rw [et, ep] at h1
  simp [F_comes_of, x_def, x_entry, x_leave, B_comes_of, h1]
end Fn

namespace Fn
open PySem PySem.Spec PyProof.Rows L2 Ww Vs
def rwD : Str ⊕ (Kd × Kd) → PyData
  | .inl f => .tuple [.str f, .none]
  | .inr x => .tuple [.str "plain", pd x]
theorem rw2_len : ∀ k o : Kd, (rw2 k o).length ≤ k.wt
  | .pl s, o => Nat.le_refl 1
  | .nd f a b, .pl t => by show 1 ≤ 1 + a.wt + b.wt; omega
  | .nd f a b, .nd g c d => by
    have := rw2_len a c
    have := rw2_len b d
    unfold rw2
    split
    · rw [List.length_cons, List.length_append]
      show _ ≤ 1 + a.wt + b.wt
      omega
    · show 1 ≤ 1 + a.wt + b.wt
      omega
def DueI (k o : Kd) (m : Nat) (ρ : En) : Prop := ∃ (st : List (Kd × Kd)) (done : List (Str ⊕ (Kd × Kd))) (s4 s5 : Sl), ρ = [.val (.dat k.dat), .val (.dat o.dat), .val (.ls (done.map rwD)), .val (.ls (st.reverse.map pd)), s4, s5, .no, .no, .no] ∧ m = (st.map fun x => x.1.wt).sum ∧
  done ++ (st.flatMap fun x => rw2 x.1 x.2) = rw2 k o ∧ done.length + m ≤ k.wt ∧ (∀ x ∈ st, x.1.ok ∧ x.2.ok) ∧ Fr s4 ∧ Fr s5
theorem due_rows (k o : Kd) (ok : k.ok) (ok2 : o.ok) (hl : k.letters.length ≤ 1000) : ∃ s4 s5, Fr s4 ∧ Fr s5 ∧
    whileS (tstF (op2 neO (slotF 3) (tmpF (lstF (nilA))))) L1_due [.val (.dat k.dat), .val (.dat o.dat), .val (.ls []), .val (.ls [pd (k, o)]), .no, .no, .no, .no, .no] = .nx [.val (.dat k.dat), .val (.dat o.dat), .val (.ls ((rw2 k o).map rwD)), .val (.ls []), s4, s5, .no, .no, .no] := by
  have hw := Kd.wt_le k
  obtain ⟨ρ', h1, s4, s5, f4, f5, rfl⟩ := while_inv (t := (tstF (op2 neO (slotF 3) (tmpF (lstF (nilA)))))) (body := L1_due) (DueI k o) (fun ρ => ∃ s4 s5, Fr s4 ∧ Fr s5 ∧ ρ = [.val (.dat k.dat), .val (.dat o.dat), .val (.ls ((rw2 k o).map rwD)), .val (.ls []), s4, s5, .no, .no, .no]) (by
    rintro m ρ ⟨st, done, s4, s5, rfl, rfl, hall, hm, hst, h4, h5⟩
    cases st with
    | nil =>
      rw [List.flatMap_nil, List.append_nil] at hall
      refine .inl ⟨_, ?_, s4, s5, h4, h5, rfl⟩
      simp [hall]
    | cons x st =>
      obtain ⟨kx, ox⟩ := x
      obtain ⟨hk, ho⟩ := hst (kx, ox) List.mem_cons_self
      have hk : kx.ok := hk
      have ho : ox.ok := ho
      have hr := fun x hx => hst x (List.mem_cons_of_mem _ hx)
      have lst := wt_len st
      have t0 : (tstF (op2 neO (slotF 3) (tmpF (lstF (nilA))))) [.val (.dat k.dat), .val (.dat o.dat), .val (.ls (done.map rwD)), .val (.ls (((kx, ox) :: st).reverse.map pd)), s4, s5, .no, .no, .no] = .ok true [.val (.dat k.dat), .val (.dat o.dat), .val (.ls (done.map rwD)), .val (.ls (((kx, ox) :: st).reverse.map pd)), s4, s5, .no, .no, .no] := by simp
      have hm : done.length + (kx.wt + (st.map fun x => x.1.wt).sum) ≤ k.wt := hm
      have wp := Kd.wt_pos kx
      have hz : small (done.length + 1) = true := small_of (by omega)
      have leaf : rw2 kx ox = [.inr (kx, ox)] → (andT (tstF (op2 eqO (tmpF (ixS 4 (cF (.int 0)))) (tmpF (ixS 5 (cF (.int 0)))))) (tstF (op2 neO (tmpF (ixS 4 (cF (.int 0)))) (tmpF (cF (.str "plain")))))) [.val (.dat k.dat), .val (.dat o.dat), .val (.ls (done.map rwD)), .val (.ls (st.reverse.map pd)), .val (.dat kx.dat), .val (.dat ox.dat), .no, .no, .no] = .ok false [.val (.dat k.dat), .val (.dat o.dat), .val (.ls (done.map rwD)), .val (.ls (st.reverse.map pd)), .val (.dat kx.dat), .val (.dat ox.dat), .no, .no, .no] →
          ∃ ρ1 ρ2 m', tstF (op2 neO (slotF 3) (tmpF (lstF (nilA)))) [.val (.dat k.dat), .val (.dat o.dat), .val (.ls (done.map rwD)), .val (.ls (((kx, ox) :: st).reverse.map pd)), s4, s5, .no, .no, .no] = .ok true ρ1 ∧ L1_due ρ1 = .nx ρ2 ∧ m' < (((kx, ox) :: st).map fun x => x.1.wt).sum ∧ DueI k o m' ρ2 := by
        intro hrw hc
        refine ⟨_, [.val (.dat k.dat), .val (.dat o.dat), .val (.ls ((done ++ [Sum.inr (kx, ox)]).map rwD)), .val (.ls (st.reverse.map pd)), .val (.dat kx.dat), .val (.dat ox.dat), .no, .no, .no], _, t0, ?_, ?_, st, done ++ [.inr (kx, ox)], _, _, rfl, rfl, ?_, ?_, hr, .val, .val⟩
        · have ep : pd (kx, ox) = .tuple [kx.dat, ox.dat] := rfl
          have e0 : asgS (tupT 2 (consTs (nmT 4) (consTs (nmT 5) (nilTs)))) (mm0 3 popO) [.val (.dat k.dat), .val (.dat o.dat), .val (.ls (done.map rwD)), .val (.ls (((kx, ox) :: st).reverse.map pd)), s4, s5, .no, .no, .no] = .nx [.val (.dat k.dat), .val (.dat o.dat), .val (.ls (done.map rwD)), .val (.ls (st.reverse.map pd)), .val (.dat kx.dat), .val (.dat ox.dat), .no, .no, .no] := by simp [ep, x_fr h4, x_fr h5]
          unfold L1_due
          rw [x_seqS, e0, x_seq_nx, x_ifS, hc]
          simp [hz, rwD, ep]
        · show (st.map fun x => x.1.wt).sum < kx.wt + (st.map fun x => x.1.wt).sum
          omega
        · rw [← hall, List.flatMap_cons, hrw, List.append_assoc]
        · rw [List.length_append]
          show done.length + 1 + _ ≤ _
          omega
      refine .inr ?_
      cases kx with
      | pl s => exact leaf rfl (by cases ox <;> simp)
      | nd f a b =>
        obtain ⟨hf, oa, ob⟩ := hk
        cases ox with
        | pl t => exact leaf rfl (by simp [Form.neP hf])
        | nd g c d =>
          by_cases e : f = g
          · subst e
            obtain ⟨_, oc, od⟩ := ho
            have hm : done.length + (1 + a.wt + b.wt + (st.map fun x => x.1.wt).sum) ≤ k.wt := hm
            have hz2 : small (st.length + 2) = true := small_of (by omega)
            refine ⟨_, [.val (.dat k.dat), .val (.dat o.dat), .val (.ls ((done ++ [Sum.inl f]).map rwD)), .val (.ls (((a, c) :: (b, d) :: st).reverse.map pd)), .val (.dat (Kd.nd f a b).dat), .val (.dat (Kd.nd f c d).dat), .no, .no, .no], _, t0, ?_, ?_, (a, c) :: (b, d) :: st, done ++ [.inl f], _, _, rfl, rfl, ?_, ?_, ?_, .val, .val⟩
            · simp [L1_due, pd, x_fr h4, x_fr h5, hz, hz2, form_ne hf, Form.neP hf, rwD]
            · show a.wt + (b.wt + (st.map fun x => x.1.wt).sum) < 1 + a.wt + b.wt + (st.map fun x => x.1.wt).sum
              omega
            · rw [← hall]
              have er : rw2 (.nd f a b) (.nd f c d) = .inl f :: (rw2 a c ++ rw2 b d) := by rw [rw2, if_pos rfl]
              simp [er]
            · rw [List.length_append]
              show done.length + 1 + (a.wt + (b.wt + (st.map fun x => x.1.wt).sum)) ≤ k.wt
              omega
            · intro x hx
              rcases List.mem_cons.mp hx with rfl | hx
              · exact ⟨oa, oc⟩
              · rcases List.mem_cons.mp hx with rfl | hx
                · exact ⟨ob, od⟩
                · exact hr x hx
          · exact leaf (by rw [rw2, if_neg e]) (by simp [e])) (m := k.wt) (ρ := [.val (.dat k.dat), .val (.dat o.dat), .val (.ls []), .val (.ls [pd (k, o)]), .no, .no, .no, .no, .no]) ⟨[(k, o)], [], .no, .no, rfl, by simp, by simp, by simp, fun x hx => by rw [List.mem_singleton.mp hx]; exact ⟨ok, ok2⟩, .no, .no⟩
  exact ⟨s4, s5, f4, f5, h1⟩
theorem addP_pb {p : List (Kd × Kd)} {x : Kd × Kd} (hp : ∀ y ∈ p, PB y) (hx : PB x) : ∀ y ∈ addP p x, PB y := fun y hy => by
  unfold addP at hy
  split at hy
  · exact hp y hy
  · rcases List.mem_append.mp hy with z | z
    · exact hp y z
    · rw [List.mem_singleton.mp z]
      exact hx
theorem form_pl {f : Str} (h : Form f) : ¬ f = Str.ofString "plain" := Form.neP h
theorem due_pairs (d0 d1 d2 d3 : O) (s4 s5 : Sl) : ∀ (rows : List (Str ⊕ (Kd × Kd))) (p : List (Kd × Kd)) (s7 : Sl), (∀ x, .inr x ∈ rows → PB x) → (∀ f, .inl f ∈ rows → Form f) → (∀ x ∈ p, PB x) → p.length + rows.length ≤ 1000 → Fr s7 →
    ∃ s7', Fr s7' ∧ loopF (nmT 7) L2_due (rows.map rwD) [.val d0, .val d1, .val d2, .val d3, s4, s5, .val (.ls (p.map pd)), s7, .no] = .nx [.val d0, .val d1, .val d2, .val d3, s4, s5, .val (.ls ((allP p rows).map pd)), s7', .no]
  | [], p, s7, _, _, _, _, h7 => ⟨s7, h7, rfl⟩
  | .inl f :: rows, p, s7, h1, h2, h3, hl, h7 => by
    have hf := h2 f List.mem_cons_self
    rw [List.length_cons] at hl
    obtain ⟨s7', h8, ih⟩ := due_pairs d0 d1 d2 d3 s4 s5 rows p (.val (.dat (rwD (.inl f)))) (fun x hx => h1 x (List.mem_cons_of_mem _ hx)) (fun x hx => h2 x (List.mem_cons_of_mem _ hx)) h3 (by omega) .val
    refine ⟨s7', h8, ?_⟩
    rw [List.map_cons, loop_nx (ρ1 := [.val d0, .val d1, .val d2, .val d3, s4, s5, .val (.ls (p.map pd)), .val (.dat (rwD (.inl f))), .no]) (ρ2 := [.val d0, .val d1, .val d2, .val d3, s4, s5, .val (.ls (p.map pd)), .val (.dat (rwD (.inl f))), .no]) (by simp [x_fr h7]) (.inl (by simp [L2_due, rwD, form_pl hf])), ih]
    rfl
  | .inr x :: rows, p, s7, h1, h2, h3, hl, h7 => by
    have hx := h1 x List.mem_cons_self
    rw [List.length_cons] at hl
    have la := addP_len p x
    obtain ⟨s7', h8, ih⟩ := due_pairs d0 d1 d2 d3 s4 s5 rows (addP p x) (.val (.dat (rwD (.inr x)))) (fun x hx => h1 x (List.mem_cons_of_mem _ hx)) (fun x hx => h2 x (List.mem_cons_of_mem _ hx)) (addP_pb h3 hx) (by omega) .val
    have hz : small (p.length + 1) = true := small_of (by omega)
    have hn := nin_pd (ps := p) hx
    refine ⟨s7', h8, ?_⟩
    have hb : L2_due [.val d0, .val d1, .val d2, .val d3, s4, s5, .val (.ls (p.map pd)), .val (.dat (rwD (.inr x))), .no] = .nx [.val d0, .val d1, .val d2, .val d3, s4, s5, .val (.ls ((addP p x).map pd)), .val (.dat (rwD (.inr x))), .no] := by
      unfold addP
      cases c : p.any (same2 x) with
      | true =>
        rw [c] at hn
        simp [L2_due, rwD, hn, -x_nin_3]
      | false =>
        rw [c] at hn
        simp [L2_due, rwD, hn, hz, -x_nin_3]
    rw [List.map_cons, loop_nx (ρ1 := [.val d0, .val d1, .val d2, .val d3, s4, s5, .val (.ls (p.map pd)), .val (.dat (rwD (.inr x))), .no]) (by simp [x_fr h7]) (.inl hb), ih]
    rfl
/-- the fold, from the last row on -/
def envD (d0 d1 d2 d3 : O) (s4 s5 : Sl) (p : List (Kd × Kd)) (s7 : Sl) (st : List Kd) : En := [.val d0, .val d1, .val d2, .val d3, s4, s5, .val (.ls (p.map pd)), s7, .val (.ls (st.reverse.map Kd.dat))]
theorem due_leaf (d0 d1 d2 d3 : O) (s4 s5 s7 : Sl) (p : List (Kd × Kd)) (hp : ∀ x ∈ p, PB x) (p26 : p.length ≤ 26) (x : Kd × Kd) (hx : x ∈ p) (rows : List (Str ⊕ (Kd × Kd))) (st : List Kd) (hl : st.length ≤ 1000) (h7 : Fr s7) :
    loopF (nmT 7) L3_due ((.inr x :: rows).map rwD) (envD d0 d1 d2 d3 s4 s5 p s7 st) = loopF (nmT 7) L3_due (rows.map rwD) (envD d0 d1 d2 d3 s4 s5 p (.val (.dat (rwD (.inr x)))) (.pl (letAt (idxP p x)) :: st)) := by
  have e2 := idx_pd hp hx
  have l2 := idxP_lt hx
  have e3 := abc_at (i := idxP p x) (by omega)
  have el : (⟨#[97 + idxP p x]⟩ : Str) = letAt (idxP p x) := rfl
  have hz : small (st.length + 1) = true := small_of (by omega)
  unfold envD
  rw [List.map_cons, loop_nx (ρ1 := [.val d0, .val d1, .val d2, .val d3, s4, s5, .val (.ls (p.map pd)), .val (.dat (rwD (.inr x))), .val (.ls (st.reverse.map Kd.dat))]) (ρ2 := [.val d0, .val d1, .val d2, .val d3, s4, s5, .val (.ls (p.map pd)), .val (.dat (rwD (.inr x))), .val (.ls ((Kd.pl (letAt (idxP p x)) :: st).reverse.map Kd.dat))]) (by simp [x_fr h7]) (.inl (by simp [L3_due, rwD, e2, e3, el, abc_small, hz]))]
theorem due_tree (d0 d1 d2 d3 : O) (s5 : Sl) (p : List (Kd × Kd)) (hp : ∀ x ∈ p, PB x) (p26 : p.length ≤ 26) : ∀ (k o : Kd) (rows : List (Str ⊕ (Kd × Kd))) (st : List Kd) (s4 s7 : Sl), k.ok → (∀ x, .inr x ∈ rw2 k o → x ∈ p) → st.length + k.wt ≤ 1000 → Fr s4 → Fr s7 →
    ∃ s4' s7', Fr s4' ∧ Fr s7' ∧ loopF (nmT 7) L3_due (((rw2 k o).reverse ++ rows).map rwD) (envD d0 d1 d2 d3 s4 s5 p s7 st) = loopF (nmT 7) L3_due (rows.map rwD) (envD d0 d1 d2 d3 s4' s5 p s7' (tree2 p k o :: st)) := by
  intro k
  induction k with
  | pl s =>
    intro o rows st s4 s7 ok hin hl h4 h7
    have lp := Kd.wt_pos (.pl s)
    exact ⟨_, _, h4, .val, due_leaf d0 d1 d2 d3 s4 s5 s7 p hp p26 (.pl s, o) (hin _ List.mem_cons_self) rows st (by omega) h7⟩
  | nd f a b iha ihb =>
    intro o rows st s4 s7 ok hin hl h4 h7
    have lp := Kd.wt_pos (.nd f a b)
    cases o with
    | pl t => exact ⟨_, _, h4, .val, due_leaf d0 d1 d2 d3 s4 s5 s7 p hp p26 (.nd f a b, .pl t) (hin _ List.mem_cons_self) rows st (by omega) h7⟩
    | nd g c d =>
      by_cases e : f = g
      · subst e
        obtain ⟨hf, oa, ob⟩ := ok
        have er : rw2 (.nd f a b) (.nd f c d) = .inl f :: (rw2 a c ++ rw2 b d) := by rw [rw2, if_pos rfl]
        have et : tree2 p (.nd f a b) (.nd f c d) = .nd f (tree2 p a c) (tree2 p b d) := by rw [tree2, if_pos rfl]
        have hl : st.length + (1 + a.wt + b.wt) ≤ 1000 := hl
        rw [er] at hin
        obtain ⟨u4, u7, f4, f7, e1⟩ := ihb d ((rw2 a c).reverse ++ ([.inl f] ++ rows)) st s4 s7 ob (fun x hx => hin x (List.mem_cons_of_mem _ (List.mem_append_right _ hx))) (by omega) h4 h7
        have wb := Kd.wt_pos b
        obtain ⟨v4, v7, g4, g7, e2⟩ := iha c ([.inl f] ++ rows) (tree2 p b d :: st) u4 u7 oa (fun x hx => hin x (List.mem_cons_of_mem _ (List.mem_append_left _ hx))) (by rw [List.length_cons]; omega) f4 f7
        have hz : small (st.length + 1) = true := small_of (by omega)
        refine ⟨.val (.dat (tree2 p a c).dat), .val (.dat (rwD (.inl f))), .val, .val, ?_⟩
        rw [er, List.reverse_cons, List.reverse_append, List.append_assoc, List.append_assoc, e1, e2, et]
        unfold envD
        rw [List.singleton_append, List.map_cons, loop_nx (ρ1 := [.val d0, .val d1, .val d2, .val d3, v4, s5, .val (.ls (p.map pd)), .val (.dat (rwD (.inl f))), .val (.ls ((tree2 p a c :: tree2 p b d :: st).reverse.map Kd.dat))]) (ρ2 := [.val d0, .val d1, .val d2, .val d3, .val (.dat (tree2 p a c).dat), s5, .val (.ls (p.map pd)), .val (.dat (rwD (.inl f))), .val (.ls ((Kd.nd f (tree2 p a c) (tree2 p b d) :: st).reverse.map Kd.dat))]) (by simp [x_fr g7]) (.inl (by simp [L3_due, rwD, form_pl hf, x_fr g4, hz]))]
      · have er : rw2 (.nd f a b) (.nd g c d) = [.inr (.nd f a b, .nd g c d)] := by rw [rw2, if_neg e]
        have et : tree2 p (.nd f a b) (.nd g c d) = .pl (letAt (idxP p (.nd f a b, .nd g c d))) := by rw [tree2, if_neg e]
        rw [er] at hin ⊢
        rw [et]
        exact ⟨_, _, h4, .val, due_leaf d0 d1 d2 d3 s4 s5 s7 p hp p26 (.nd f a b, .nd g c d) (hin _ List.mem_cons_self) rows st (by omega) h7⟩
theorem rw2_ok : ∀ (k o : Kd), PB (k, o) → (∀ x, .inr x ∈ rw2 k o → PB x) ∧ ∀ f, .inl f ∈ rw2 k o → Form f := by
  intro k
  induction k with
  | pl s =>
    intro o h
    exact ⟨fun x hx => by cases Sum.inr.inj (List.mem_singleton.mp hx); exact h, fun f hf => nomatch List.mem_singleton.mp hf⟩
  | nd f a b iha ihb =>
    intro o h
    cases o with
    | pl t => exact ⟨fun x hx => by cases Sum.inr.inj (List.mem_singleton.mp hx); exact h, fun f hf => nomatch List.mem_singleton.mp hf⟩
    | nd g c d =>
      unfold rw2
      split
      · obtain ⟨⟨hf, oa, ob⟩, ⟨_, oc, od⟩, h1, h2⟩ := h
        have h1 : 1 + max a.deep b.deep ≤ 40 := h1
        have h2 : 1 + max c.deep d.deep ≤ 40 := h2
        obtain ⟨p1, p2⟩ := iha c ⟨oa, oc, by show a.deep ≤ 40; omega, by show c.deep ≤ 40; omega⟩
        obtain ⟨q1, q2⟩ := ihb d ⟨ob, od, by show b.deep ≤ 40; omega, by show d.deep ≤ 40; omega⟩
        refine ⟨fun x hx => ?_, fun z hz => ?_⟩
        · rcases List.mem_cons.mp hx with e | hx
          · cases e
          · rcases List.mem_append.mp hx with hx | hx
            · exact p1 x hx
            · exact q1 x hx
        · rcases List.mem_cons.mp hz with e | hz
          · cases Sum.inl.inj e
            exact hf
          · rcases List.mem_append.mp hz with hz | hz
            · exact p2 z hz
            · exact q2 z hz
      · exact ⟨fun x hx => by cases Sum.inr.inj (List.mem_singleton.mp hx); exact h, fun f hf => nomatch List.mem_singleton.mp hf⟩
theorem allP_mem : ∀ (r : List (Str ⊕ (Kd × Kd))) (p : List (Kd × Kd)), (∀ x ∈ p, x ∈ allP p r) ∧ ∀ x, .inr x ∈ r → x ∈ allP p r
  | [], p => ⟨fun _ h => h, fun _ h => nomatch h⟩
  | .inl f :: r, p => ⟨(allP_mem r p).1, fun x h => (allP_mem r p).2 x (by
      rcases List.mem_cons.mp h with e | h
      · cases e
      · exact h)⟩
  | .inr y :: r, p => by
    obtain ⟨h1, h2⟩ := allP_mem r (addP p y)
    refine ⟨fun x h => h1 x ?_, fun x h => ?_⟩
    · obtain ⟨q, e⟩ := addP_ext p y
      rw [e]
      exact List.mem_append_left _ h
    · rcases List.mem_cons.mp h with e | h
      · have e : x = y := Sum.inr.inj e
        rw [e]
        exact h1 y (addP_mem p y)
      · exact h2 x h
theorem due_ok (k o : Kd) (hb : PB (k, o)) (hl : k.letters.length ≤ 26) : F_due [.dat k.dat, .dat o.dat] = .ok (.dat (shr k o []).1.dat) [.no, .no] := by
  obtain ⟨s4, s5, f4, f5, h1⟩ := due_rows k o hb.1 hb.2.1 (by omega)
  obtain ⟨r1, r2⟩ := rw2_ok k o hb
  have hr := rw2_len k o
  have hw := Kd.wt_le k
  obtain ⟨s7, f7, h2⟩ := due_pairs (.dat k.dat) (.dat o.dat) (.dat (.list ((rw2 k o).map rwD))) (.ls []) s4 s5 (rw2 k o) [] .no r1 r2 (fun _ z => nomatch z) (by simp; omega) .no
  have hp := shr_all k o []
  have pl := shr_len k o []
  rw [hp] at pl
  have pb := share_pb k o [] (fun _ z => nomatch z) hb
  rw [hp] at pb
  obtain ⟨u4, u7, g4, g7, h3⟩ := due_tree (.dat k.dat) (.dat o.dat) (.dat (.list ((rw2 k o).map rwD))) (.ls []) s5 (allP [] (rw2 k o)) pb (by simp at pl; omega) k o [] [] s4 s7 hb.1 (fun x hx => (allP_mem _ _).2 x hx) (by simp; omega) f4 f7
  have t := shr_tree k o [] []
  rw [List.append_nil, hp] at t
  rw [← t, List.append_nil] at h3
  have ep : pd (k, o) = .tuple [k.dat, o.dat] := rfl
  rw [ep] at h1
  unfold envD at h3
  simp at h2 h3
  simp [F_due, x_def, x_entry, x_leave, B_due, h1, h2, h3, x_fr f4, x_fr f5]
end Fn

namespace Fn
open PySem PySem.Spec PyProof.Rows L2 Ww Vs
/-! ### within -/
theorem maxO_map (ys : List Int) (h : ys ≠ []) : maxO (.ls (ys.map .int)) = some (.dat (.int (maxL ys))) := by
  show ((some (ys.map PyData.int)).bind allInt).bind _ = _
  rw [Option.bind_some, allInt_map, Option.bind_some, if_neg h]
theorem within_ok (k : Kd) (ok : k.ok) (hz : k.letters.length ≤ 1000) : ∃ b, F_within [.dat k.dat] = .ok (.dat (.bool b)) [.no] := by
  have e1 := places_ok k ok hz
  have e2 : lcL (nmT 2) yesT (ixS 2 (cF (.int 1))) [2] ((k.places 1).map rowD) [.val (.dat k.dat), .val (.dat (.list ((k.places 1).map rowD))), .no] = .ok (((k.places 1).map fun x => x.2).map .int) [.val (.dat k.dat), .val (.dat (.list ((k.places 1).map rowD))), .no] := by
    rw [lcL_map (fun d => match d with
      | .tuple [_, y] => y
      | _ => .none)]
    · rw [List.map_map, List.map_map]
      rfl
    · intro d hd
      obtain ⟨x, _, rfl⟩ := List.mem_map.mp hd
      exact ⟨_, _, .dat (.int x.2), by simp; rfl, by simp [rowD]; rfl, rfl, by simp⟩
  have e3 := maxO_map ((k.places 1).map fun x => x.2) (by
    have h1 := k.letters_pos
    have h2 := k.places_len 1
    intro z
    have h3 := congrArg List.length z
    rw [List.length_map, List.length_nil] at h3
    omega)
  have hz : small (k.places 1).length = true := small_of (by rw [k.places_len]; omega)
  refine ⟨decide (((k.places 1).length : Int) ≤ 7) && decide (maxL ((k.places 1).map fun x => x.2) ≤ 5), ?_⟩
  by_cases c : ((k.places 1).length : Int) ≤ 7
  · have c2 : (k.places 1).length ≤ 7 := by omega
    simp only [List.map_map] at e2 e3
    simp [F_within, x_def, x_entry, x_leave, B_within, e1, e2, e3, c, c2, hz]
  · have c2 : ¬ (k.places 1).length ≤ 7 := by omega
    simp [F_within, x_def, x_entry, x_leave, B_within, e1, c, c2]
/-! ### parts put in -/
theorem sub_ok (σ : Str → Kd) (D L : Nat) (D1 : 1 ≤ D) : ∀ k : Kd, k.ok → (∀ s, Let s → (σ s).ok ∧ (σ s).deep ≤ D ∧ (σ s).letters.length ≤ L) → (Kd.sub σ k).ok ∧ (Kd.sub σ k).deep + 1 ≤ k.deep + D ∧ (Kd.sub σ k).letters.length ≤ k.letters.length * L
  | .pl s, ok, h => by
    obtain ⟨h1, h2, h3⟩ := h s ok
    exact ⟨h1, by show (σ s).deep + 1 ≤ 1 + D; omega, by show (σ s).letters.length ≤ 1 * L; omega⟩
  | .nd f a b, ⟨hf, oa, ob⟩, h => by
    obtain ⟨a1, a2, a3⟩ := sub_ok σ D L D1 a oa h
    obtain ⟨b1, b2, b3⟩ := sub_ok σ D L D1 b ob h
    refine ⟨⟨hf, a1, b1⟩, ?_, ?_⟩
    · show 1 + max (Kd.sub σ a).deep (Kd.sub σ b).deep + 1 ≤ 1 + max a.deep b.deep + D
      omega
    · show ((Kd.sub σ a).letters ++ (Kd.sub σ b).letters).length ≤ (a.letters ++ b.letters).length * L
      rw [List.length_append, List.length_append, Nat.add_mul]
      omega
theorem tau_ok (t : List (Str × Kd)) (D L : Nat) (D1 : 1 ≤ D) (L1 : 1 ≤ L) (h : ∀ x ∈ t, x.2.ok ∧ x.2.deep ≤ D ∧ x.2.letters.length ≤ L) (s : Str) (hs : Let s) : (tau t s).ok ∧ (tau t s).deep ≤ D ∧ (tau t s).letters.length ≤ L := by
  unfold tau
  cases hl : t.lookup s with
  | none => exact ⟨hs, D1, L1⟩
  | some k => exact h _ ((lookup_tab s).2 k hl)
/-! ### two kinds by tables of one -/
theorem forms3 : Forms [Str.ofString "behind", Str.ofString "ahead", Str.ofString "with"] := ⟨by simp, by decide, fun f hf => by
  simp only [List.mem_cons, List.not_mem_nil, or_false] at hf
  rcases hf with h | h | h
  · exact .inl h
  · exact .inr (.inl h)
  · exact .inr (.inr h)⟩
def tokT (L : Nat) (t : List (Str × Kd)) : Prop := ∀ x ∈ t, x.2.ok ∧ x.2.deep ≤ 2 ∧ x.2.letters.length ≤ L
theorem two_inner (u2 u3 u5 u6 u7 u8 u9 u12 : Sl) (signs : Str) (size : Nat) (hsg : Pool signs) (z1 : 1 ≤ size) (z2 : size ≤ 2) : ∀ (names : List Str) (n : Nat) (es : List PyData) (t : List (Str × Kd)) (s11 : Sl), Src n es → n + 10 * names.length ≤ 800000 → tokT size t → t.length + names.length ≤ 1000 → Fr s11 →
    ∃ es' t' s11', Src (n + 10 * names.length) es' ∧ tokT size t' ∧ Fr s11' ∧ loopF (nmT 11) L1_two (names.map .str) [.bor (.ls es), .val (.dat (.str signs)), u2, u3, .val (.dat (.int (size : Int))), u5, u6, u7, u8, u9, .val (.dk (tabD t)), s11, u12] = .nx [.bor (.ls es'), .val (.dat (.str signs)), u2, u3, .val (.dat (.int (size : Int))), u5, u6, u7, u8, u9, .val (.dk (tabD t')), s11', u12]
  | [], n, es, t, s11, hs, hn, ht, hl, h11 => ⟨es, t, s11, hs, ht, h11, rfl⟩
  | s :: names, n, es, t, s11, hs, hn, ht, hl, h11 => by
    rw [List.length_cons] at hn hl
    obtain ⟨r, es1, a0, a1, s1, e1⟩ := pick_ok n es size hs (by omega) (by omega) (by omega)
    obtain ⟨k, es2, ko, kd, kl, s2, e2⟩ := grown_ok 30 (n + 1) es1 (1 + r) 2 _ signs s1 (by omega) forms3 hsg (by omega) (by omega) (by omega) (by omega)
    obtain ⟨t', e3, m3, l3⟩ := putD_tab t s k
    have ht' : tokT size t' := fun x hx => by
      rcases m3 x hx with z | rfl
      · exact ht x z
      · exact ⟨ko, by show k.deep ≤ 2; omega, by show k.letters.length ≤ size; omega⟩
    obtain ⟨es3, t3, s11', s3, ht3, h3, ih⟩ := two_inner u2 u3 u5 u6 u7 u8 u9 u12 signs size hsg z1 z2 names (n + 10) es2 t' (.val (.dat (.str s))) (s2.le (by omega)) (by omega) ht' (by omega) .val
    have hz : small ((tabD t).length + 1) = true := small_of (by rw [tabD_len]; omega)
    refine ⟨es3, t3, s11', s3.le (by rw [List.length_cons]; omega), ht3, h3, ?_⟩
    simp at e2
    rw [List.map_cons, loop_nx (ρ1 := [.bor (.ls es), .val (.dat (.str signs)), u2, u3, .val (.dat (.int (size : Int))), u5, u6, u7, u8, u9, .val (.dk (tabD t)), .val (.dat (.str s)), u12]) (ρ2 := [.bor (.ls es2), .val (.dat (.str signs)), u2, u3, .val (.dat (.int (size : Int))), u5, u6, u7, u8, u9, .val (.dk (tabD t')), .val (.dat (.str s)), u12]) (by simp [x_fr h11]) (.inl (by simp [L1_two, e1, e2, hz, e3])), ih]
/-- what the outer loop keeps -/
def fndD (base : Kd) (σs : List (Str → Kd)) : List PyData := σs.map fun σ => (Kd.sub σ base).dat
def SubI (L : Nat) (σ : Str → Kd) : Prop := ∀ s, Let s → (σ s).ok ∧ (σ s).deep ≤ 2 ∧ (σ s).letters.length ≤ L
def TwoI (n : Nat) (signs : Str) (s2 s3 : Sl) (size : Nat) (base : Kd) (N : List PyData) (s8 : Sl) (i : Nat) (ρ : En) : Prop := ∃ (es : List PyData) (σs : List (Str → Kd)) (s6 s9 s10 s11 s12 : Sl), Src (n + 100 * i) es ∧ σs.length = i ∧ (∀ σ ∈ σs, SubI size σ) ∧
  ρ = [.bor (.ls es), .val (.dat (.str signs)), s2, s3, .val (.dat (.int (size : Int))), .val (.dat base.dat), s6, .val (.ls (fndD base σs)), s8, s9, s10, s11, s12] ∧
  (s6 = .val (.ls N) ∨ s6 = .val (.dat (.list N))) ∧ Fr s9 ∧ Fr s10 ∧ Fr s11 ∧ Fr s12
theorem atI_last {α : Type} (xs : List α) (x : α) : atI (xs ++ [x]) (-1) = some x := by
  unfold atI ixN
  have h : ¬ (0 : Int) ≤ -1 := by omega
  have h1 : (1 : Int) ≤ (xs.length : Int) + 1 := by omega
  have h2 : (-1 + ((xs.length : Int) + 1)).toNat = xs.length := by omega
  simp [h1, h2]
theorem snoc_of {α : Type} : ∀ {xs : List α}, xs ≠ [] → ∃ ys y, xs = ys ++ [y]
  | [], h => (h rfl).elim
  | [x], _ => ⟨[], x, rfl⟩
  | x :: y :: r, _ => by
    obtain ⟨ys, z, e⟩ := snoc_of (xs := y :: r) (fun z => nomatch z)
    exact ⟨x :: ys, z, by rw [e]; rfl⟩
theorem two_outer (n : Nat) (signs : Str) (s2 s3 : Sl) (size : Nat) (base : Kd) (names : List Str) (s8 : Sl) (hn : n ≤ 700000) (hsg : Pool signs) (z1 : 1 ≤ size) (z2 : size ≤ 2) (ok : base.ok) (bd : base.deep ≤ 5) (bl : base.letters.length ≤ 7) (n1 : 1 ≤ names.length) (n7 : names.length ≤ 7) :
    ∀ i ρ, i < 2 → TwoI n signs s2 s3 size base (names.map .str) s8 i ρ → ∃ ρ1 ρ2, (nmT 9).f (.int (i : Int)) ρ = some ρ1 ∧ (L2_two ρ1 = .nx ρ2 ∨ L2_two ρ1 = .ct ρ2) ∧ TwoI n signs s2 s3 size base (names.map .str) s8 (i + 1) ρ2 := by
  rintro i ρ hi ⟨es, σs, s6, s9, s10, s11, s12, hs, hl, hσ, rfl, h6, h9, h10, h11, h12⟩
  obtain ⟨es', t', s11', s1, ht, h11', e1⟩ := two_inner s2 s3 (.val (.dat base.dat)) (.val (.dat (.list (names.map .str)))) (.val (.ls (fndD base σs))) s8 (.val (.dat (.int i))) s12 signs size hsg z1 z2 names (n + 100 * i) es [] s11 hs (by omega) (fun _ z => nomatch z) (by simp; omega) h11
  have et : (tabD [] : List (L2.Key × PyData)) = [] := rfl
  rw [et] at e1
  have e2 := put_ok t' 30 base ok (by omega)
  have tk : SubI size (tau t') := fun s h => tau_ok t' 2 size (by decide) z1 ht s h
  obtain ⟨o1, o2, o3⟩ := sub_ok (tau t') 2 size (by decide) base ok tk
  have o4 : base.letters.length * size ≤ 7 * 2 := Nat.mul_le_mul bl z2
  obtain ⟨b, e3⟩ := within_ok (Kd.sub (tau t') base) o1 (by omega)
  -- the other table
  obtain ⟨nm, hN⟩ : ∃ nm, atI (names.map PyData.str) 0 = some (.str nm) := by
    cases names with
    | nil => simp at n1
    | cons a r => exact ⟨a, by simp⟩
  generalize names.map PyData.str = N at e1 h6 hN ⊢
  obtain ⟨ta, t1, t14⟩ := hsg
  obtain ⟨cs, c, hcs⟩ : ∃ cs c, signs.cps.toList = cs ++ [c] := by
    refine snoc_of fun z => ?_
    have h := len_cps signs
    rw [z, List.length_nil] at h
    omega
  have lc : Let ⟨#[c]⟩ := ⟨c, rfl, ta c (by rw [hcs]; exact List.mem_append_right _ (List.mem_singleton.mpr rfl))⟩
  have sm : small signs.length = true := small_of (by omega)
  have el : atI signs.cps.toList (-1) = some c := by rw [hcs]; exact atI_last cs c
  have ed : (mergeD [] [((Sum.inr nm : L2.Key), PyData.tuple [.str "plain", .str ⟨#[c]⟩])]) = tabD [(nm, .pl ⟨#[c]⟩)] := rfl
  have e4 := put_ok [(nm, .pl ⟨#[c]⟩)] 30 base ok (by omega)
  have tk2 : SubI size (tau [(nm, .pl ⟨#[c]⟩)]) := fun s h => tau_ok _ 2 size (by decide) z1 (fun x hx => by rw [List.mem_singleton.mp hx]; exact ⟨lc, by show 1 ≤ 2; decide, z1⟩) s h
  have hz : small ((fndD base σs).length + 1) = true := small_of (by unfold fndD; rw [List.length_map]; omega)
  have key : ∀ τ : Str → Kd, SubI size τ → TwoI n signs s2 s3 size base N s8 (i + 1) [.bor (.ls es'), .val (.dat (.str signs)), s2, s3, .val (.dat (.int (size : Int))), .val (.dat base.dat), .val (.dat (.list N)), .val (.ls (fndD base σs ++ [(Kd.sub τ base).dat])), s8, .val (.dat (.int i)), .val (.dk (tabD t')), s11', .val (.dat (Kd.sub τ base).dat)] := fun τ hτ =>
    ⟨es', σs ++ [τ], _, _, _, _, _, s1.le (by omega), by simp [hl], fun σ m => by
      rcases List.mem_append.mp m with z | z
      · exact hσ σ z
      · rw [List.mem_singleton.mp z]
        exact hτ, by unfold fndD; rw [List.map_append]; rfl, .inr rfl, .val, .val, h11', .val⟩
  have t0 : (nmT 9).f (.int (i : Int)) [.bor (.ls es), .val (.dat (.str signs)), s2, s3, .val (.dat (.int (size : Int))), .val (.dat base.dat), s6, .val (.ls (fndD base σs)), s8, s9, s10, s11, s12] = some [.bor (.ls es), .val (.dat (.str signs)), s2, s3, .val (.dat (.int (size : Int))), .val (.dat base.dat), s6, .val (.ls (fndD base σs)), s8, .val (.dat (.int i)), s10, s11, s12] := by simp [x_fr h9]
  cases b with
  | true =>
    refine ⟨_, _, t0, .inl ?_, key (tau t') tk⟩
    rcases h6 with rfl | rfl <;> simp [L2_two, x_fr h10, x_fr h12, e1, e2, e3, hz]
  | false =>
    refine ⟨_, _, t0, .inl ?_, key (tau [(nm, .pl ⟨#[c]⟩)]) tk2⟩
    rcases h6 with rfl | rfl <;> simp [L2_two, x_fr h10, x_fr h12, e1, e2, e3, hz, sm, el, ed, e4, hN]
end Fn

namespace Fn
open PySem PySem.Spec PyProof.Rows L2 Ww Vs
def B_depth (self : FF) : SF := retS (ifE (tstF (op2 eqO (tmpF (ixS 0 (cF (.int 0)))) (tmpF (cF (.str "plain"))))) (cF (.int 1)) (op2 addO (tmpF (cF (.int 1))) (tmpF (op2 max2O (tmpF (callF self (consC (aD (ixS 0 (cF (.int 1)))) (nilC)))) (tmpF (callF self (consC (aD (ixS 0 (cF (.int 2)))) (nilC))))))))
def F_depth : Nat → FF
  | 0 => fun _ => .stuck
  | n + 1 => defF 1 1 (B_depth (F_depth n))

def B_draw : SF := seqS (ifS (tstF (op2 gtO (tmpF (ixS 0 (cF (.int 0)))) (tmpF (cF (.int 0)))))
    (seqS (setS 2 (op2 modO (tmpF (op1 intO (tmpF (ixS 0 (cF (.int 0)))))) (slotF 1)))
    (seqS (stS 0 stA (cF (.int 0)) (op2 fdivO (tmpF (ixS 0 (cF (.int 0)))) (slotF 1)))
    (retS (movF 2))))
    (nxS))
    (seqS (stS 0 stA (cF (.int 2)) (op2 addO (tmpF (ixS 0 (cF (.int 2)))) (tmpF (cF (.int 1)))))
    (seqS (setS 3 (op2 modO (tmpF (op1 intO (tmpF (op2 powO (tmpF (op2 addO (tmpF (ixS 0 (cF (.int 1)))) (tmpF (op2 mulO (tmpF (cF (.int 15485863))) (tmpF (ixS 0 (cF (.int 2)))))))) (tmpF (cF (.int 3))))))) (tmpF (op2 addO (tmpF (op2 powO (tmpF (cF (.int 10))) (tmpF (cF (.int 33))))) (tmpF (cF (.int 61)))))))
    (seqS (setS 3 (op2 modO (tmpF (op1 intO (tmpF (op2 powO (tmpF (op2 addO (slotF 3) (tmpF (op2 mulO (tmpF (cF (.int 32452843))) (tmpF (ixS 0 (cF (.int 2)))))))) (tmpF (cF (.int 3))))))) (tmpF (op2 addO (tmpF (op2 powO (tmpF (cF (.int 10))) (tmpF (cF (.int 31))))) (tmpF (cF (.int 33)))))))
    (retS (op2 modO (tmpF (op1 intO (tmpF (op2 fdivO (slotF 3) (tmpF (op2 powO (tmpF (cF (.int 10))) (tmpF (cF (.int 7))))))))) (slotF 1))))))
def F_draw : FF := defF 2 4 B_draw

def L1_flat : SF := seqS (setS 5 (tupF (consA (cF (.str "plain")) (consA (ixS 1 (callF F_draw (lendC 0 (consC (aD (op1 lenO (slotF 1))) (nilC))))) (nilA)))))
    (setS 3 (ifE (tstF (op2 eqO (tmpF (callF F_draw (lendC 0 (consC (aD (cF (.int 2))) (nilC))))) (tmpF (cF (.int 0))))) (tupF (consA (cF (.str "behind")) (consA (varF 3) (consA (varF 5) (nilA))))) (tupF (consA (cF (.str "ahead")) (consA (varF 5) (consA (varF 3) (nilA)))))))
def B_flat : SF := seqS (setS 3 (tupF (consA (cF (.str "plain")) (consA (ixS 1 (callF F_draw (lendC 0 (consC (aD (op1 lenO (slotF 1))) (nilC))))) (nilA)))))
    (seqS (forS (rng1 (slotF 2)) (nmT 4) L1_flat)
    (retS (movF 3)))
def F_flat : FF := defF 3 6 B_flat

def B_kind (self : FF) : SF := seqS (ifS (tstF (op2 ltO (slotF 1) (tmpF (cF (.int 2)))))
    (retS (tupF (consA (cF (.str "plain")) (consA (op2 ixO (tmpF (ixS 0 (cF (.int 3)))) (tmpF (callF F_draw (lendC 0 (consC (aD (op1 lenO (tmpF (ixS 0 (cF (.int 3)))))) (nilC)))))) (nilA)))))
    (nxS))
    (seqS (setS 3 (op2 addO (tmpF (cF (.int 1))) (tmpF (callF F_draw (lendC 0 (consC (aD (op2 subO (slotF 1) (tmpF (cF (.int 1))))) (nilC)))))))
    (seqS (par2S 4 5 (consA (callF self (lendC 0 (consC (aD (varF 3)) (consC (aD (varF 2)) (nilC))))) (consA (callF self (lendC 0 (consC (aD (op2 subO (slotF 1) (slotF 3))) (consC (aD (varF 2)) (nilC))))) (nilA))))
    (retS (tupF (consA (op2 ixO (tmpF (lstF (consA (cF (.str "behind")) (consA (cF (.str "ahead")) (consA (cF (.str "with")) (nilA)))))) (tmpF (callF F_draw (lendC 0 (consC (aD (ifE (truF (slotF 2)) (cF (.int 2)) (cF (.int 3)))) (nilC)))))) (consA (varF 4) (consA (varF 5) (nilA))))))))
def F_kind : Nat → FF
  | 0 => fun _ => .stuck
  | n + 1 => defF 3 6 (B_kind (F_kind n))

def B_is_flat (self : FF) : SF := seqS (ifS (tstF (op2 eqO (tmpF (ixS 0 (cF (.int 0)))) (tmpF (cF (.str "behind")))))
    (retS (andE (op2 eqO (tmpF (op2 ixO (tmpF (ixS 0 (cF (.int 2)))) (tmpF (cF (.int 0))))) (tmpF (cF (.str "plain")))) (callF self (consC (aD (ixS 0 (cF (.int 1)))) (nilC)))))
    (nxS))
    (seqS (ifS (tstF (op2 eqO (tmpF (ixS 0 (cF (.int 0)))) (tmpF (cF (.str "ahead")))))
    (retS (andE (op2 eqO (tmpF (op2 ixO (tmpF (ixS 0 (cF (.int 1)))) (tmpF (cF (.int 0))))) (tmpF (cF (.str "plain")))) (callF self (consC (aD (ixS 0 (cF (.int 2)))) (nilC)))))
    (nxS))
    (retS (op2 eqO (tmpF (ixS 0 (cF (.int 0)))) (tmpF (cF (.str "plain"))))))
def F_is_flat : Nat → FF
  | 0 => fun _ => .stuck
  | n + 1 => defF 1 1 (B_is_flat (F_is_flat n))

noncomputable def L1_flat_k26 : SF := seqS (ifS (tstF (op2 eqO (tmpF (ixS 0 (cF (.int 0)))) (tmpF (cF (.str "with")))))
    (retS (cF (.bool false)))
    (nxS))
    (seqS (asgS (tupT 2 (consTs (nmT 1) (consTs (nmT 2) (nilTs)))) (ifE (tstF (op2 eqO (tmpF (ixS 0 (cF (.int 0)))) (tmpF (cF (.str "behind"))))) (tupF (consA (ixS 0 (cF (.int 1))) (consA (ixS 0 (cF (.int 2))) (nilA)))) (tupF (consA (ixS 0 (cF (.int 2))) (consA (ixS 0 (cF (.int 1))) (nilA))))))
    (seqS (ifS (tstF (op2 neO (tmpF (ixS 2 (cF (.int 0)))) (tmpF (cF (.str "plain")))))
    (retS (cF (.bool false)))
    (nxS))
    (setS 0 (varF 1))))
noncomputable def B_flat_k26 : SF := seqS (whileS (tstF (op2 neO (tmpF (ixS 0 (cF (.int 0)))) (tmpF (cF (.str "plain"))))) L1_flat_k26)
    (retS (cF (.bool true)))
noncomputable def F_flat_k26 : FF := defF 1 3 B_flat_k26

noncomputable def B_check_flat : SF := ifS (notT (truF (tmpF (callF F_flat_k26 (consC (aD (varF 0)) (nilC))))))
    (raiseS "NotFlat" (varF 0))
    (nxS)
noncomputable def F_check_flat : FF := defF 1 1 B_check_flat

def B_fresh (self : FF) : SF := seqS (ifS (truF (tmpF (op1 (isaO ["list"]) (slotF 0))))
    (retS (lcF (itS (varF 0)) (nmT 1) (yesT) (callF self (consC (aD (varF 1)) (nilC))) [1]))
    (nxS))
    (seqS (ifS (truF (tmpF (op1 (isaO ["tuple"]) (slotF 0))))
    (retS (op1 tupleO (tmpF (lcF (itS (varF 0)) (nmT 1) (yesT) (callF self (consC (aD (varF 1)) (nilC))) [1]))))
    (nxS))
    (retS (varF 0)))
def F_fresh : Nat → FF
  | 0 => fun _ => .stuck
  | n + 1 => defF 1 2 (B_fresh (F_fresh n))

def B_checked_kind_k26 : SF := seqS (setS 1 (callF (F_wrong_part 30) (consC (aD (varF 0)) (nilC))))
    (seqS (ifS (tstF (op1 notNO (slotF 1)))
    (raiseS "InvalidKind" (callF (F_fresh 30) (consC (aD (varF 1)) (nilC))))
    (nxS))
    (retS (varF 0)))
def F_checked_kind_k26 : FF := defF 1 2 B_checked_kind_k26

def B_checked_word : SF := seqS (ifS (orT (notT (chF (fun i j => decide (i ≤ j)) (fun i j => decide (i ≤ j)) (cF (.int 1)) (op1 lenO (slotF 0)) (cF (.int 8)))) (notT (truF (tmpF (op1 allO (tmpF (lcF (strI (varF 0)) (nmT 1) (yesT) (op2 inO (slotF 1) (tmpF (cF (.str "abcdefghijklmnopqrstuvwxyz")))) [1])))))))
    (raiseS "InvalidWord" (varF 0))
    (nxS))
    (retS (varF 0))
def F_checked_word : FF := defF 1 2 B_checked_word

noncomputable def L1_made_rule : SF := ifS (tstF (op2 eqO (tmpF (ixS 1 (cF (.int 0)))) (tmpF (cF (.str "behind")))))
    (seqS (exS (mm1 3 appO (op2 ixO (tmpF (ixS 1 (cF (.int 2)))) (tmpF (cF (.int 1))))))
    (setS 1 (ixS 1 (cF (.int 1)))))
    (seqS (setS 2 (lstF (consA (op2 ixO (tmpF (ixS 1 (cF (.int 1)))) (tmpF (cF (.int 1)))) (starA (slotF 2) (nilA)))))
    (setS 1 (ixS 1 (cF (.int 2)))))
noncomputable def B_made_rule : SF := seqS (par2S 2 3 (consA (lstF (nilA)) (consA (lstF (nilA)) (nilA))))
    (seqS (whileS (tstF (op2 neO (tmpF (ixS 1 (cF (.int 0)))) (tmpF (cF (.str "plain"))))) L1_made_rule)
    (retS (tpF (consA (ixS 1 (cF (.int 1))) (consA (movF 2) (consA (varF 0) (consA (movF 3) (nilA))))))))
noncomputable def F_made_rule : FF := defF 2 4 B_made_rule

noncomputable def B_rule_of : SF := seqS (exS (callF F_checked_word (consC (aD (varF 0)) (nilC))))
    (seqS (exS (callF F_checked_kind_k26 (consC (aD (varF 1)) (nilC))))
    (seqS (exS (callF F_check_flat (consC (aD (varF 1)) (nilC))))
    (retS (callF F_made_rule (consC (aD (varF 0)) (consC (aD (varF 1)) (nilC)))))))
noncomputable def F_rule_of : FF := defF 2 2 B_rule_of

noncomputable def B_refused : SF := seqS (setS 2 (cF .none))
    (seqS (tryS 3 (mtT [("InvalidKind", false), ("InvalidWord", false), ("NotFlat", true)]) (exS (callF F_rule_of (consC (aD (varF 0)) (consC (aD (varF 1)) (nilC))))) (fun dat => seqS (setS 2 (cF dat)) (nxS)))
    (retS (op2 eqO (slotF 2) (slotF 1))))
noncomputable def F_refused : FF := defF 2 4 B_refused

def L1_rule : SF := seqS (ifS (tstF (op2 eqO (tmpF (ixS 1 (cF (.int 0)))) (tmpF (cF (.str "plain")))))
    (bkS)
    (nxS))
    (ifS (tstF (op2 eqO (tmpF (ixS 1 (cF (.int 0)))) (tmpF (cF (.str "behind")))))
    (seqS (exS (mm1 3 appO (op2 ixO (tmpF (ixS 1 (cF (.int 2)))) (tmpF (cF (.int 1))))))
    (setS 1 (ixS 1 (cF (.int 1)))))
    (seqS (exS (mm2 2 insO (cF (.int 0)) (op2 ixO (tmpF (ixS 1 (cF (.int 1)))) (tmpF (cF (.int 1))))))
    (setS 1 (ixS 1 (cF (.int 2))))))
def B_rule : SF := seqS (par2S 2 3 (consA (lstF (nilA)) (consA (lstF (nilA)) (nilA))))
    (seqS (forS (rng1 (tmpF (cF (.int 40)))) (nmT 4) L1_rule)
    (retS (tupF (consA (ixS 1 (cF (.int 1))) (consA (varF 2) (consA (varF 0) (consA (varF 3) (nilA))))))))
def F_rule : FF := defF 2 5 B_rule

def B_waits (self : FF) : SF := seqS (ifS (tstF (op2 neO (slotF 2) (tmpF (lstF (nilA)))))
    (retS (tupF (consA (cF (.str "behind")) (consA (callF self (consC (aD (varF 0)) (consC (aD (varF 1)) (consC (aD (op2 slLo (slotF 2) (tmpF (cF (.int 1))))) (nilC))))) (consA (tupF (consA (cF (.str "plain")) (consA (ixS 2 (cF (.int 0))) (nilA)))) (nilA))))))
    (nxS))
    (seqS (ifS (tstF (op2 neO (slotF 1) (tmpF (lstF (nilA)))))
    (retS (tupF (consA (cF (.str "ahead")) (consA (tupF (consA (cF (.str "plain")) (consA (ixS 1 (op1 negO (tmpF (cF (.int 1))))) (nilA)))) (consA (callF self (consC (aD (varF 0)) (consC (aD (op2 slHi (slotF 1) (tmpF (op1 negO (tmpF (cF (.int 1))))))) (consC (aD (varF 2)) (nilC))))) (nilA))))))
    (nxS))
    (retS (tupF (consA (cF (.str "plain")) (consA (varF 0) (nilA))))))
def F_waits : Nat → FF
  | 0 => fun _ => .stuck
  | n + 1 => defF 3 3 (B_waits (F_waits n))

noncomputable def B_is_flat_k26 : SF := seqS (exS (callF F_checked_kind_k26 (consC (aD (varF 0)) (nilC))))
    (retS (callF F_flat_k26 (consC (aD (varF 0)) (nilC))))
noncomputable def F_is_flat_k26 : FF := defF 1 1 B_is_flat_k26

def L1_kind_of_rule : SF := setS 5 (tupF (consA (cF (.str "ahead")) (consA (tupF (consA (cF (.str "plain")) (consA (varF 6) (nilA)))) (consA (varF 5) (nilA)))))
def L2_kind_of_rule : SF := setS 5 (tupF (consA (cF (.str "behind")) (consA (varF 5) (consA (tupF (consA (cF (.str "plain")) (consA (varF 6) (nilA)))) (nilA)))))
def B_kind_of_rule : SF := seqS (asgS (tupT 4 (consTs (nmT 1) (consTs (nmT 2) (consTs (nmT 3) (consTs (nmT 4) (nilTs)))))) (varF 0))
    (seqS (setS 5 (tupF (consA (cF (.str "plain")) (consA (varF 1) (nilA)))))
    (seqS (forS (itS (varF 2)) (nmT 6) L1_kind_of_rule)
    (seqS (forS (itS (op1 revLO (slotF 4))) (nmT 6) L2_kind_of_rule)
    (retS (movF 5)))))
def F_kind_of_rule : FF := defF 1 7 B_kind_of_rule

noncomputable def B_kind_right : SF := seqS (setS 2 (callF (F_is_flat 30) (consC (aD (varF 1)) (nilC))))
    (seqS (setS 3 (callF F_is_flat_k26 (consC (aD (varF 1)) (nilC))))
    (seqS (ifS (orT (notT (truF (tmpF (op1 (isaO ["bool"]) (slotF 3))))) (orT (tstF (op2 neO (slotF 3) (slotF 2))) (tstF (op2 neO (tmpF (callF F_is_flat_k26 (consC (aD (varF 1)) (nilC)))) (slotF 2)))))
    (retS (cF (.bool false)))
    (nxS))
    (seqS (ifS (notT (truF (slotF 2)))
    (retS (callF F_refused (consC (aD (varF 0)) (consC (aD (varF 1)) (nilC)))))
    (nxS))
    (seqS (setS 4 (callF F_rule (consC (aD (varF 0)) (consC (aD (varF 1)) (nilC)))))
    (seqS (setS 3 (callF F_rule_of (consC (aD (varF 0)) (consC (aD (varF 1)) (nilC)))))
    (seqS (ifS (orT (notT (truF (tmpF (op1 (isaO ["tuple"]) (slotF 3))))) (tstF (op2 neO (slotF 3) (slotF 4))))
    (retS (cF (.bool false)))
    (nxS))
    (seqS (ifS (frT (orT (tstF (op2 neO (tmpF (callF F_kind_of_rule (consC (aD (varF 3)) (nilC)))) (tmpF (callF (F_waits 30) (consC (aD (ixS 4 (cF (.int 0)))) (consC (aD (ixS 4 (cF (.int 1)))) (consC (aD (ixS 4 (cF (.int 3)))) (nilC)))))))) (tstF (op2 neO (slotF 3) (slotF 4)))))
    (retS (cF (.bool false)))
    (nxS))
    (seqS (exS (elF 3 1 (fun o => appO o (.str "z"))))
    (seqS (exS (elF 3 3 (fun o => insO o (.int 0) (.str "y"))))
    (retS (op2 eqO (tmpF (callF F_rule_of (revC (consC (aD (varF 1)) (consC (aD (varF 0)) (nilC)))))) (slotF 4))))))))))))
noncomputable def F_kind_right : FF := defF 2 5 B_kind_right

def L1_words : SF := seqS (setS 5 (op2c isStr joinO (tmpF (cF (.str ""))) (tmpF (lcF (rng1 (tmpF (op2 addO (tmpF (cF (.int 1))) (tmpF (callF F_draw (lendC 0 (consC (aD (cF (.int 8))) (nilC)))))))) (nmT 6) (yesT) (ixS 2 (callF F_draw (lendC 0 (consC (aD (cF (.int 26))) (nilC))))) [6]))))
    (seqS (ifS (andT (tstF (op2 neO (slotF 3) (tmpF (lstF (nilA))))) (tstF (op2 eqO (tmpF (callF F_draw (lendC 0 (consC (aD (cF (.int 2))) (nilC))))) (tmpF (cF (.int 0))))))
    (seqS (setS 7 (ixS 3 (callF F_draw (lendC 0 (consC (aD (op1 lenO (slotF 3))) (nilC))))))
    (seqS (setS 8 (callF F_draw (lendC 0 (consC (aD (op1 lenO (slotF 7))) (nilC)))))
    (setS 5 (op2 ixO (tmpF (lstF (consA (op2 slHi (slotF 7) (slotF 8)) (consA (op2 addO (tmpF (op2 slHi (slotF 5) (tmpF (cF (.int 1))))) (slotF 7)) (consA (op2 addO (slotF 7) (tmpF (op2 slHi (slotF 5) (tmpF (cF (.int 1)))))) (consA (op2 addO (tmpF (op2 addO (tmpF (op2 slHi (slotF 7) (slotF 8))) (tmpF (op2 slHi (slotF 5) (tmpF (cF (.int 1))))))) (tmpF (op2 slLo (slotF 7) (tmpF (op2 addO (slotF 8) (tmpF (cF (.int 1)))))))) (nilA))))))) (tmpF (callF F_draw (lendC 0 (consC (aD (cF (.int 4))) (nilC)))))))))
    (nxS))
    (ifS (andT (tstF (op2 neO (slotF 5) (tmpF (cF (.str ""))))) (andT (tstF (op2 ltO (tmpF (op1 lenO (slotF 5))) (tmpF (cF (.int 9))))) (tstF (ninS 3 (varF 5)))))
    (exS (mm1 3 appO (varF 5)))
    (nxS)))
def B_words : SF := seqS (par2S 2 3 (consA (cF (.str "abcdefghijklmnopqrstuvwxyz")) (consA (lstF (nilA)) (nilA))))
    (seqS (forS (rng1 (slotF 1)) (nmT 4) L1_words)
    (retS (movF 3)))
def F_words : FF := defF 2 9 B_words

noncomputable def L1_right : SF := seqS (setS 3 (callF (F_kind 30) (lendC 0 (consC (aD (op2 addO (tmpF (cF (.int 1))) (tmpF (callF F_draw (lendC 0 (consC (aD (cF (.int 7))) (nilC))))))) (consC (aD (op2 eqO (tmpF (callF F_draw (lendC 0 (consC (aD (cF (.int 2))) (nilC))))) (tmpF (cF (.int 0))))) (nilC))))))
    (seqS (ifS (andT (tstF (op2 ltO (tmpF (callF (F_depth 30) (consC (aD (varF 3)) (nilC)))) (tmpF (cF (.int 6))))) (notT (truF (tmpF (callF F_kind_right (consC (aD (ixS 1 (op2 modO (tmpF (op1 intO (slotF 2))) (tmpF (op1 lenO (slotF 1)))))) (consC (aD (varF 3)) (nilC))))))))
    (retS (cF (.bool false)))
    (nxS))
    (seqS (setS 4 (callF F_flat (lendC 0 (consC (aD (ixS 0 (cF (.int 3)))) (consC (aD (callF F_draw (lendC 0 (consC (aD (cF (.int 5))) (nilC))))) (nilC))))))
    (ifS (notT (truF (tmpF (callF F_kind_right (consC (aD (ixS 1 (cF (.int 0)))) (consC (aD (varF 4)) (nilC)))))))
    (retS (cF (.bool false)))
    (nxS))))
noncomputable def B_right : SF := seqS (setS 1 (callF F_words (lendC 0 (consC (aD (cF (.int 3))) (nilC)))))
    (seqS (forS (rng1 (tmpF (cF (.int 3)))) (nmT 2) L1_right)
    (seqS (setS 5 (callF F_draw (lendC 0 (consC (aD (cF (.int 5))) (nilC)))))
    (seqS (setS 6 (callF F_draw (lendC 0 (consC (aD (op2 addO (slotF 5) (tmpF (cF (.int 1))))) (nilC)))))
    (seqS (setS 7 (lcF (rng1 (slotF 5)) (nmT 2) (yesT) (op2 ixO (tmpF (ixS 0 (cF (.int 3)))) (tmpF (callF F_draw (lendC 0 (consC (aD (op1 lenO (tmpF (ixS 0 (cF (.int 3)))))) (nilC)))))) [2]))
    (seqS (setS 8 (tupF (consA (op2 ixO (tmpF (ixS 0 (cF (.int 3)))) (tmpF (cF (.int 1)))) (consA (op2 slHi (slotF 7) (slotF 6)) (consA (ixS 1 (op1 negO (tmpF (cF (.int 1))))) (consA (op2 slLo (slotF 7) (slotF 6)) (nilA)))))))
    (seqS (setS 9 (callF (F_waits 30) (consC (aD (ixS 8 (cF (.int 0)))) (consC (aD (op2 slHi (slotF 7) (slotF 6))) (consC (aD (op2 slLo (slotF 7) (slotF 6))) (nilC))))))
    (retS (andE (op2 eqO (tmpF (callF F_kind_of_rule (consC (aD (varF 8)) (nilC)))) (slotF 9)) (andE (op2 eqO (tmpF (callF F_kind_of_rule (consC (aD (varF 8)) (nilC)))) (slotF 9)) (op2 eqO (tmpF (op2 addO (tmpF (ixS 8 (cF (.int 1)))) (tmpF (ixS 8 (cF (.int 3)))))) (slotF 7)))))))))))
noncomputable def F_right : FF := defF 1 10 B_right

def B_source : SF := seqS (setS 2 (ifE (tstF (op2 ltO (slotF 1) (tmpF (op1 lenO (slotF 0))))) (op1 intO (tmpF (ixS 0 (varF 1)))) (op2 addO (tmpF (op2 addO (tmpF (op2 mulO (tmpF (cF (.int 60013))) (slotF 1))) (tmpF (op2 mulO (tmpF (op2 mulO (tmpF (cF (.int 7))) (tmpF (op1 lenO (slotF 0))))) (tmpF (op1 lenO (slotF 0))))))) (tmpF (cF (.int 3))))))
    (seqS (setS 3 (lstF (consA (op2 max2O (tmpF (cF (.int 0))) (tmpF (op2 subO (tmpF (op1 absO (slotF 2))) (tmpF (op2 powO (tmpF (cF (.int 10))) (tmpF (cF (.int 18)))))))) (consA (op2 modO (tmpF (op1 intO (tmpF (op2 addO (tmpF (op2 addO (tmpF (op2 mulO (slotF 2) (tmpF (cF (.int 92821))))) (tmpF (op2 mulO (slotF 1) (tmpF (cF (.int 1000003))))))) (tmpF (cF (.int 17))))))) (tmpF (op2 addO (tmpF (op2 powO (tmpF (cF (.int 10))) (tmpF (cF (.int 30))))) (tmpF (cF (.int 57)))))) (consA (cF (.int 0)) (consA (lstF (nilA)) (nilA)))))))
    (seqS (setS 4 (op2 ixO (tmpF (lstF (consA (cF (.int 1)) (consA (cF (.int 2)) (consA (cF (.int 3)) (consA (cF (.int 7)) (consA (cF (.int 14)) (nilA)))))))) (tmpF (callF F_draw (lendC 3 (consC (aD (cF (.int 5))) (nilC)))))))
    (seqS (setS 5 (lcF (rng1 (slotF 4)) (nmT 6) (yesT) (op2 ixO (tmpF (cF (.str "abcdefghijklmnopqrstuvwxyz"))) (tmpF (callF F_draw (lendC 3 (consC (aD (cF (.int 26))) (nilC)))))) [6]))
    (seqS (stS 3 stA (cF (.int 3)) (ifE (tstF (op2 gtO (slotF 4) (tmpF (cF (.int 2))))) (varF 5) (lstF (consA (ixS 5 (cF (.int 0))) (consA (ixS 5 (op1 negO (tmpF (cF (.int 1))))) (consA (ixS 5 (cF (.int 0))) (nilA)))))))
    (retS (movF 3))))))
def F_source : FF := defF 2 7 B_source

noncomputable def L1_law_k26 : SF := ifS (notT (truF (tmpF (callF F_right (consC (aT (callF F_source (consC (aD (varF 0)) (consC (aD (varF 1)) (nilC))))) (nilC))))))
    (retS (cF (.bool false)))
    (nxS)
noncomputable def B_law_k26 : SF := seqS (forS (rng1 (tmpF (op2 max2O (tmpF (cF (.int 2))) (tmpF (op2 min2O (tmpF (cF (.int 8))) (tmpF (op1 lenO (slotF 0)))))))) (nmT 1) L1_law_k26)
    (retS (cF (.bool true)))
noncomputable def F_law_k26 : FF := defF 1 2 B_law_k26
end Fn

namespace Fn
open PySem PySem.Spec PyProof.Rows L2 Ww Vs
/-! ### data alike itself -/
mutual
theorem eqv_self : ∀ (n : Nat) (d : PyData), Gd n d → PyData.eqv d d = true
  | 0, _, h => h.elim
  | _ + 1, .none, _ => rfl
  | _ + 1, .bool b, _ => by cases b <;> rfl
  | _ + 1, .int i, _ => by simp
  | _ + 1, .str s, _ => by simp
  | n + 1, .list ds, h => eqv_selfs n ds h.2
  | n + 1, .tuple ds, h => eqv_selfs n ds h.2
  | _ + 1, .dict _, h => h.elim
theorem eqv_selfs : ∀ (n : Nat) (ds : List PyData), (∀ d ∈ ds, Gd n d) → PyData.eqvAll ds ds = true
  | _, [], _ => rfl
  | n, d :: ds, h => by
    have e1 := eqv_self n d (h d List.mem_cons_self)
    have e2 := eqv_selfs n ds fun x hx => h x (List.mem_cons_of_mem _ hx)
    show (PyData.eqv d d && PyData.eqvAll ds ds) = true
    rw [e1, e2]
    rfl
end
mutual
theorem gd_depth : ∀ (n : Nat) (d : PyData), Gd n d → d.depth ≤ n
  | 0, _, h => h.elim
  | _ + 1, .none, _ => Nat.zero_le _
  | _ + 1, .bool b, _ => Nat.zero_le _
  | _ + 1, .int i, _ => Nat.zero_le _
  | _ + 1, .str s, _ => Nat.zero_le _
  | n + 1, .list ds, h => by
    have := gd_depths n ds h.2
    show PyData.depthAll ds + 1 ≤ n + 1
    omega
  | n + 1, .tuple ds, h => by
    have := gd_depths n ds h.2
    show PyData.depthAll ds + 1 ≤ n + 1
    omega
  | _ + 1, .dict _, h => h.elim
theorem gd_depths : ∀ (n : Nat) (ds : List PyData), (∀ d ∈ ds, Gd n d) → PyData.depthAll ds ≤ n
  | _, [], _ => Nat.zero_le _
  | n, d :: ds, h => by
    have e1 := gd_depth n d (h d List.mem_cons_self)
    have e2 := gd_depths n ds fun x hx => h x (List.mem_cons_of_mem _ hx)
    show max d.depth (PyData.depthAll ds) ≤ n
    omega
end
theorem eq_self {d : PyData} (h : Gd 60 d) : eqO (.dat d) (.dat d) = some (.dat (.bool true)) := by
  have e := gd_depth 60 d h
  rw [x_eqO, if_pos (by omega), eqv_self 60 d h] <;> rfl
theorem ne_self {d : PyData} (h : Gd 60 d) : neO (.dat d) (.dat d) = some (.dat (.bool false)) := by
  have e := gd_depth 60 d h
  rw [x_neO, if_pos (by omega), eqv_self 60 d h] <;> rfl
@[simp] theorem x_dv_tp (es : List El) : (O.tp es).dv = some (.tuple (es.map El.dv)) := (rfl)
@[simp] theorem x_el_d (d : PyData) : (El.d d).dv = d := (rfl)
@[simp] theorem x_el_l (d : List PyData) : (El.l d).dv = .list d := (rfl)
@[simp] theorem x_isa_tp (ns : List String) (es : List El) : isaO ns (.tp es) = some (.dat (.bool (ns.any fun n => isA "tuple" n))) := (rfl)
theorem ne_tp {es : List El} {d : PyData} (e : PyData.tuple (es.map El.dv) = d) (h : Gd 60 d) : neO (.tp es) (.dat d) = some (.dat (.bool false)) := by
  subst e
  exact ne_self h
theorem eq_tp {es : List El} {d : PyData} (e : PyData.tuple (es.map El.dv) = d) (h : Gd 60 d) : eqO (.tp es) (.dat d) = some (.dat (.bool true)) := by
  subst e
  exact eq_self h
theorem eq_ls {ds : List PyData} (h : Gd 60 (.list ds)) : eqO (.ls ds) (.dat (.list ds)) = some (.dat (.bool true)) := eq_self h
/-! ### more rewriting -/
@[simp] theorem x_max2 (i j : Int) : max2O (.dat (.int i)) (.dat (.int j)) = some (.dat (.int (if i < j then j else i))) := by unfold max2O; first | rfl | simp
@[simp] theorem x_min2 (i j : Int) : min2O (.dat (.int i)) (.dat (.int j)) = some (.dat (.int (if j < i then j else i))) := by unfold min2O; first | rfl | simp
end Fn

namespace Fn
open PySem PySem.Spec PyProof.Rows L2 Ww Vs
/-! ### the law's source of draws, at most n draws so far; the letters ls -/
def Sb (n : Nat) (ls : List Str) (ds : List PyData) : Prop := ∃ a b c : Int, ds = [.int a, .int b, .int c, .list (ls.map .str)] ∧ 0 ≤ a ∧ 0 ≤ b ∧ b < 10 ^ 31 ∧ 0 ≤ c ∧ c ≤ n
theorem Sb.le {n n' : Nat} {ls : List Str} {ds : List PyData} (h : Sb n ls ds) (l : n ≤ n') : Sb n' ls ds := by
  obtain ⟨a, b, c, h1, h2, h3, h4, h5, h6⟩ := h
  exact ⟨a, b, c, h1, h2, h3, h4, h5, by omega⟩
theorem pow3 {i : Int} (h : i.natAbs < 2 ^ 200) : powOk i 3 = true := powOk_b (by decide) (by decide) (Nat.lt_of_lt_of_le h (Nat.pow_le_pow_right (by decide) (by decide)))
theorem draw_ok (n : Nat) (ls : List Str) (ds : List PyData) (many : Int) (hs : Sb n ls ds) (hn : n ≤ 1000000) (m0 : 0 < many) (m1 : many < 2 ^ 200) :
    ∃ (r : Int) (es : List PyData), 0 ≤ r ∧ r < many ∧ Sb (n + 1) ls es ∧ F_draw [.ls ds, .dat (.int many)] = .ok (.dat (.int r)) [.bor (.ls es), .no] := by
  obtain ⟨a, b, c, rfl, a0, b0, b1, c0, c1⟩ := hs
  have wm : Wid many := wid_of (by omega)
  have ne : many ≠ 0 := by omega
  by_cases ca : 0 < a
  · refine ⟨a % many, [.int (a / many), .int b, .int c, .list (ls.map .str)], Int.emod_nonneg _ ne, Int.emod_lt_of_pos _ m0, ⟨_, _, _, rfl, Int.ediv_nonneg a0 (by omega), b0, b1, c0, by omega⟩, ?_⟩
    simp [F_draw, x_def, x_entry, x_leave, B_draw, ca, ixN, m0, wm]
  · have na : nar 15485863 = true := nar_of (by decide) (by decide)
    have nb : nar 32452843 = true := nar_of (by decide) (by decide)
    have w7 : Wid 10000000 := by decide
    have p1 : powOk (b + 15485863 * (c + 1)) 3 = true := pow3 (by omega)
    have t0 := Int.emod_nonneg ((b + 15485863 * (c + 1)) ^ 3) (show (1000000000000000000000000000000061 : Int) ≠ 0 by decide)
    have t1 := Int.emod_lt_of_pos ((b + 15485863 * (c + 1)) ^ 3) (show (0 : Int) < 1000000000000000000000000000000061 by decide)
    generalize hz : (b + 15485863 * (c + 1)) ^ 3 % 1000000000000000000000000000000061 = z at t0 t1
    have p2 : powOk (z + 32452843 * (c + 1)) 3 = true := pow3 (by omega)
    generalize hy : (z + 32452843 * (c + 1)) ^ 3 % 10000000000000000000000000000033 = y
    refine ⟨y / 10000000 % many, [.int a, .int b, .int (c + 1), .list (ls.map .str)], Int.emod_nonneg _ ne, Int.emod_lt_of_pos _ m0, ⟨_, _, _, rfl, a0, b0, b1, by omega, by omega⟩, ?_⟩
    simp [F_draw, x_def, x_entry, x_leave, B_draw, ca, ixN, m0, wm, na, nb, w7, p1, hz, p2, hy]
end Fn

namespace Fn
open PySem PySem.Spec PyProof.Rows L2 Ww Vs
@[simp] theorem s_ab : ((Str.ofString "ahead") == (Str.ofString "behind")) = false := by decide +kernel
@[simp] theorem s_ba : ((Str.ofString "behind") == (Str.ofString "ahead")) = false := by decide +kernel
@[simp] theorem s_wa : ((Str.ofString "with") == (Str.ofString "ahead")) = false := by decide +kernel
@[simp] theorem s_wb : ((Str.ofString "with") == (Str.ofString "behind")) = false := by decide +kernel
@[simp] theorem s_aw : ((Str.ofString "ahead") == (Str.ofString "with")) = false := by decide +kernel
@[simp] theorem s_bw : ((Str.ofString "behind") == (Str.ofString "with")) = false := by decide +kernel
@[simp] theorem s_wp : ((Str.ofString "with") == (Str.ofString "plain")) = false := by decide +kernel
@[simp] theorem s_ap : ((Str.ofString "ahead") == (Str.ofString "plain")) = false := by decide +kernel
@[simp] theorem s_bp : ((Str.ofString "behind") == (Str.ofString "plain")) = false := by decide +kernel
@[simp] theorem s_pw : ((Str.ofString "plain") == (Str.ofString "with")) = false := by decide +kernel
@[simp] theorem s_pa : ((Str.ofString "plain") == (Str.ofString "ahead")) = false := by decide +kernel
@[simp] theorem s_pb : ((Str.ofString "plain") == (Str.ofString "behind")) = false := by decide +kernel
theorem Sb.at3 {n : Nat} {ls : List Str} {ds : List PyData} (h : Sb n ls ds) : atI ds 3 = some (.list (ls.map .str)) := by
  obtain ⟨a, b, c, rfl, _⟩ := h
  simp
theorem at_str {ls : List Str} {i : Int} (h0 : 0 ≤ i) (h1 : i < ls.length) : ∃ x ∈ ls, atI (ls.map PyData.str) i = some (.str x) := by
  have hi : i.toNat < ls.length := by omega
  refine ⟨ls[i.toNat], List.getElem_mem hi, ?_⟩
  unfold atI
  rw [ixN_of h0 (by rw [List.length_map]; exact h1)]
  simp [hi]
/-- letters to draw from -/
def Ls (ls : List Str) : Prop := (∀ s ∈ ls, Let s) ∧ 3 ≤ ls.length ∧ ls.length ≤ 14
theorem form3 {r : Int} (h0 : 0 ≤ r) (h1 : r < 3) : ∃ f, Form f ∧ atI [PyData.str "behind", .str "ahead", .str "with"] r = some (.str f) := by
  have : r = 0 ∨ r = 1 ∨ r = 2 := by omega
  rcases this with rfl | rfl | rfl
  · exact ⟨_, .inl rfl, by simp⟩
  · exact ⟨_, .inr (.inl rfl), by simp⟩
  · exact ⟨_, .inr (.inr rfl), by simp⟩
theorem kind_ok : ∀ (n c : Nat) (ls : List Str) (ds : List PyData) (m : Int) (sg : Bool), Sb c ls ds → c + 3 * m.toNat ≤ 900000 → Ls ls → 1 ≤ m → m ≤ 1000 → m ≤ n →
    ∃ (k : Kd) (es : List PyData), k.ok ∧ (k.letters.length : Int) = m ∧ (k.deep : Int) ≤ m ∧ Sb (c + 3 * m.toNat - 2) ls es ∧ F_kind n [.ls ds, .dat (.int m), .dat (.bool sg)] = .ok (.dat k.dat) [.bor (.ls es), .no, .no]
  | 0, _, _, _, _, _, _, _, _, h1, _, h2 => by omega
  | n + 1, c, ls, ds, m, sg, hs, hc, hl, m1, m2, h2 => by
    by_cases c1 : m < 2
    · obtain ⟨r, es, a0, a1, s1, e1⟩ := draw_ok c ls ds ls.length hs (by omega) (by have := hl.2.1; omega) (by have := hl.2.2; omega)
      obtain ⟨x, hx, ex⟩ := at_str a0 a1
      have em : m = 1 := by omega
      refine ⟨.pl x, es, hl.1 x hx, by show (1 : Int) = m; omega, by show (1 : Int) ≤ m; omega, s1.le (by omega), ?_⟩
      simp [F_kind, x_def, x_entry, x_leave, B_kind, c1, hs.at3, e1, ex]
    · obtain ⟨r, es1, a0, a1, s1, e1⟩ := draw_ok c ls ds (m - 1) hs (by omega) (by omega) (by omega)
      obtain ⟨k1, es2, o2, l2, d2, s2, e2⟩ := kind_ok n (c + 1) ls es1 (1 + r) sg s1 (by omega) hl (by omega) (by omega) (by omega)
      obtain ⟨k2, es3, o3, l3, d3, s3, e3⟩ := kind_ok n _ ls es2 (m - (1 + r)) sg s2 (by omega) hl (by omega) (by omega) (by omega)
      have fin : ∀ f es4, Form f → Sb (c + 1 + 3 * (1 + r).toNat - 2 + 3 * (m - (1 + r)).toNat - 2 + 1) ls es4 → F_kind (n + 1) [.ls ds, .dat (.int m), .dat (.bool sg)] = .ok (.dat (Kd.nd f k1 k2).dat) [.bor (.ls es4), .no, .no] →
          ∃ (k : Kd) (es : List PyData), k.ok ∧ (k.letters.length : Int) = m ∧ (k.deep : Int) ≤ m ∧ Sb (c + 3 * m.toNat - 2) ls es ∧ F_kind (n + 1) [.ls ds, .dat (.int m), .dat (.bool sg)] = .ok (.dat k.dat) [.bor (.ls es), .no, .no] := by
        intro f es4 hf s4 e4
        refine ⟨.nd f k1 k2, es4, ⟨hf, o2, o3⟩, ?_, ?_, s4.le (by omega), e4⟩
        · show ((k1.letters ++ k2.letters).length : Int) = m
          rw [List.length_append]
          omega
        · show ((1 + max k1.deep k2.deep : Nat) : Int) ≤ m
          omega
      cases sg with
      | true =>
        obtain ⟨q, es4, b0, b1, s4, e4⟩ := draw_ok _ ls es3 2 s3 (by omega) (by decide) (by decide)
        obtain ⟨f, hf, ef⟩ := form3 b0 (by omega)
        refine fin f es4 hf s4 ?_
        simp [F_kind, x_def, x_entry, x_leave, B_kind, c1, e1, e2, e3, e4, ef]
      | false =>
        obtain ⟨q, es4, b0, b1, s4, e4⟩ := draw_ok _ ls es3 3 s3 (by omega) (by decide) (by decide)
        obtain ⟨f, hf, ef⟩ := form3 b0 (by omega)
        refine fin f es4 hf s4 ?_
        simp [F_kind, x_def, x_entry, x_leave, B_kind, c1, e1, e2, e3, e4, ef]
theorem depth_ok : ∀ (n : Nat) (k : Kd), k.ok → k.deep ≤ n → F_depth n [.dat k.dat] = .ok (.dat (.int k.deep)) [.no]
  | 0, k, _, h => by have := k.deep_pos; omega
  | n + 1, .pl s, _, _ => by simp [F_depth, x_def, x_entry, x_leave, B_depth, Kd.deep]
  | n + 1, .nd f a b, ⟨hf, oa, ob⟩, h => by
    have dm : 1 + max a.deep b.deep ≤ n + 1 := h
    have ea := depth_ok n a oa (by omega)
    have eb := depth_ok n b ob (by omega)
    have ed : ((Kd.nd f a b).deep : Int) = 1 + if (a.deep : Int) < b.deep then (b.deep : Int) else a.deep := by
      show ((1 + max a.deep b.deep : Nat) : Int) = _
      split <;> omega
    rw [ed]
    simp [F_depth, x_def, x_entry, x_leave, B_depth, form_ne hf, ea, eb]
/-! ### flat kinds -/
def _root_.Ww.Kd.isPl : Kd → Bool
  | .pl _ => true
  | .nd _ _ _ => false
def _root_.Ww.Kd.tag : Kd → Str
  | .pl _ => "plain"
  | .nd f _ _ => f

@[simp] theorem kd_ix0 (k : Kd) : ixO (.dat k.dat) (.dat (.int 0)) = some (.dat (.str k.tag)) := by cases k <;> simp [Kd.tag]
theorem tag_pl {k : Kd} (ok : k.ok) : (k.tag == Str.ofString "plain") = k.isPl := by
  cases k with
  | pl s => simp [Kd.tag, Kd.isPl]
  | nd f a b => exact form_ne ok.1
def _root_.Ww.Kd.flat : Kd → Bool
  | .pl _ => true
  | .nd f a b => if f == Str.ofString "behind" then b.isPl && a.flat else if f == Str.ofString "ahead" then a.isPl && b.flat else false
theorem is_flat_ok : ∀ (n : Nat) (k : Kd), k.ok → k.deep ≤ n → F_is_flat n [.dat k.dat] = .ok (.dat (.bool k.flat)) [.no]
  | 0, k, _, h => by have := k.deep_pos; omega
  | n + 1, .pl s, _, _ => by simp [F_is_flat, x_def, x_entry, x_leave, B_is_flat, Kd.flat]
  | n + 1, .nd f a b, ⟨hf, oa, ob⟩, h => by
    have dm : 1 + max a.deep b.deep ≤ n + 1 := h
    have ea := is_flat_ok n a oa (by omega)
    have eb := is_flat_ok n b ob (by omega)
    have ta := tag_pl oa
    have tb := tag_pl ob
    rcases hf with rfl | rfl | rfl
    · cases hb : b.isPl <;> simp [F_is_flat, x_def, x_entry, x_leave, B_is_flat, Kd.flat, ea, tb, hb]
    · cases hb : a.isPl <;> simp [F_is_flat, x_def, x_entry, x_leave, B_is_flat, Kd.flat, eb, ta, hb]
    · simp [F_is_flat, x_def, x_entry, x_leave, B_is_flat, Kd.flat]
theorem flat_while : ∀ (k : Kd), k.ok → ∀ s1 s2, Fr s1 → Fr s2 → ∃ d s1' s2', whileS (tstF (op2 neO (tmpF (ixS 0 (cF (.int 0)))) (tmpF (cF (.str "plain"))))) L1_flat_k26 [.val (.dat k.dat), s1, s2] =
    if k.flat = true then .nx [.val (.dat d), s1', s2'] else .rt (.dat (.bool false)) [.val (.dat d), s1', s2']
  | .pl s, _, s1, s2, h1, h2 => ⟨(Kd.pl s).dat, s1, s2, by rw [if_pos (show (Kd.pl s).flat = true from rfl)]; exact whileS_done (by simp)⟩
  | .nd f a b, ⟨hf, oa, ob⟩, s1, s2, h1, h2 => by
    have ht : (tstF (op2 neO (tmpF (ixS 0 (cF (.int 0)))) (tmpF (cF (.str "plain"))))) [.val (.dat (Kd.nd f a b).dat), s1, s2] = .ok true [.val (.dat (Kd.nd f a b).dat), s1, s2] := by simp [form_ne hf]
    have ta := tag_pl oa
    have tb := tag_pl ob
    have go : ∀ (x y : Kd), x.ok → (y.tag == Str.ofString "plain") = y.isPl → (Kd.nd f a b).flat = (y.isPl && x.flat) → (∀ s1 s2, Fr s1 → Fr s2 → ∃ d s1' s2', whileS (tstF (op2 neO (tmpF (ixS 0 (cF (.int 0)))) (tmpF (cF (.str "plain"))))) L1_flat_k26 [.val (.dat x.dat), s1, s2] =
    if x.flat = true then .nx [.val (.dat d), s1', s2'] else .rt (.dat (.bool false)) [.val (.dat d), s1', s2']) →
       L1_flat_k26 [.val (.dat (Kd.nd f a b).dat), s1, s2] = (if y.isPl = true then .nx [.val (.dat x.dat), .val (.dat x.dat), .val (.dat y.dat)] else .rt (.dat (.bool false)) [.val (.dat (Kd.nd f a b).dat), .val (.dat x.dat), .val (.dat y.dat)]) → ∃ d s1' s2', whileS (tstF (op2 neO (tmpF (ixS 0 (cF (.int 0)))) (tmpF (cF (.str "plain"))))) L1_flat_k26 [.val (.dat (Kd.nd f a b).dat), s1, s2] =
    if (Kd.nd f a b).flat = true then .nx [.val (.dat d), s1', s2'] else .rt (.dat (.bool false)) [.val (.dat d), s1', s2'] := by
      intro x y ox ty ef ih hb
      cases hy : y.isPl with
      | false =>
        rw [hy] at hb ef
        rw [if_neg (by decide)] at hb
        rw [ef]
        exact ⟨_, _, _, whileS_ret ht hb⟩
      | true =>
        rw [hy] at hb ef
        rw [if_pos rfl] at hb
        obtain ⟨d, s1', s2', e⟩ := ih (.val (.dat x.dat)) (.val (.dat y.dat)) Fr.val Fr.val
        refine ⟨d, s1', s2', ?_⟩
        rw [ef, Bool.true_and]
        exact whileS_next ht hb e (by split <;> exact fun z => nomatch z)
    rcases hf with rfl | rfl | rfl
    · refine go a b oa tb (by simp [Kd.flat]) (flat_while a oa) ?_
      cases hb : b.isPl <;> simp [L1_flat_k26, x_fr h1, x_fr h2, tb, hb]
    · refine go b a ob ta (by simp [Kd.flat]) (flat_while b ob) ?_
      cases ha : a.isPl <;> simp [L1_flat_k26, x_fr h1, x_fr h2, ta, ha]
    · refine ⟨(Kd.nd (Str.ofString "with") a b).dat, s1, s2, ?_⟩
      rw [show (Kd.nd (Str.ofString "with") a b).flat = false by simp [Kd.flat], if_neg (by decide)]
      exact whileS_ret ht (by simp [L1_flat_k26])
theorem flat_p_ok (k : Kd) (ok : k.ok) : F_flat_k26 [.dat k.dat] = .ok (.dat (.bool k.flat)) [.no] := by
  obtain ⟨d, s1, s2, e⟩ := flat_while k ok .no .no Fr.no Fr.no
  cases h : k.flat <;> simp [F_flat_k26, x_def, x_entry, x_leave, B_flat_k26, e, h]
end Fn

namespace Fn
open PySem PySem.Spec PyProof.Rows L2 Ww Vs
/-! ### the rule of a flat kind -/
def _root_.Ww.Kd.l1 : Kd → Str
  | .pl s => s
  | .nd f _ _ => f
theorem kd_ix1 {k : Kd} (h : k.isPl = true) : ixO (.dat k.dat) (.dat (.int 1)) = some (.dat (.str k.l1)) := by
  cases k with
  | pl s => simp [Kd.l1]
  | nd f a b => cases h
def _root_.Ww.Kd.rl : Kd → List Str → List Str → Str × List Str × List Str
  | .pl s, B, A => (s, B, A)
  | .nd f a b, B, A => if f == Str.ofString "behind" then a.rl B (A ++ [b.l1]) else b.rl (a.l1 :: B) A
theorem flat_nd {f : Str} {a b : Kd} (hf : Form f) (h : (Kd.nd f a b).flat = true) : (f = "behind" ∧ b.isPl = true ∧ a.flat = true) ∨ (f = "ahead" ∧ a.isPl = true ∧ b.flat = true) := by
  rcases hf with rfl | rfl | rfl
  · exact .inl ⟨rfl, by simpa [Kd.flat] using h⟩
  · exact .inr ⟨rfl, by simpa [Kd.flat] using h⟩
  · simp [Kd.flat] at h
theorem rl_len : ∀ (k : Kd) (B A : List Str), (k.rl B A).2.1.length + (k.rl B A).2.2.length + 1 ≤ B.length + A.length + k.deep
  | .pl s, B, A => Nat.le_refl _
  | .nd f a b, B, A => by
    unfold Kd.rl
    have d : (Kd.nd f a b).deep = 1 + max a.deep b.deep := rfl
    split
    · have := rl_len a B (A ++ [b.l1])
      rw [List.length_append, List.length_singleton] at this
      omega
    · have := rl_len b (a.l1 :: B) A
      rw [List.length_cons] at this
      omega
theorem made_while (w : Str) : ∀ (k : Kd), k.ok → k.flat = true → ∀ (B A : List Str), B.length + A.length + k.deep ≤ 1000 → whileS (tstF (op2 neO (tmpF (ixS 1 (cF (.int 0)))) (tmpF (cF (.str "plain"))))) L1_made_rule [.val (.dat (.str w)), .val (.dat k.dat), .val (.ls (B.map .str)), .val (.ls (A.map .str))] =
    .nx [.val (.dat (.str w)), .val (.dat (Kd.pl (k.rl B A).1).dat), .val (.ls ((k.rl B A).2.1.map .str)), .val (.ls ((k.rl B A).2.2.map .str))]
  | .pl s, _, _, B, A, _ => whileS_done (by simp [Kd.rl])
  | .nd f a b, ⟨hf, oa, ob⟩, hfl, B, A, hz => by
    have d : (Kd.nd f a b).deep = 1 + max a.deep b.deep := rfl
    have ht : (tstF (op2 neO (tmpF (ixS 1 (cF (.int 0)))) (tmpF (cF (.str "plain"))))) [.val (.dat (.str w)), .val (.dat (Kd.nd f a b).dat), .val (.ls (B.map .str)), .val (.ls (A.map .str))] = .ok true [.val (.dat (.str w)), .val (.dat (Kd.nd f a b).dat), .val (.ls (B.map .str)), .val (.ls (A.map .str))] := by simp [form_ne hf]
    rcases flat_nd hf hfl with ⟨rfl, hp, hq⟩ | ⟨rfl, hp, hq⟩
    · have ih := made_while w a oa hq B (A ++ [b.l1]) (by rw [List.length_append, List.length_singleton]; omega)
      have e : (Kd.nd (Str.ofString "behind") a b).rl B A = a.rl B (A ++ [b.l1]) := rfl
      rw [e]
      have hs : small (A.length + 1) = true := small_of (by omega)
      refine whileS_next ht ?_ ih (fun z => nomatch z)
      simp [L1_made_rule, kd_ix1 hp, hs]
    · have ih := made_while w b ob hq (a.l1 :: B) A (by rw [List.length_cons]; omega)
      have e : (Kd.nd (Str.ofString "ahead") a b).rl B A = b.rl (a.l1 :: B) A := rfl
      rw [e]
      have hs : small (B.length + 1) = true := small_of (by omega)
      have ed : ∀ xs : List PyData, dvs (xs.map O.dat) = some xs := fun xs => by
        induction xs with
        | nil => rfl
        | cons x xs ih => simp [ih]
      refine whileS_next ht ?_ ih (fun z => nomatch z)
      have ed2 := ed (B.map .str)
      rw [List.map_map] at ed2
      simp [L1_made_rule, kd_ix1 hp, hs, ed2]
theorem made_rule_ok (w : Str) (k : Kd) (ok : k.ok) (hf : k.flat = true) (hd : k.deep ≤ 100) : F_made_rule [.dat (.str w), .dat k.dat] = .ok (.tp [.d (.str (k.rl [] []).1), .l ((k.rl [] []).2.1.map .str), .d (.str w), .l ((k.rl [] []).2.2.map .str)]) [.no, .no] := by
  have e := made_while w k ok hf [] [] (by simp; omega)
  simp only [List.map_nil] at e
  simp [F_made_rule, x_def, x_entry, x_leave, B_made_rule, e]
theorem ins0 (ds : List PyData) (d : PyData) : insO (.ls ds) (.int 0) d = if small (ds.length + 1) = true then some (.ls (d :: ds), .none) else none := by
  simp only [small_iff]
  unfold insO
  by_cases c : ds.length < sizeLine
  · simp [c, Nat.succ_le_of_lt c]
  · have c2 : ¬ ds.length + 1 ≤ sizeLine := c
    simp [c, c2]
theorem rule_loop (w : Str) : ∀ (k : Kd), k.ok → k.flat = true → ∀ (ds : List PyData) (B A : List Str) (s : Sl), Fr s → k.deep ≤ ds.length → B.length + A.length + k.deep ≤ 1000 → ∃ s', loopF (nmT 4) L1_rule ds [.val (.dat (.str w)), .val (.dat k.dat), .val (.ls (B.map .str)), .val (.ls (A.map .str)), s] =
    .nx [.val (.dat (.str w)), .val (.dat (Kd.pl (k.rl B A).1).dat), .val (.ls ((k.rl B A).2.1.map .str)), .val (.ls ((k.rl B A).2.2.map .str)), s']
  | .pl s0, _, _, [], _, _, _, _, h, _ => by have : 1 ≤ 0 := h; omega
  | .pl s0, _, _, d :: ds, B, A, s, hs, _, _ => ⟨.val (.dat d), loop_bk (ρ1 := [.val (.dat (.str w)), .val (.dat (Kd.pl s0).dat), .val (.ls (B.map .str)), .val (.ls (A.map .str)), .val (.dat d)]) (by simp [x_fr hs]) (by simp [L1_rule, Kd.rl])⟩
  | .nd f a b, _, _, [], _, _, _, _, h, _ => by
    have d : (Kd.nd f a b).deep = 1 + max a.deep b.deep := rfl
    rw [List.length_nil] at h
    omega
  | .nd f a b, ⟨hf, oa, ob⟩, hfl, x :: ds, B, A, s, hs, hl, hz => by
    have d : (Kd.nd f a b).deep = 1 + max a.deep b.deep := rfl
    rw [List.length_cons] at hl
    rcases flat_nd hf hfl with ⟨rfl, hp, hq⟩ | ⟨rfl, hp, hq⟩
    · obtain ⟨s', ih⟩ := rule_loop w a oa hq ds B (A ++ [b.l1]) (.val (.dat x)) Fr.val (by omega) (by rw [List.length_append, List.length_singleton]; omega)
      have e : (Kd.nd (Str.ofString "behind") a b).rl B A = a.rl B (A ++ [b.l1]) := rfl
      have hs2 : small (A.length + 1) = true := small_of (by omega)
      refine ⟨s', ?_⟩
      rw [e, ← ih]
      refine loop_nx (ρ1 := [.val (.dat (.str w)), .val (.dat (Kd.nd (Str.ofString "behind") a b).dat), .val (.ls (B.map .str)), .val (.ls (A.map .str)), .val (.dat x)]) (by simp [x_fr hs]) (.inl ?_)
      simp [L1_rule, kd_ix1 hp, hs2]
    · obtain ⟨s', ih⟩ := rule_loop w b ob hq ds (a.l1 :: B) A (.val (.dat x)) Fr.val (by omega) (by rw [List.length_cons]; omega)
      have e : (Kd.nd (Str.ofString "ahead") a b).rl B A = b.rl (a.l1 :: B) A := rfl
      have hs2 : small (B.length + 1) = true := small_of (by omega)
      refine ⟨s', ?_⟩
      rw [e, ← ih]
      refine loop_nx (ρ1 := [.val (.dat (.str w)), .val (.dat (Kd.nd (Str.ofString "ahead") a b).dat), .val (.ls (B.map .str)), .val (.ls (A.map .str)), .val (.dat x)]) (by simp [x_fr hs]) (.inl ?_)
      simp [L1_rule, kd_ix1 hp, hs2, ins0]
/-- a rule as data -/
def rlD (w : Str) (t : Str × List Str × List Str) : PyData := .tuple [.str t.1, .list (t.2.1.map .str), .str w, .list (t.2.2.map .str)]
theorem rule_ok (w : Str) (k : Kd) (ok : k.ok) (hf : k.flat = true) (hd : k.deep ≤ 40) : F_rule [.dat (.str w), .dat k.dat] = .ok (.dat (rlD w (k.rl [] []))) [.no, .no] := by
  obtain ⟨s', e⟩ := rule_loop w k ok hf ((List.range 40).map fun i : Nat => .int (i : Int)) [] [] .no Fr.no (by simpa using hd) (by simp; omega)
  simp only [List.map_nil] at e
  have hr : rngB 40 = true := rngB_of (by decide) (by decide)
  simp only [F_rule, x_def]
  simp [x_entry, x_leave, B_rule, hr, e, rlD]
/-! ### the kind that waits for letters -/
def Wt (h : Str) (B A : List Str) : PyData := A.foldr (fun a k => .tuple [.str "behind", k, .tuple [.str "plain", .str a]]) (B.foldl (fun k b => .tuple [.str "ahead", .tuple [.str "plain", .str b], k]) (.tuple [.str "plain", .str h]))
theorem slLo1 (d : PyData) (ds : List PyData) : slLo (.dat (.list (d :: ds))) (.dat (.int 1)) = some (.ls ds) := by
  simp [slLo, slO, Vs.cutD, HT.sIx]
theorem slHiL (d : PyData) (ds : List PyData) : slHi (.dat (.list (ds ++ [d]))) (.dat (.int (-1))) = some (.ls ds) := by
  have e : (-1 + ((ds.length : Int) + 1)).toNat = ds.length := by omega
  simp [slHi, slO, Vs.cutD, HT.sIx, e]
theorem waits_ok : ∀ (n : Nat) (h : Str) (B A : List Str), B.length + A.length + 1 ≤ n → F_waits n [.dat (.str h), .dat (.list (B.map .str)), .dat (.list (A.map .str))] = .ok (.dat (Wt h B A)) [.no, .no, .no]
  | 0, _, _, _, l => by omega
  | n + 1, h, B, a :: A, l => by
    rw [List.length_cons] at l
    have ih := waits_ok n h B A (by omega)
    have e : Wt h B (a :: A) = .tuple [.str "behind", Wt h B A, .tuple [.str "plain", .str a]] := rfl
    rw [e]
    simp [F_waits, x_def, x_entry, x_leave, B_waits, slLo1, ih]
  | n + 1, h, B, [], l => by
    by_cases c : B = []
    · subst c
      simp [F_waits, x_def, x_entry, x_leave, B_waits, Wt]
    · obtain ⟨B', b, rfl⟩ := snoc_of c
      rw [List.length_append, List.length_singleton] at l
      have ih := waits_ok n h B' [] (by rw [List.length_nil] at l ⊢; omega)
      have e : Wt h (B' ++ [b]) [] = .tuple [.str "ahead", .tuple [.str "plain", .str b], Wt h B' []] := by
        show (B' ++ [b]).foldl _ _ = _
        rw [List.foldl_append]
        rfl
      rw [e]
      simp only [List.map_nil] at ih
      simp [F_waits, x_def, x_entry, x_leave, B_waits, slHiL, Fn.atI_last, ih]
end Fn

namespace Fn
open PySem PySem.Spec PyProof.Rows L2 Ww Vs
/-! ### the kind that waits, as a kind -/
def WtK (h : Str) (B A : List Str) : Kd := A.foldr (fun a k => .nd "behind" k (.pl a)) (B.foldl (fun k b => .nd "ahead" (.pl b) k) (.pl h))
theorem foldl_dat : ∀ (B : List Str) (k : Kd), (B.foldl (fun k b => Kd.nd "ahead" (.pl b) k) k).dat = B.foldl (fun k b => .tuple [.str "ahead", .tuple [.str "plain", .str b], k]) k.dat
  | [], _ => rfl
  | b :: B, k => foldl_dat B (.nd "ahead" (.pl b) k)
theorem foldl_deep : ∀ (B : List Str) (k : Kd), (B.foldl (fun k b => Kd.nd "ahead" (.pl b) k) k).deep = B.length + k.deep
  | [], k => (Nat.zero_add _).symm
  | b :: B, k => by
    have e := foldl_deep B (.nd "ahead" (.pl b) k)
    have d : (Kd.nd (Str.ofString "ahead") (.pl b) k).deep = 1 + max 1 k.deep := rfl
    have := k.deep_pos
    rw [List.foldl_cons, e, d, List.length_cons]
    omega
theorem wt_dat (h : Str) (B : List Str) : ∀ A : List Str, (WtK h B A).dat = Wt h B A
  | [] => foldl_dat B (.pl h)
  | a :: A => by
    show PyData.tuple [.str "behind", (WtK h B A).dat, _] = _
    rw [wt_dat h B A]
    rfl
theorem wt_deep (h : Str) (B : List Str) : ∀ A : List Str, (WtK h B A).deep = A.length + B.length + 1
  | [] => by
    show Kd.deep (B.foldl (fun k b => Kd.nd "ahead" (.pl b) k) (.pl h)) = _
    rw [foldl_deep]
    show B.length + 1 = _
    simp
  | a :: A => by
    have e := wt_deep h B A
    have d : (WtK h B (a :: A)).deep = 1 + max (WtK h B A).deep 1 := rfl
    rw [d, e, List.length_cons]
    omega
theorem wt_gd {h : Str} {B A : List Str} (l : B.length + A.length ≤ 50) : Gd 60 (Wt h B A) := by
  rw [← wt_dat]
  exact Gd.kd.mono (by rw [wt_deep]; omega)
theorem strs_gd {ls : List Str} {n : Nat} (l : ls.length ≤ 100000) (hn : 2 ≤ n) : Gd n (.list (ls.map .str)) := by
  obtain ⟨m, rfl⟩ : ∃ m, n = m + 2 := ⟨n - 2, by omega⟩
  refine ⟨by rw [List.length_map]; exact l, fun d hd => ?_⟩
  obtain ⟨s, _, rfl⟩ := List.mem_map.mp hd
  trivial
theorem rl_gd {w : Str} {t : Str × List Str × List Str} (l1 : t.2.1.length ≤ 100000) (l2 : t.2.2.length ≤ 100000) : Gd 60 (rlD w t) := by
  refine ⟨(show 4 ≤ 100000 by decide), fun d hd => ?_⟩
  simp only [List.mem_cons, List.not_mem_nil, or_false] at hd
  rcases hd with rfl | rfl | rfl | rfl
  · trivial
  · exact strs_gd l1 (by decide)
  · trivial
  · exact strs_gd l2 (by decide)
theorem kor_loop1 (d0 d1 d2 d3 d4 : PyData) : ∀ (B : List Str) (acc : PyData) (s : Sl), Fr s → ∃ s', Fr s' ∧ loopF (nmT 6) L1_kind_of_rule (B.map .str) [.val (.dat d0), .val (.dat d1), .val (.dat d2), .val (.dat d3), .val (.dat d4), .val (.dat acc), s] =
    .nx [.val (.dat d0), .val (.dat d1), .val (.dat d2), .val (.dat d3), .val (.dat d4), .val (.dat (B.foldl (fun k b => .tuple [.str "ahead", .tuple [.str "plain", .str b], k]) acc)), s']
  | [], acc, s, h => ⟨s, h, rfl⟩
  | b :: B, acc, s, h => by
    obtain ⟨s', h', e⟩ := kor_loop1 d0 d1 d2 d3 d4 B (.tuple [.str "ahead", .tuple [.str "plain", .str b], acc]) (.val (.dat (.str b))) Fr.val
    refine ⟨s', h', ?_⟩
    rw [List.foldl_cons, ← e, List.map_cons]
    exact loop_nx (ρ1 := [.val (.dat d0), .val (.dat d1), .val (.dat d2), .val (.dat d3), .val (.dat d4), .val (.dat acc), .val (.dat (.str b))]) (by simp [x_fr h]) (.inl (by simp [L1_kind_of_rule]))
theorem kor_loop2 (d0 d1 d2 d3 d4 : PyData) : ∀ (B : List Str) (acc : PyData) (s : Sl), Fr s → ∃ s', Fr s' ∧ loopF (nmT 6) L2_kind_of_rule (B.map .str) [.val (.dat d0), .val (.dat d1), .val (.dat d2), .val (.dat d3), .val (.dat d4), .val (.dat acc), s] =
    .nx [.val (.dat d0), .val (.dat d1), .val (.dat d2), .val (.dat d3), .val (.dat d4), .val (.dat (B.foldl (fun k a => .tuple [.str "behind", k, .tuple [.str "plain", .str a]]) acc)), s']
  | [], acc, s, h => ⟨s, h, rfl⟩
  | b :: B, acc, s, h => by
    obtain ⟨s', h', e⟩ := kor_loop2 d0 d1 d2 d3 d4 B (.tuple [.str "behind", acc, .tuple [.str "plain", .str b]]) (.val (.dat (.str b))) Fr.val
    refine ⟨s', h', ?_⟩
    rw [List.foldl_cons, ← e, List.map_cons]
    exact loop_nx (ρ1 := [.val (.dat d0), .val (.dat d1), .val (.dat d2), .val (.dat d3), .val (.dat d4), .val (.dat acc), .val (.dat (.str b))]) (by simp [x_fr h]) (.inl (by simp [L2_kind_of_rule]))
theorem kind_of_rule_ok (w h : Str) (B A : List Str) : F_kind_of_rule [.dat (.tuple [.str h, .list (B.map .str), .str w, .list (A.map .str)])] = .ok (.dat (Wt h B A)) [.no] := by
  obtain ⟨s1, f1, e1⟩ := kor_loop1 (.tuple [.str h, .list (B.map .str), .str w, .list (A.map .str)]) (.str h) (.list (B.map .str)) (.str w) (.list (A.map .str)) B (.tuple [.str "plain", .str h]) .no Fr.no
  obtain ⟨s2, f2, e2⟩ := kor_loop2 (.tuple [.str h, .list (B.map .str), .str w, .list (A.map .str)]) (.str h) (.list (B.map .str)) (.str w) (.list (A.map .str)) A.reverse (B.foldl (fun k b => .tuple [.str "ahead", .tuple [.str "plain", .str b], k]) (.tuple [.str "plain", .str h])) s1 f1
  rw [List.foldl_reverse, List.map_reverse] at e2
  simp [F_kind_of_rule, x_def, x_entry, x_leave, B_kind_of_rule, e1, e2, Wt]
/-! ### words -/
def Wd (w : Str) : Prop := AllLet w ∧ 1 ≤ w.length ∧ w.length ≤ 8
theorem all_true : ∀ (n : Nat), allO (.ls (List.replicate n (.bool true))) = some (.dat (.bool true)) := by
  intro n
  have e : ∀ n : Nat, allBl (List.replicate n (PyData.bool true)) = some (List.replicate n true) := by
    intro n
    induction n with
    | zero => rfl
    | succ n ih => rw [List.replicate_succ, List.replicate_succ]; unfold allBl; rw [ih] <;> rfl
  show ((some (List.replicate n (PyData.bool true))).bind allBl).map _ = _
  rw [Option.bind_some, e]
  simp
theorem checked_word_ok (w : Str) (h : Wd w) : F_checked_word [.dat (.str w)] = .ok (.dat (.str w)) [.no] := by
  obtain ⟨ha, h1, h8⟩ := h
  have c1 : (1 : Int) ≤ w.length := by omega
  have c2 : (w.length : Int) ≤ 8 := by omega
  have sm : small w.length = true := small_of (by omega)
  have sm2 : small (w.cps.toList.map fun c => PyData.str ⟨#[c]⟩).length = true := by rw [List.length_map, ← len_cps]; exact sm
  have e := lcL_map (t := nmT 1) (e := op2 inO (slotF 1) (tmpF (cF (.str "abcdefghijklmnopqrstuvwxyz")))) (own := [1]) (ρ := [.val (.dat (.str w)), .no]) (fun _ => .bool true) (ds := w.cps.toList.map fun c => .str ⟨#[c]⟩) (by
    intro d hd
    obtain ⟨c, hc, rfl⟩ := List.mem_map.mp hd
    have hin : strIn ⟨#[c]⟩ (Str.ofString "abcdefghijklmnopqrstuvwxyz") = true := by
      rw [strIn_one]
      exact decide_eq_true ((abc_mem c).2 (ha c hc))
    refine ⟨[.val (.dat (.str w)), .val (.dat (.str ⟨#[c]⟩))], [.val (.dat (.str w)), .val (.dat (.str ⟨#[c]⟩))], .dat (.bool true), by simp, ?_, rfl, by simp⟩
    simp [hin])
  rw [List.map_const'] at e
  have hall := all_true (w.cps.toList.map fun c => PyData.str ⟨#[c]⟩).length
  simp only [F_checked_word, x_def]
  simp only [List.length_map] at *
  simp [x_entry, x_leave, B_checked_word, c1, c2, sm, sm2, e, hall, -Array.length_toList, -List.reduceReplicate]
/-! ### the rule that the program tells -/
theorem checked_kind_r (k : Kd) (ok : k.ok) (h : k.deep ≤ 30) : F_checked_kind_k26 [.dat k.dat] = .ok (.dat k.dat) [.no] := by
  have l := wrong_part_ok 30 k ok h
  simp [F_checked_kind_k26, x_def, x_entry, B_checked_kind_k26, l, x_leave]
theorem check_flat_t (k : Kd) (ok : k.ok) (h : k.flat = true) : F_check_flat [.dat k.dat] = .ok (.dat .none) [.no] := by
  have l := flat_p_ok k ok
  simp [F_check_flat, x_def, x_entry, B_check_flat, l, h, x_leave]
theorem check_flat_f (k : Kd) (ok : k.ok) (h : k.flat = false) : F_check_flat [.dat k.dat] = .er "NotFlat" (.dat k.dat) [.no] := by
  have l := flat_p_ok k ok
  simp [F_check_flat, x_def, x_entry, B_check_flat, l, h, x_leave]
theorem rule_of_t (w : Str) (k : Kd) (hw : Wd w) (ok : k.ok) (hd : k.deep ≤ 30) (h : k.flat = true) : F_rule_of [.dat (.str w), .dat k.dat] = .ok (.tp [.d (.str (k.rl [] []).1), .l ((k.rl [] []).2.1.map .str), .d (.str w), .l ((k.rl [] []).2.2.map .str)]) [.no, .no] := by
  have e1 := checked_word_ok w hw
  have e2 := checked_kind_r k ok hd
  have e3 := check_flat_t k ok h
  have e4 := made_rule_ok w k ok h (by omega)
  simp [F_rule_of, x_def, x_entry, B_rule_of, e1, e2, e3, e4, x_leave]
theorem rule_of_f (w : Str) (k : Kd) (hw : Wd w) (ok : k.ok) (hd : k.deep ≤ 30) (h : k.flat = false) : F_rule_of [.dat (.str w), .dat k.dat] = .er "NotFlat" (.dat k.dat) [.no, .no] := by
  have e1 := checked_word_ok w hw
  have e2 := checked_kind_r k ok hd
  have e3 := check_flat_f k ok h
  simp [F_rule_of, x_def, x_entry, B_rule_of, e1, e2, e3, x_leave]
theorem is_flat_p (k : Kd) (ok : k.ok) (hd : k.deep ≤ 30) : F_is_flat_k26 [.dat k.dat] = .ok (.dat (.bool k.flat)) [.no] := by
  have e1 := checked_kind_r k ok hd
  have e2 := flat_p_ok k ok
  simp [F_is_flat_k26, x_def, x_entry, B_is_flat_k26, e1, e2, x_leave]
theorem refused_ok (w : Str) (k : Kd) (hw : Wd w) (ok : k.ok) (hd : k.deep ≤ 30) (h : k.flat = false) : F_refused [.dat (.str w), .dat k.dat] = .ok (.dat (.bool true)) [.no, .no] := by
  have e1 := rule_of_f w k hw ok hd h
  have e2 : eqO (.dat k.dat) (.dat k.dat) = some (.dat (.bool true)) := eq_self (Gd.kd.mono (by omega))
  have e3 : mtT [("InvalidKind", false), ("InvalidWord", false), ("NotFlat", true)] "NotFlat" = some true := by decide +kernel
  have e4 : (exS (callF F_rule_of (consC (aD (varF 0)) (consC (aD (varF 1)) nilC)))) [.val (.dat (.str w)), .val (.dat k.dat), .val (.dat .none), .no] = .er "NotFlat" (.dat k.dat) [.val (.dat (.str w)), .val (.dat k.dat), .val (.dat .none), .no] := by simp [e1]
  have e5 : tryS 3 (mtT [("InvalidKind", false), ("InvalidWord", false), ("NotFlat", true)]) (exS (callF F_rule_of (consC (aD (varF 0)) (consC (aD (varF 1)) nilC)))) (fun dat => seqS (setS 2 (cF dat)) nxS) [.val (.dat (.str w)), .val (.dat k.dat), .val (.dat .none), .no] = .nx [.val (.dat (.str w)), .val (.dat k.dat), .val (.dat k.dat), .no] := by
    rw [x_tryS, e4, x_cat_yes e3 (by simp)]
    simp
  simp [F_refused, x_def, x_entry, B_refused, e5, e2, x_leave, -x_tryS, -x_eqO]
theorem kind_right_ok (w : Str) (k : Kd) (hw : Wd w) (ok : k.ok) (hd : k.deep ≤ 29) : F_kind_right [.dat (.str w), .dat k.dat] = .ok (.dat (.bool true)) [.no, .no] := by
  have e1 := is_flat_ok 30 k ok (by omega)
  have e2 := is_flat_p k ok (by omega)
  cases h : k.flat with
  | false =>
    have e3 := refused_ok w k hw ok (by omega) h
    rw [h] at e1 e2
    simp [F_kind_right, x_def, x_entry, B_kind_right, e1, e2, e3, x_leave]
  | true =>
    have e3 := rule_of_t w k hw ok (by omega) h
    have e4 := rule_ok w k ok h (by omega)
    have hl := rl_len k [] []
    rw [h] at e1 e2
    generalize k.rl [] [] = t at e3 e4 hl
    obtain ⟨hd', B, A⟩ := t
    have hl : B.length + A.length + 1 ≤ k.deep := by simpa using hl
    have g := rl_gd (w := w) (t := (hd', B, A)) (show B.length ≤ 100000 by omega) (show A.length ≤ 100000 by omega)
    have n1 := ne_tp (es := [.d (.str hd'), .l (B.map .str), .d (.str w), .l (A.map .str)]) (d := rlD w (hd', B, A)) rfl g
    have n2 := eq_tp (es := [.d (.str hd'), .l (B.map .str), .d (.str w), .l (A.map .str)]) (d := rlD w (hd', B, A)) rfl g
    have n3 := ne_self g
    have n4 := ne_self (wt_gd (h := hd') (B := B) (A := A) (by omega))
    have e5 := kind_of_rule_ok w hd' B A
    have e6 := waits_ok 30 hd' B A (by omega)
    have s1 : small (B.length + 1) = true := small_of (by omega)
    have s2 : small (A.length + 1) = true := small_of (by omega)
    simp only [rlD] at n1 n2 n3 e4
    have n0 : neO (.dat (.bool true)) (.dat (.bool true)) = some (.dat (.bool false)) := by simp
    simp only at e3
    simp [F_kind_right, x_def, x_entry, B_kind_right, e1, e2, e3, e4, e5, e6, n0, n1, n2, n3, n4, s1, s2, ins0, x_leave, -x_eqO, -x_neO]
end Fn

namespace Fn
open PySem PySem.Spec PyProof.Rows L2 Ww Vs
theorem slHi_s (z : Str) (i : Int) : slHi (.dat (.str z)) (.dat (.int i)) = if small z.length = true then some (.dat (.str (L2.cutS z none (some i)))) else none := by simp only [small_iff]; rfl
theorem slLo_s (z : Str) (i : Int) : slLo (.dat (.str z)) (.dat (.int i)) = if small z.length = true then some (.dat (.str (L2.cutS z (some i) none))) else none := by simp only [small_iff]; rfl
theorem cutS_all {z : Str} (h : AllLet z) (lo hi : Option Int) : AllLet (L2.cutS z lo hi) := fun c hc => by
  refine h c ?_
  unfold L2.cutS at hc
  rw [List.toList_toArray] at hc
  exact List.mem_of_mem_drop (List.mem_of_mem_take hc)
theorem str_nil {v : Str} (h : v.length = 0) : v = Str.ofString "" := by
  obtain ⟨a⟩ := v
  have h' : a.size = 0 := h
  have e : a = #[] := Array.size_eq_zero_iff.mp h'
  subst e
  decide +kernel
/-- a comprehension of drawn letters -/
def LtI (c : Nat) (ls : List Str) (mk : List PyData → En) (i : Nat) (acc : List PyData) (ρ : En) : Prop := ∃ (es : List PyData) (ys : List Str), Sb (c + i) ls es ∧ ρ = mk es ∧ acc = ys.map .str ∧ ys.length = i ∧ ∀ y ∈ ys, Let y
/-- what is done at the end of a turn: the word is put to the others, or not -/
theorem words_end (es : List PyData) (ws : List Str) (v : Str) (s4 s7 s8 : Sl) (ha : AllLet v) (hz : v.length ≤ 100) (hw : ∀ w ∈ ws, Wd w) (hl : ws.length ≤ 50) : ∃ ws' : List Str, (∀ w ∈ ws', Wd w) ∧ ws'.length ≤ ws.length + 1 ∧ (ws ≠ [] ∨ 1 ≤ v.length ∧ v.length ≤ 8 → ws' ≠ []) ∧
    (ifS (andT (tstF (op2 neO (slotF 5) (tmpF (cF (.str ""))))) (andT (tstF (op2 ltO (tmpF (op1 lenO (slotF 5))) (tmpF (cF (.int 9))))) (tstF (ninS 3 (varF 5)))))
    (exS (mm1 3 appO (varF 5)))
    (nxS)) [.bor (.ls es), .val (.dat (.int 3)), .val (.dat (.str "abcdefghijklmnopqrstuvwxyz")), .val (.ls (ws.map .str)), s4, .val (.dat (.str v)), .no, s7, s8] =
    .nx [.bor (.ls es), .val (.dat (.int 3)), .val (.dat (.str "abcdefghijklmnopqrstuvwxyz")), .val (.ls (ws'.map .str)), s4, .val (.dat (.str v)), .no, s7, s8] := by
  have sm : small v.length = true := small_of (by omega)
  by_cases c1 : v = Str.ofString ""
  · have l0 : v.length = 0 := by rw [c1]; decide +kernel
    refine ⟨ws, hw, by omega, fun h => h.elim id fun z => by omega, ?_⟩
    simp [c1]
  · have l1 : 1 ≤ v.length := by
      have : v.length ≠ 0 := fun z => c1 (str_nil z)
      omega
    by_cases c2 : (v.length : Int) < 9
    · by_cases c3 : ((ws.map PyData.str).any fun y => PyData.eqv y (.str v)) = true
      · have hne : ws ≠ [] := fun z => by rw [z] at c3; cases c3
        refine ⟨ws, hw, by omega, fun _ => hne, ?_⟩
        simp [c1, sm, c2, c3]
      · have c3' : ((ws.map PyData.str).any fun y => PyData.eqv y (.str v)) = false := (Bool.not_eq_true _).mp c3
        have s2 : small (ws.length + 1) = true := small_of (by omega)
        refine ⟨ws ++ [v], fun w hm => ?_, by simp, fun _ => by simp, ?_⟩
        · rcases List.mem_append.mp hm with z | z
          · exact hw w z
          · rw [List.mem_singleton.mp z]
            exact ⟨ha, l1, by omega⟩
        · simp [c1, sm, c2, c3', s2]
    · refine ⟨ws, hw, by omega, fun h => h.elim id fun z => by omega, ?_⟩
      simp [c1, sm, c2]
theorem words_bend (c : Nat) (ls : List Str) (es : List PyData) (ws : List Str) (v : Str) (s4 s7 s8 : Sl) (hs : Sb c ls es) (hc : c ≤ 900000) (ha : AllLet v) (hz : v.length ≤ 8) (hw : ∀ w ∈ ws, Wd w) (hn : ws ≠ []) (hl : ws.length ≤ 50) (h7 : Fr s7) (h8 : Fr s8) : ∃ es' v' s7' s8', Sb (c + 3) ls es' ∧ AllLet v' ∧ v'.length ≤ 100 ∧ Fr s7' ∧ Fr s8' ∧
    (seqS (setS 7 (ixS 3 (callF F_draw (lendC 0 (consC (aD (op1 lenO (slotF 3))) (nilC))))))
    (seqS (setS 8 (callF F_draw (lendC 0 (consC (aD (op1 lenO (slotF 7))) (nilC)))))
    (setS 5 (op2 ixO (tmpF (lstF (consA (op2 slHi (slotF 7) (slotF 8)) (consA (op2 addO (tmpF (op2 slHi (slotF 5) (tmpF (cF (.int 1))))) (slotF 7)) (consA (op2 addO (slotF 7) (tmpF (op2 slHi (slotF 5) (tmpF (cF (.int 1)))))) (consA (op2 addO (tmpF (op2 addO (tmpF (op2 slHi (slotF 7) (slotF 8))) (tmpF (op2 slHi (slotF 5) (tmpF (cF (.int 1))))))) (tmpF (op2 slLo (slotF 7) (tmpF (op2 addO (slotF 8) (tmpF (cF (.int 1)))))))) (nilA))))))) (tmpF (callF F_draw (lendC 0 (consC (aD (cF (.int 4))) (nilC))))))))) [.bor (.ls es), .val (.dat (.int 3)), .val (.dat (.str "abcdefghijklmnopqrstuvwxyz")), .val (.ls (ws.map .str)), s4, .val (.dat (.str v)), .no, s7, s8] =
    .nx [.bor (.ls es'), .val (.dat (.int 3)), .val (.dat (.str "abcdefghijklmnopqrstuvwxyz")), .val (.ls (ws.map .str)), s4, .val (.dat (.str v')), .no, s7', s8'] := by
  have lp : 0 < ws.length := List.length_pos_iff.mpr hn
  obtain ⟨r1, es1, a0, a1, t1, e1⟩ := draw_ok c ls es ws.length hs (by omega) (by omega) (by omega)
  obtain ⟨b, hb, eb⟩ := at_str a0 a1
  obtain ⟨ba, b1, b8⟩ := hw b hb
  obtain ⟨r2, es2, c0, c1, t2, e2⟩ := draw_ok (c + 1) ls es1 b.length t1 (by omega) (by omega) (by omega)
  obtain ⟨r3, es3, d0, d1, t3, e3⟩ := draw_ok (c + 2) ls es2 4 t2 (by omega) (by decide) (by decide)
  have k1 := L2.cutS_length b none (some r2)
  have k2 := L2.cutS_length v none (some 1)
  have k3 := L2.cutS_length b (some (r2 + 1)) none
  have q1 := cutS_all ba none (some r2)
  have q2 := cutS_all ha none (some 1)
  have q3 := cutS_all ba (some (r2 + 1)) none
  generalize hw1 : L2.cutS b none (some r2) = w1 at k1 q1
  generalize hw2 : L2.cutS v none (some 1) = w2 at k2 q2
  generalize hw3 : L2.cutS b (some (r2 + 1)) none = w3 at k3 q3
  obtain ⟨v', hv, ev⟩ := at_str (ls := [w1, w2 ++ b, b ++ w2, (w1 ++ w2) ++ w3]) d0 d1
  have sb : small b.length = true := small_of (by omega)
  have sv : small v.length = true := small_of (by omega)
  have z1 : small (w2.length + b.length) = true := small_of (by omega)
  have z2 : small (b.length + w2.length) = true := small_of (by omega)
  have z3 : small (w1.length + w2.length) = true := small_of (by omega)
  have z4 : small ((w1 ++ w2).length + w3.length) = true := small_of (by rw [str_len_app]; omega)
  have pv : AllLet v' ∧ v'.length ≤ 100 := by
    simp only [List.mem_cons, List.not_mem_nil, or_false] at hv
    rcases hv with rfl | rfl | rfl | rfl
    · exact ⟨q1, by omega⟩
    · exact ⟨q2.app ba, by rw [str_len_app]; omega⟩
    · exact ⟨ba.app q2, by rw [str_len_app]; omega⟩
    · exact ⟨(q1.app q2).app q3, by rw [str_len_app, str_len_app]; omega⟩
  simp only [List.map_cons, List.map_nil] at ev
  refine ⟨es3, v', .val (.dat (.str b)), .val (.dat (.int r2)), t3, pv.1, pv.2, Fr.val, Fr.val, ?_⟩
  simp [e1, eb, e2, e3, x_fr h7, x_fr h8, sb, sv, slHi_s, slLo_s, hw1, hw2, hw3, z1, z2, z3, z4, ev]
end Fn

namespace Fn
open PySem PySem.Spec PyProof.Rows L2 Ww Vs
theorem abc_r {r : Int} (h0 : 0 ≤ r) (h1 : r < 26) : ∃ x : Nat, atI (Str.ofString "abcdefghijklmnopqrstuvwxyz").cps.toList r = some x ∧ Let ⟨#[x]⟩ := by
  obtain ⟨c, hc, lc⟩ := abc_all.at h0 (by rw [abc_len]; exact h1)
  refine ⟨c, ?_, lc⟩
  unfold atI
  rw [ixN_of h0 (by rw [← len_cps, abc_len]; exact h1)]
  simpa using hc
theorem sm26 : small (Str.ofString "abcdefghijklmnopqrstuvwxyz").length = true := by rw [abc_len]; rfl
theorem join_o {ys : List Str} (hy : ∀ y ∈ ys, Let y) (l : ys.length ≤ 1000) : joinO (.dat (.str (Str.ofString ""))) (.ls (ys.map .str)) = some (.dat (.str (Txt.join (Str.ofString "") ys))) := by
  show ((some (ys.map PyData.str)).bind allStr).bind _ = _
  rw [Option.bind_some, allStr_map, Option.bind_some, if_pos (let_small hy l)]
def WmI (c : Nat) (ls ws : List Str) (s4 s5 s7 s8 : Sl) (i : Nat) (acc : List PyData) (ρ : En) : Prop := ∃ (es : List PyData) (ys : List Str), Sb (c + i) ls es ∧ ρ = [.bor (.ls es), .val (.dat (.int 3)), .val (.dat (.str "abcdefghijklmnopqrstuvwxyz")), .val (.ls (ws.map .str)), s4, s5, .no, s7, s8] ∧ acc = ys.map .str ∧ ys.length = i ∧ ∀ y ∈ ys, Let y
def WsI (c : Nat) (ls : List Str) (i : Nat) (ρ : En) : Prop := ∃ (es : List PyData) (ws : List Str) (s4 s5 s7 s8 : Sl), Sb (c + 13 * i) ls es ∧ ρ = [.bor (.ls es), .val (.dat (.int 3)), .val (.dat (.str "abcdefghijklmnopqrstuvwxyz")), .val (.ls (ws.map .str)), s4, s5, .no, s7, s8] ∧
  Fr s4 ∧ Fr s5 ∧ Fr s7 ∧ Fr s8 ∧ (∀ w ∈ ws, Wd w) ∧ ws.length ≤ i ∧ (1 ≤ i → ws ≠ [])
theorem words_step (c : Nat) (ls : List Str) (hc : c ≤ 800000) (i : Nat) (ρ : En) (hi : i < 3) (h : WsI c ls i ρ) : ∃ ρ1 ρ2, (nmT 4).f (.int (i : Int)) ρ = some ρ1 ∧ (L1_words ρ1 = .nx ρ2 ∨ L1_words ρ1 = .ct ρ2) ∧ WsI c ls (i + 1) ρ2 := by
  obtain ⟨es, ws, s4, s5, s7, s8, hs, rfl, f4, f5, f7, f8, hw, hl, hn⟩ := h
  obtain ⟨r1, es1, a0, a1, t1, e1⟩ := draw_ok _ ls es 8 hs (by omega) (by decide) (by decide)
  obtain ⟨xs, ρ', h1, es2, ys, t2, rfl, rfl, hy1, hy2⟩ := lcL_inv (t := nmT 6) (e := ixS 2 (callF F_draw (lendC 0 (consC (aD (cF (.int 26))) (nilC))))) (own := [6]) (WmI (c + 13 * i + 1) ls ws (.val (.dat (.int i))) s5 s7 s8) (ds := (List.range (1 + r1).toNat).map fun i : Nat => .int (i : Int)) (k := 0) (acc := []) (ρ := [.bor (.ls es1), .val (.dat (.int 3)), .val (.dat (.str "abcdefghijklmnopqrstuvwxyz")), .val (.ls (ws.map .str)), .val (.dat (.int i)), s5, .no, s7, s8])
    ⟨es1, [], t1, rfl, rfl, rfl, fun _ z => nomatch z⟩ (by
    rintro j d acc ρ hd hj ⟨es, ys, sI, rfl, rfl, hl, hy⟩
    rw [List.length_map, List.length_range] at hj
    obtain ⟨j', _, rfl⟩ := List.mem_map.mp hd
    obtain ⟨r4, es4, c0, c1, s4', e4⟩ := draw_ok _ ls es 26 sI (by omega) (by decide) (by decide)
    obtain ⟨x, ex, lx⟩ := abc_r c0 c1
    refine ⟨[.bor (.ls es), .val (.dat (.int 3)), .val (.dat (.str "abcdefghijklmnopqrstuvwxyz")), .val (.ls (ws.map .str)), .val (.dat (.int i)), s5, .val (.dat (.int j')), s7, s8], [.bor (.ls es4), .val (.dat (.int 3)), .val (.dat (.str "abcdefghijklmnopqrstuvwxyz")), .val (.ls (ws.map .str)), .val (.dat (.int i)), s5, .val (.dat (.int j')), s7, s8], .dat (.str ⟨#[x]⟩), .str ⟨#[x]⟩, by simp, ?_, rfl, es4, ys ++ [⟨#[x]⟩], s4', by simp, by simp, by simp [hl], fun y m => ?_⟩
    · simp [e4, sm26, ex, -Array.getElem?_toList]
    · rcases List.mem_append.mp m with z | z
      · exact hy y z
      · rw [List.mem_singleton.mp z]
        exact lx)
  rw [List.length_map, List.length_range] at hy1 t2
  have hr : rngB (1 + r1) = true := rngB_of (by omega) (by omega)
  have hz : small (1 + r1).toNat = true := small_of (by omega)
  have hj := join_o hy2 (by omega)
  have ja := join_all hy2
  have jl := join_len hy2
  generalize Txt.join (Str.ofString "") ys = v at hj ja jl
  have b1 : (setS 5 (op2c isStr joinO (tmpF (cF (.str ""))) (tmpF (lcF (rng1 (tmpF (op2 addO (tmpF (cF (.int 1))) (tmpF (callF F_draw (lendC 0 (consC (aD (cF (.int 8))) (nilC)))))))) (nmT 6) (yesT) (ixS 2 (callF F_draw (lendC 0 (consC (aD (cF (.int 26))) (nilC))))) [6])))) [.bor (.ls es), .val (.dat (.int 3)), .val (.dat (.str "abcdefghijklmnopqrstuvwxyz")), .val (.ls (ws.map .str)), .val (.dat (.int i)), s5, .no, s7, s8] =
      .nx [.bor (.ls es2), .val (.dat (.int 3)), .val (.dat (.str "abcdefghijklmnopqrstuvwxyz")), .val (.ls (ws.map .str)), .val (.dat (.int i)), .val (.dat (.str v)), .no, s7, s8] := by
    simp [e1, hr, hz, h1, hj, x_fr f5]
  refine ⟨[.bor (.ls es), .val (.dat (.int 3)), .val (.dat (.str "abcdefghijklmnopqrstuvwxyz")), .val (.ls (ws.map .str)), .val (.dat (.int i)), s5, .no, s7, s8], ?_⟩
  have et : (nmT 4).f (.int (i : Int)) [.bor (.ls es), .val (.dat (.int 3)), .val (.dat (.str "abcdefghijklmnopqrstuvwxyz")), .val (.ls (ws.map .str)), s4, s5, .no, s7, s8] = some [.bor (.ls es), .val (.dat (.int 3)), .val (.dat (.str "abcdefghijklmnopqrstuvwxyz")), .val (.ls (ws.map .str)), .val (.dat (.int i)), s5, .no, s7, s8] := by simp [x_fr f4]
  have fin : ∀ es3 v' s7' s8', Sb (c + 13 * (i + 1)) ls es3 → AllLet v' → v'.length ≤ 100 → Fr s7' → Fr s8' → (ws = [] → 1 ≤ v'.length ∧ v'.length ≤ 8) →
      (ifS (andT (tstF (op2 neO (slotF 3) (tmpF (lstF (nilA))))) (tstF (op2 eqO (tmpF (callF F_draw (lendC 0 (consC (aD (cF (.int 2))) (nilC))))) (tmpF (cF (.int 0))))))
    (seqS (setS 7 (ixS 3 (callF F_draw (lendC 0 (consC (aD (op1 lenO (slotF 3))) (nilC))))))
    (seqS (setS 8 (callF F_draw (lendC 0 (consC (aD (op1 lenO (slotF 7))) (nilC)))))
    (setS 5 (op2 ixO (tmpF (lstF (consA (op2 slHi (slotF 7) (slotF 8)) (consA (op2 addO (tmpF (op2 slHi (slotF 5) (tmpF (cF (.int 1))))) (slotF 7)) (consA (op2 addO (slotF 7) (tmpF (op2 slHi (slotF 5) (tmpF (cF (.int 1)))))) (consA (op2 addO (tmpF (op2 addO (tmpF (op2 slHi (slotF 7) (slotF 8))) (tmpF (op2 slHi (slotF 5) (tmpF (cF (.int 1))))))) (tmpF (op2 slLo (slotF 7) (tmpF (op2 addO (slotF 8) (tmpF (cF (.int 1)))))))) (nilA))))))) (tmpF (callF F_draw (lendC 0 (consC (aD (cF (.int 4))) (nilC)))))))))
    (nxS)) [.bor (.ls es2), .val (.dat (.int 3)), .val (.dat (.str "abcdefghijklmnopqrstuvwxyz")), .val (.ls (ws.map .str)), .val (.dat (.int i)), .val (.dat (.str v)), .no, s7, s8] = .nx [.bor (.ls es3), .val (.dat (.int 3)), .val (.dat (.str "abcdefghijklmnopqrstuvwxyz")), .val (.ls (ws.map .str)), .val (.dat (.int i)), .val (.dat (.str v')), .no, s7', s8'] →
      ∃ ρ2, (nmT 4).f (.int (i : Int)) [.bor (.ls es), .val (.dat (.int 3)), .val (.dat (.str "abcdefghijklmnopqrstuvwxyz")), .val (.ls (ws.map .str)), s4, s5, .no, s7, s8] = some [.bor (.ls es), .val (.dat (.int 3)), .val (.dat (.str "abcdefghijklmnopqrstuvwxyz")), .val (.ls (ws.map .str)), .val (.dat (.int i)), s5, .no, s7, s8] ∧ (L1_words [.bor (.ls es), .val (.dat (.int 3)), .val (.dat (.str "abcdefghijklmnopqrstuvwxyz")), .val (.ls (ws.map .str)), .val (.dat (.int i)), s5, .no, s7, s8] = .nx ρ2 ∨ L1_words [.bor (.ls es), .val (.dat (.int 3)), .val (.dat (.str "abcdefghijklmnopqrstuvwxyz")), .val (.ls (ws.map .str)), .val (.dat (.int i)), s5, .no, s7, s8] = .ct ρ2) ∧ WsI c ls (i + 1) ρ2 := by
    intro es3 v' s7' s8' t3 va vl g7 g8 hv hb
    obtain ⟨ws', w1, w2, w3, w4⟩ := words_end es3 ws v' (.val (.dat (.int i))) s7' s8' va vl hw (by omega)
    refine ⟨_, et, .inl ?_, es3, ws', .val (.dat (.int i)), .val (.dat (.str v')), s7', s8', t3, rfl, Fr.val, Fr.val, g7, g8, w1, by omega, fun _ => w3 ?_⟩
    · unfold L1_words
      rw [x_seqS, b1, x_seq_nx, x_seqS, hb, x_seq_nx]
      exact w4
    · by_cases z : ws = []
      · exact .inr (hv z)
      · exact .inl z
  by_cases c1 : ws = []
  · refine fin es2 v s7 s8 (t2.le (by omega)) ja (by omega) f7 f8 (fun _ => by omega) ?_
    subst c1
    simp
  · have lp : ((PyData.eqv (.list (ws.map .str)) (.list [])) = false) := by
      cases ws with
      | nil => exact (c1 rfl).elim
      | cons _ _ => rfl
    obtain ⟨r5, es5, g0, g1, t5, e5⟩ := draw_ok _ ls es2 2 t2 (by omega) (by decide) (by decide)
    by_cases c2 : r5 = 0
    · subst c2
      obtain ⟨es6, v', s7', s8', t6, va, vl, g7, g8, hb⟩ := words_bend _ ls es5 ws v (.val (.dat (.int i))) s7 s8 t5 (by omega) ja (by omega) hw c1 (by omega) f7 f8
      refine fin es6 v' s7' s8' (t6.le (by omega)) va vl g7 g8 (fun z => (c1 z).elim) ?_
      rw [← hb, x_ifS]
      simp [lp, e5, -x_seqS, -x_setS, -x_ixS]
    · refine fin es5 v s7 s8 (t5.le (by omega)) ja (by omega) f7 f8 (fun z => (c1 z).elim) ?_
      simp [lp, e5, c2]
theorem words_ok (c : Nat) (ls : List Str) (ds : List PyData) (hs : Sb c ls ds) (hc : c ≤ 800000) : ∃ (ws : List Str) (es : List PyData), (∀ w ∈ ws, Wd w) ∧ ws ≠ [] ∧ ws.length ≤ 3 ∧ Sb (c + 39) ls es ∧ F_words [.ls ds, .dat (.int 3)] = .ok (.ls (ws.map .str)) [.bor (.ls es), .no] := by
  obtain ⟨ρ', h1, es, ws, s4, s5, s7, s8, t, rfl, f4, f5, f7, f8, hw, hl, hn⟩ := loop_rng0 (t := nmT 4) (body := L1_words) (n := 3) (ρ := [.bor (.ls ds), .val (.dat (.int 3)), .val (.dat (.str "abcdefghijklmnopqrstuvwxyz")), .val (.ls []), .no, .no, .no, .no, .no]) (WsI c ls)
    ⟨ds, [], .no, .no, .no, .no, hs, rfl, Fr.no, Fr.no, Fr.no, Fr.no, (fun _ z => nomatch z), Nat.le_refl _, fun z => absurd z (by decide)⟩ fun i ρ hi h => words_step c ls hc i ρ hi h
  refine ⟨ws, es, hw, hn (by decide), hl, t, ?_⟩
  have hr : rngB 3 = true := rngB_of (by decide) (by decide)
  simp only [F_words, x_def]
  simp [x_entry, x_leave, B_words, hr, h1]
end Fn

namespace Fn
open PySem PySem.Spec PyProof.Rows L2 Ww Vs
/-! ### a drawn flat kind -/
def FlI (c : Nat) (ls : List Str) (m : Int) (i : Nat) (ρ : En) : Prop := ∃ (es : List PyData) (k : Kd) (s4 s5 : Sl), Sb (c + 1 + 2 * i) ls es ∧ ρ = [.bor (.ls es), .val (.dat (.list (ls.map .str))), .val (.dat (.int m)), .val (.dat k.dat), s4, s5] ∧ Fr s4 ∧ Fr s5 ∧ k.ok ∧ k.deep ≤ i + 1
theorem flat_kind_ok (c : Nat) (ls : List Str) (ds : List PyData) (m : Int) (hs : Sb c ls ds) (hl : Ls ls) (hc : c ≤ 800000) (m0 : 0 ≤ m) (m1 : m ≤ 10) : ∃ (k : Kd) (es : List PyData), k.ok ∧ k.deep ≤ 11 ∧ Sb (c + 21) ls es ∧ F_flat [.ls ds, .dat (.list (ls.map .str)), .dat (.int m)] = .ok (.dat k.dat) [.bor (.ls es), .no, .no] := by
  obtain ⟨r, es1, a0, a1, t1, e1⟩ := draw_ok c ls ds ls.length hs (by omega) (by have := hl.2.1; omega) (by have := hl.2.2; omega)
  obtain ⟨x, hx, ex⟩ := at_str a0 a1
  obtain ⟨ρ', h1, es2, k, s4, s5, t2, rfl, f4, f5, ok, hd⟩ := loop_rng0 (t := nmT 4) (body := L1_flat) (n := m.toNat) (ρ := [.bor (.ls es1), .val (.dat (.list (ls.map .str))), .val (.dat (.int m)), .val (.dat (Kd.pl x).dat), .no, .no]) (FlI c ls m)
    ⟨es1, .pl x, .no, .no, t1, rfl, Fr.no, Fr.no, hl.1 x hx, Nat.le_refl _⟩ (by
    rintro i ρ hi ⟨es, k, s4, s5, t, rfl, f4, f5, ok, hd⟩
    obtain ⟨r2, es3, b0, b1, t3, e3⟩ := draw_ok _ ls es ls.length t (by omega) (by have := hl.2.1; omega) (by have := hl.2.2; omega)
    obtain ⟨y, hy, ey⟩ := at_str b0 b1
    obtain ⟨r4, es4, c0, c1, t4, e4⟩ := draw_ok _ ls es3 2 t3 (by omega) (by decide) (by decide)
    have oy : (Kd.pl y).ok := hl.1 y hy
    have et : (nmT 4).f (.int (i : Int)) [.bor (.ls es), .val (.dat (.list (ls.map .str))), .val (.dat (.int m)), .val (.dat k.dat), s4, s5] = some [.bor (.ls es), .val (.dat (.list (ls.map .str))), .val (.dat (.int m)), .val (.dat k.dat), .val (.dat (.int i)), s5] := by simp [x_fr f4]
    by_cases cc : r4 = 0
    · subst cc
      refine ⟨_, [.bor (.ls es4), .val (.dat (.list (ls.map .str))), .val (.dat (.int m)), .val (.dat (Kd.nd "behind" k (.pl y)).dat), .val (.dat (.int i)), .val (.dat (Kd.pl y).dat)], et, .inl ?_, es4, .nd "behind" k (.pl y), .val (.dat (.int i)), .val (.dat (Kd.pl y).dat), t4.le (by omega), rfl, Fr.val, Fr.val, ⟨.inl rfl, ok, oy⟩, ?_⟩
      · simp [L1_flat, e3, ey, e4, x_fr f5]
      · show 1 + max k.deep 1 ≤ _
        have := k.deep_pos
        omega
    · refine ⟨_, [.bor (.ls es4), .val (.dat (.list (ls.map .str))), .val (.dat (.int m)), .val (.dat (Kd.nd "ahead" (.pl y) k).dat), .val (.dat (.int i)), .val (.dat (Kd.pl y).dat)], et, .inl ?_, es4, .nd "ahead" (.pl y) k, .val (.dat (.int i)), .val (.dat (Kd.pl y).dat), t4.le (by omega), rfl, Fr.val, Fr.val, ⟨.inr (.inl rfl), oy, ok⟩, ?_⟩
      · simp [L1_flat, e3, ey, e4, x_fr f5, cc]
      · show 1 + max 1 k.deep ≤ _
        have := k.deep_pos
        omega)
  have hr : rngB m = true := rngB_of (by omega) (by omega)
  refine ⟨k, es2, ok, by omega, t2.le (by omega), ?_⟩
  simp only [y_k_pl] at h1
  simp [F_flat, x_def, x_entry, x_leave, B_flat, e1, ex, hr, h1]
/-! ### the source of a cell -/
def SgI (c : Nat) (ns : List PyData) (p : PyData) (cell m : Int) (i : Nat) (acc : List PyData) (ρ : En) : Prop := ∃ (es : List PyData) (ys : List Str), Sb (c + i) [] es ∧ ρ = [.val (.dat (.list ns)), .val (.dat p), .val (.dat (.int cell)), .val (.ls es), .val (.dat (.int m)), .no, .no] ∧ acc = ys.map .str ∧ ys.length = i ∧ ∀ y ∈ ys, Let y
theorem many5 {r : Int} (h0 : 0 ≤ r) (h1 : r < 5) : ∃ m : Int, atI [PyData.int 1, .int 2, .int 3, .int 7, .int 14] r = some (.int m) ∧ 1 ≤ m ∧ m ≤ 14 := by
  have : r = 0 ∨ r = 1 ∨ r = 2 ∨ r = 3 ∨ r = 4 := by omega
  rcases this with rfl | rfl | rfl | rfl | rfl
  · exact ⟨1, by simp, by decide, by decide⟩
  · exact ⟨2, by simp, by decide, by decide⟩
  · exact ⟨3, by simp, by decide, by decide⟩
  · exact ⟨7, by simp, by decide, by decide⟩
  · exact ⟨14, by simp, by decide, by decide⟩
theorem source_ok (ns : List Int) (p : Nat) (hn : ns.length ≤ 63) (hp : p ≤ 1000) : ∃ (ls : List Str) (es : List PyData), Ls ls ∧ Sb 20 ls es ∧ F_source [.dat (.list (ns.map .int)), .dat (.int p)] = .ok (.ls es) [.no, .no] := by
  have n1 : nar 60013 = true := nar_of (by decide) (by decide)
  have n2 : nar 7 = true := nar_of (by decide) (by decide)
  have n3 : nar (ns.length : Int) = true := nar_of (by omega) (by omega)
  have n4 : nar 92821 = true := nar_of (by decide) (by decide)
  have n5 : nar 1000003 = true := nar_of (by decide) (by decide)
  have hcell : ∃ cell : Int, (ifE (tstF (op2 ltO (slotF 1) (tmpF (op1 lenO (slotF 0))))) (op1 intO (tmpF (ixS 0 (varF 1)))) (op2 addO (tmpF (op2 addO (tmpF (op2 mulO (tmpF (cF (.int 60013))) (slotF 1))) (tmpF (op2 mulO (tmpF (op2 mulO (tmpF (cF (.int 7))) (tmpF (op1 lenO (slotF 0))))) (tmpF (op1 lenO (slotF 0))))))) (tmpF (cF (.int 3))))) [.val (.dat (.list (ns.map .int))), .val (.dat (.int p)), .no, .no, .no, .no, .no] = .ok (.dat (.int cell)) [.val (.dat (.list (ns.map .int))), .val (.dat (.int p)), .no, .no, .no, .no, .no] := by
    by_cases c : p < ns.length
    · obtain ⟨x, _, ex⟩ := at_int (gs := ns) (i := (p : Int)) (by omega) (by omega)
      exact ⟨x, by simp [c, ex]⟩
    · exact ⟨60013 * p + 7 * ns.length * ns.length + 3, by simp [c, n1, n2, n3]⟩
  obtain ⟨cell, hcell⟩ := hcell
  have t0 := Int.emod_nonneg (cell * 92821 + p * 1000003 + 17) (show (1000000000000000000000000000057 : Int) ≠ 0 by decide)
  have t1 := Int.emod_lt_of_pos (cell * 92821 + p * 1000003 + 17) (show (0 : Int) < 1000000000000000000000000000057 by decide)
  have a0 : 0 ≤ (if 1000000000000000000 < (if cell < 0 then -cell else cell) then (if cell < 0 then -cell else cell) - 1000000000000000000 else 0) := by split <;> omega
  generalize ha : (if 1000000000000000000 < (if cell < 0 then -cell else cell) then (if cell < 0 then -cell else cell) - 1000000000000000000 else 0) = a at a0
  generalize hb : (cell * 92821 + p * 1000003 + 17) % 1000000000000000000000000000057 = b at t0 t1
  have s0 : Sb 0 [] [.int a, .int b, .int 0, .list []] := ⟨a, b, 0, rfl, a0, t0, by omega, by decide, by decide⟩
  obtain ⟨r1, es1, b0, b1, s1, e1⟩ := draw_ok 0 [] _ 5 s0 (by decide) (by decide) (by decide)
  obtain ⟨m, em, m1, m14⟩ := many5 b0 b1
  obtain ⟨xs, ρ', h1, es2, ys, s2, rfl, rfl, hy1, hy2⟩ := lcL_inv (t := nmT 6) (e := op2 ixO (tmpF (cF (.str "abcdefghijklmnopqrstuvwxyz"))) (tmpF (callF F_draw (lendC 3 (consC (aD (cF (.int 26))) (nilC)))))) (own := [6]) (SgI 1 (ns.map .int) (.int p) cell m) (ds := (List.range m.toNat).map fun i : Nat => .int (i : Int)) (k := 0) (acc := []) (ρ := [.val (.dat (.list (ns.map .int))), .val (.dat (.int p)), .val (.dat (.int cell)), .val (.ls es1), .val (.dat (.int m)), .no, .no])
    ⟨es1, [], s1, rfl, rfl, rfl, fun _ z => nomatch z⟩ (by
    rintro j d acc ρ hd hj ⟨es, ys, sI, rfl, rfl, hl, hy⟩
    rw [List.length_map, List.length_range] at hj
    obtain ⟨j', _, rfl⟩ := List.mem_map.mp hd
    obtain ⟨r4, es4, c0, c1, s4', e4⟩ := draw_ok _ [] es 26 sI (by omega) (by decide) (by decide)
    obtain ⟨x, ex, lx⟩ := abc_r c0 c1
    refine ⟨[.val (.dat (.list (ns.map .int))), .val (.dat (.int p)), .val (.dat (.int cell)), .val (.ls es), .val (.dat (.int m)), .no, .val (.dat (.int j'))], [.val (.dat (.list (ns.map .int))), .val (.dat (.int p)), .val (.dat (.int cell)), .val (.ls es4), .val (.dat (.int m)), .no, .val (.dat (.int j'))], .dat (.str ⟨#[x]⟩), .str ⟨#[x]⟩, by simp, ?_, rfl, es4, ys ++ [⟨#[x]⟩], s4', by simp, by simp, by simp [hl], fun y m => ?_⟩
    · simp [e4, sm26, ex, -Array.getElem?_toList]
    · rcases List.mem_append.mp m with z | z
      · exact hy y z
      · rw [List.mem_singleton.mp z]
        exact lx)
  rw [List.length_map, List.length_range] at hy1 s2
  have hr : rngB m = true := rngB_of (by omega) (by omega)
  have hz : small m.toNat = true := small_of (by omega)
  obtain ⟨a', b', c', rfl, q1, q2, q3, q4, q5⟩ := s2
  by_cases cm : 2 < m
  · refine ⟨ys, [.int a', .int b', .int c', .list (ys.map .str)], ⟨hy2, by omega, by omega⟩, ⟨a', b', c', rfl, q1, q2, q3, q4, by omega⟩, ?_⟩
    simp [F_source, x_def, x_entry, x_leave, B_source, hcell, n4, n5, ha, hb, e1, em, hr, hz, h1, cm, ixN, -x_ifE]
    simp [cm, ixN, x_leave]
  · have lp : ys ≠ [] := fun z => by rw [z, List.length_nil] at hy1; omega
    obtain ⟨y0, yr, rfl⟩ := List.exists_cons_of_ne_nil lp
    obtain ⟨zs, z, hzs⟩ := snoc_of lp
    have el : atI ((y0 :: yr).map PyData.str) (-1) = some (.str z) := by rw [hzs, List.map_append]; exact Fn.atI_last _ _
    have hz2 : Let z := hy2 z (by rw [hzs]; exact List.mem_append_right _ List.mem_cons_self)
    have hy0 : Let y0 := hy2 y0 List.mem_cons_self
    rw [List.map_cons] at el
    refine ⟨[y0, z, y0], [.int a', .int b', .int c', .list ([y0, z, y0].map .str)], ⟨fun s hm => ?_, (show 3 ≤ 3 by decide), (show 3 ≤ 14 by decide)⟩, ⟨a', b', c', rfl, q1, q2, q3, q4, by omega⟩, ?_⟩
    · simp only [List.mem_cons, List.not_mem_nil, or_false] at hm
      rcases hm with rfl | rfl | rfl <;> assumption
    · simp [F_source, x_def, x_entry, x_leave, B_source, hcell, n4, n5, ha, hb, e1, em, hr, hz, h1, -x_ifE]
      simp [cm, ixN, el, x_leave]
end Fn

namespace Fn
open PySem PySem.Spec PyProof.Rows L2 Ww Vs
theorem slHi_c {ds : List PyData} {c : Int} (h0 : 0 ≤ c) : slHi (.ls ds) (.dat (.int c)) = some (.ls (ds.take c.toNat)) := by
  have n : ¬ c < 0 := by omega
  simp only [slHi, slO, x_lv_ls, Option.map_some, Vs.cutD, HT.sIx, n, if_false, List.drop_zero, Nat.sub_zero, Option.some.injEq, O.ls.injEq]
  by_cases h : c.toNat ≤ ds.length
  · rw [Nat.min_eq_left h]
  · rw [Nat.min_eq_right (by omega), List.take_length, List.take_of_length_le (by omega)]
theorem slLo_c {ds : List PyData} {c : Int} (h0 : 0 ≤ c) : slLo (.ls ds) (.dat (.int c)) = some (.ls (ds.drop c.toNat)) := by
  have n : ¬ c < 0 := by omega
  simp only [slLo, slO, x_lv_ls, Option.map_some, Vs.cutD, HT.sIx, n, if_false, Option.some.injEq, O.ls.injEq]
  by_cases h : c.toNat ≤ ds.length
  · rw [Nat.min_eq_left h, List.take_of_length_le (by rw [List.length_drop]; omega)]
  · rw [Nat.min_eq_right (by omega), List.drop_length, List.drop_of_length_le (by omega)]
    simp
/-- a slot of the loops: empty, or data -/
def Nd (s : Sl) : Prop := s = .no ∨ ∃ d, s = .val (.dat d)
theorem Nd.fr {s : Sl} (h : Nd s) : Fr s := by
  rcases h with rfl | ⟨d, rfl⟩
  · exact Fr.no
  · exact Fr.val
def RgI (c : Nat) (ls ws : List Str) (i : Nat) (ρ : En) : Prop := ∃ (es : List PyData) (s2 s3 s4 : Sl), Sb (c + 100 * i) ls es ∧ ρ = [.bor (.ls es), .val (.ls (ws.map .str)), s2, s3, s4, .no, .no, .no, .no, .no] ∧ Nd s2 ∧ Fr s3 ∧ Fr s4
theorem right_step (c : Nat) (ls ws : List Str) (hl : Ls ls) (hw : ∀ w ∈ ws, Wd w) (hn : ws ≠ []) (hc : c ≤ 500000) (i : Nat) (ρ : En) (hi : i < 3) (h : RgI c ls ws i ρ) : ∃ ρ1 ρ2, (nmT 2).f (.int (i : Int)) ρ = some ρ1 ∧ (L1_right ρ1 = .nx ρ2 ∨ L1_right ρ1 = .ct ρ2) ∧ RgI c ls ws (i + 1) ρ2 := by
  obtain ⟨es, s2, s3, s4, hs, rfl, f2, f3, f4⟩ := h
  have lp : 0 < ws.length := List.length_pos_iff.mpr hn
  obtain ⟨r1, es1, a0, a1, t1, e1⟩ := draw_ok _ ls es 7 hs (by omega) (by decide) (by decide)
  obtain ⟨r2, es2, b0, b1, t2, e2⟩ := draw_ok _ ls es1 2 t1 (by omega) (by decide) (by decide)
  obtain ⟨k, es3, ok, kl, kd, t3, e3⟩ := kind_ok 30 _ ls es2 (1 + r1) (r2 == 0) t2 (by omega) hl (by omega) (by omega) (by omega)
  have e4 := depth_ok 30 k ok (by omega)
  have m0 : (0 : Int) < ws.length := by omega
  obtain ⟨w, hwm, ew⟩ := at_str (ls := ws) (i := (i : Int) % ws.length) (Int.emod_nonneg _ (by omega)) (Int.emod_lt_of_pos _ m0)
  have e5 := kind_right_ok w k (hw w hwm) ok (by omega)
  obtain ⟨r6, es6, g0, g1, t6, e6⟩ := draw_ok _ ls es3 5 t3 (by omega) (by decide) (by decide)
  obtain ⟨k2, es7, ok2, kd2, t7, e7⟩ := flat_kind_ok _ ls es6 r6 t6 hl (by omega) (by omega) (by omega)
  obtain ⟨w0, wr, rfl⟩ := List.exists_cons_of_ne_nil hn
  have e8 := kind_right_ok w0 k2 (hw w0 List.mem_cons_self) ok2 (by omega)
  refine ⟨[.bor (.ls es), .val (.ls ((w0 :: wr).map .str)), .val (.dat (.int i)), s3, s4, .no, .no, .no, .no, .no], [.bor (.ls es7), .val (.ls ((w0 :: wr).map .str)), .val (.dat (.int i)), .val (.dat k.dat), .val (.dat k2.dat), .no, .no, .no, .no, .no], by simp [x_fr f2.fr], .inl ?_, es7, _, _, _, t7.le (by omega), rfl, .inr ⟨_, rfl⟩, Fr.val, Fr.val⟩
  rw [List.map_cons] at ew
  rw [List.length_cons] at ew m0
  have ew' : atI (PyData.str w0 :: wr.map PyData.str) ((i : Int) % ((wr.length : Int) + 1)) = some (.str w) := by
    rw [← ew]
    rfl
  have m0' : (0 : Int) < (wr.length : Int) + 1 := by omega
  have e9 : ixO (.ls es7) (.dat (.int 3)) = some (.dat (.list (ls.map .str))) := by rw [x_ix_3, t7.at3] <;> rfl
  by_cases cd : (k.deep : Int) < 6
  · simp [L1_right, e1, e2, e3, e4, x_fr f3, x_fr f4, cd, m0', ew', e5, t3.at3, e6, e7, e8]
  · simp [L1_right, e1, e2, e3, e4, x_fr f3, x_fr f4, cd, t3.at3, e6, e7, e8]
def WnI (c : Nat) (ls ws : List Str) (s3 s4 : Sl) (a b : PyData) (i : Nat) (acc : List PyData) (ρ : En) : Prop := ∃ (es : List PyData) (ys : List Str), Sb (c + i) ls es ∧ ρ = [.bor (.ls es), .val (.ls (ws.map .str)), .no, s3, s4, .val (.dat a), .val (.dat b), .no, .no, .no] ∧ acc = ys.map .str ∧ ys.length = i
theorem right_ok (ls : List Str) (ds : List PyData) (hl : Ls ls) (hs : Sb 20 ls ds) : ∃ es, F_right [.ls ds] = .ok (.dat (.bool true)) [.bor (.ls es)] := by
  obtain ⟨ws, es1, hw, hn, h3, t1, e1⟩ := words_ok 20 ls ds hs (by decide)
  obtain ⟨ρ', h1, es2, s2, s3, s4, t2, rfl, f2, f3, f4⟩ := loop_rng0 (t := nmT 2) (body := L1_right) (n := 3) (ρ := [.bor (.ls es1), .val (.ls (ws.map .str)), .no, .no, .no, .no, .no, .no, .no, .no]) (RgI 59 ls ws)
    ⟨es1, .no, .no, .no, t1, rfl, .inl rfl, Fr.no, Fr.no⟩ fun i ρ hi h => right_step 59 ls ws hl hw hn (by decide) i ρ hi h
  obtain ⟨r3, es3, a0, a1, t3, e3⟩ := draw_ok _ ls es2 5 t2 (by decide) (by decide) (by decide)
  obtain ⟨r4, es4, b0, b1, t4, e4⟩ := draw_ok _ ls es3 (r3 + 1) t3 (by decide) (by omega) (by omega)
  obtain ⟨xs, ρ', h2, es5, ys, t5, rfl, rfl, hy1⟩ := lcL_inv (t := nmT 2) (e := op2 ixO (tmpF (ixS 0 (cF (.int 3)))) (tmpF (callF F_draw (lendC 0 (consC (aD (op1 lenO (tmpF (ixS 0 (cF (.int 3)))))) (nilC)))))) (own := [2]) (WnI (59 + 100 * 3 + 1 + 1) ls ws s3 s4 (.int r3) (.int r4)) (ds := (List.range r3.toNat).map fun i : Nat => .int (i : Int)) (k := 0) (acc := []) (ρ := [.bor (.ls es4), .val (.ls (ws.map .str)), .no, s3, s4, .val (.dat (.int r3)), .val (.dat (.int r4)), .no, .no, .no])
    ⟨es4, [], t4, rfl, rfl, rfl⟩ (by
    rintro j d acc ρ hd hj ⟨es, ys, sI, rfl, rfl, hl2⟩
    rw [List.length_map, List.length_range] at hj
    obtain ⟨j', _, rfl⟩ := List.mem_map.mp hd
    obtain ⟨r6, es6, c0, c1, s6, e6⟩ := draw_ok _ ls es ls.length sI (by omega) (by have := hl.2.1; omega) (by have := hl.2.2; omega)
    obtain ⟨x, _, ex⟩ := at_str c0 c1
    refine ⟨[.bor (.ls es), .val (.ls (ws.map .str)), .val (.dat (.int j')), s3, s4, .val (.dat (.int r3)), .val (.dat (.int r4)), .no, .no, .no], [.bor (.ls es6), .val (.ls (ws.map .str)), .val (.dat (.int j')), s3, s4, .val (.dat (.int r3)), .val (.dat (.int r4)), .no, .no, .no], .dat (.str x), .str x, by simp, ?_, rfl, es6, ys ++ [x], s6, by simp, by simp, by simp [hl2]⟩
    simp [sI.at3, e6, ex])
  rw [List.length_map, List.length_range] at hy1 t5
  obtain ⟨l1, _, el1⟩ := at_str (ls := ls) (i := 1) (by decide) (by have := hl.2.1; omega)
  obtain ⟨wz, w, hwz⟩ := snoc_of hn
  have ew : atI (ws.map PyData.str) (-1) = some (.str w) := by rw [hwz, List.map_append]; exact Fn.atI_last _ _
  have et : (ys.map PyData.str).take r4.toNat = (ys.take r4.toNat).map .str := by rw [List.map_take]
  have ed : (ys.map PyData.str).drop r4.toNat = (ys.drop r4.toNat).map .str := by rw [List.map_drop]
  have lt : (ys.take r4.toNat).length ≤ 5 := by rw [List.length_take]; omega
  have ld : (ys.drop r4.toNat).length ≤ 5 := by rw [List.length_drop]; omega
  have eta : (ys.take r4.toNat).map PyData.str ++ (ys.drop r4.toNat).map PyData.str = ys.map .str := by rw [← List.map_append, List.take_append_drop]
  have s1 := slHi_c (ds := ys.map .str) b0
  have s2' := slLo_c (ds := ys.map .str) b0
  rw [et] at s1
  rw [ed] at s2'
  generalize ys.take r4.toNat = B at s1 lt eta
  generalize ys.drop r4.toNat = A at s2' ld eta
  have e7 := waits_ok 30 l1 B A (by omega)
  have e8 := kind_of_rule_ok w l1 B A
  have e9 := eq_self (wt_gd (h := l1) (B := B) (A := A) (by omega))
  have e10 : eqO (.ls (ys.map .str)) (.ls (ys.map .str)) = some (.dat (.bool true)) := eq_self (d := .list (ys.map .str)) (strs_gd (by omega) (by decide))
  have z1 : small (B.length + A.length) = true := small_of (by omega)
  have hr : rngB 3 = true := rngB_of (by decide) (by decide)
  have hr3 : rngB r3 = true := rngB_of (by omega) (by omega)
  have hz3 : small r3.toNat = true := small_of (by omega)
  refine ⟨es5, ?_⟩
  rcases f2 with rfl | ⟨d2, rfl⟩
  · simp [F_right, x_def, x_entry, x_leave, B_right, e1, hr, h1, e3, e4, hr3, hz3, h2, t5.at3, el1, s1, s2', ew, e7, e8, e9, e10, z1, eta, -x_eqO, -x_eqO_ls]
  · simp [F_right, x_def, x_entry, x_leave, B_right, e1, hr, h1, e3, e4, hr3, hz3, h2, x_restK_dat, t5.at3, el1, s1, s2', ew, e7, e8, e9, e10, z1, eta, -x_eqO, -x_eqO_ls]
end Fn
namespace Lw
open PySem PySem.Spec PyProof.Rows L2 Ww Vs Fn
theorem law_ok : LawOk F_law_k26 := by
  intro ns hn
  have b0 : (if 2 < (if (ns.length : Int) < 8 then (ns.length : Int) else 8) then (if (ns.length : Int) < 8 then (ns.length : Int) else 8) else 2) ≤ 8 := by split <;> split <;> omega
  have b1 : 2 ≤ (if 2 < (if (ns.length : Int) < 8 then (ns.length : Int) else 8) then (if (ns.length : Int) < 8 then (ns.length : Int) else 8) else 2) := by split <;> omega
  generalize hm : (if 2 < (if (ns.length : Int) < 8 then (ns.length : Int) else 8) then (if (ns.length : Int) < 8 then (ns.length : Int) else 8) else 2) = m at b0 b1
  obtain ⟨ρ', h1, s1, rfl, f1⟩ := loop_rng0 (t := nmT 1) (body := L1_law_k26) (n := m.toNat) (ρ := [.val (.dat (.list (ns.map .int))), .no]) (fun _ ρ => ∃ s1, ρ = [.val (.dat (.list (ns.map .int))), s1] ∧ Fr s1) ⟨.no, rfl, Fr.no⟩ (by
    rintro i ρ hi ⟨s1, rfl, f1⟩
    obtain ⟨ls, es, hl, t, e1⟩ := source_ok ns i hn (by omega)
    obtain ⟨es2, e2⟩ := right_ok ls es hl t
    refine ⟨[.val (.dat (.list (ns.map .int))), .val (.dat (.int i))], [.val (.dat (.list (ns.map .int))), .val (.dat (.int i))], by simp [x_fr f1], .inl ?_, _, rfl, Fr.val⟩
    simp [L1_law_k26, e1, e2])
  have rr : rngB m = true := rngB_of (by omega) (by omega)
  exact ⟨_, by simp [F_law_k26, x_def, x_entry, x_leave, B_law_k26, hm, rr, h1]; rfl⟩
end Lw

namespace Nk26
open PySem PySem.Spec PyProof.Rows L2 Ww Vs Fn
def top (i : Nat) : Stmt := PySem.Challenge.pw_waitwords_k26_rules_of_flat_kinds.main.body.getD i (.Pass ⟨0, 0, 0, 0⟩)
abbrev s_depth : Stmt := top 29
abbrev N_depth : List Str := ["_law_kind_here"]
abbrev P_depth : List Str := ["_law_kind_here"]
theorem sc_depth : FnScope N_depth P_depth (defScope s_depth) := ⟨rfl, rfl, rfl, by decide +kernel, rfl, by decide +kernel, by decide +kernel⟩

abbrev s_draw : Stmt := top 26
abbrev N_draw : List Str := ["_law_source_here", "_law_many", "_law_found", "_law_mixed"]
abbrev P_draw : List Str := ["_law_source_here", "_law_many"]
theorem sc_draw : FnScope N_draw P_draw (defScope s_draw) := ⟨rfl, rfl, rfl, by decide +kernel, rfl, by decide +kernel, by decide +kernel⟩

abbrev s_lflat : Stmt := top 31
abbrev N_lflat : List Str := ["_law_source_here", "_law_pool", "_law_wants", "_law_kind_here", "_law_turn", "_law_other"]
abbrev P_lflat : List Str := ["_law_source_here", "_law_pool", "_law_wants"]
theorem sc_lflat : FnScope N_lflat P_lflat (defScope s_lflat) := ⟨rfl, rfl, rfl, by decide +kernel, rfl, by decide +kernel, by decide +kernel⟩

abbrev s_kind : Stmt := top 27
abbrev N_kind : List Str := ["_law_source_here", "_law_many", "_law_single", "_law_less", "_law_one", "_law_other"]
abbrev P_kind : List Str := ["_law_source_here", "_law_many", "_law_single"]
theorem sc_kind : FnScope N_kind P_kind (defScope s_kind) := ⟨rfl, rfl, rfl, by decide +kernel, rfl, by decide +kernel, by decide +kernel⟩

abbrev s_lis_flat : Stmt := top 33
abbrev N_lis_flat : List Str := ["_law_kind_here"]
abbrev P_lis_flat : List Str := ["_law_kind_here"]
theorem sc_lis_flat : FnScope N_lis_flat P_lis_flat (defScope s_lis_flat) := ⟨rfl, rfl, rfl, by decide +kernel, rfl, by decide +kernel, by decide +kernel⟩

abbrev s_flat : Stmt := top 18
abbrev N_flat : List Str := ["kind", "then", "wants"]
abbrev P_flat : List Str := ["kind"]
theorem sc_flat : FnScope N_flat P_flat (defScope s_flat) := ⟨rfl, rfl, rfl, by decide +kernel, rfl, by decide +kernel, by decide +kernel⟩

abbrev s_check_flat : Stmt := top 20
abbrev N_check_flat : List Str := ["kind"]
abbrev P_check_flat : List Str := ["kind"]
theorem sc_check_flat : FnScope N_check_flat P_check_flat (defScope s_check_flat) := ⟨rfl, rfl, rfl, by decide +kernel, rfl, by decide +kernel, by decide +kernel⟩

abbrev s_fresh : Stmt := top 6
abbrev N_fresh : List Str := ["thing", "part"]
abbrev P_fresh : List Str := ["thing"]
theorem sc_fresh : FnScope N_fresh P_fresh (defScope s_fresh) := ⟨rfl, rfl, rfl, by decide +kernel, rfl, by decide +kernel, by decide +kernel⟩

abbrev s_is_letter : Stmt := top 10
abbrev N_is_letter : List Str := ["text"]
abbrev P_is_letter : List Str := ["text"]
theorem sc_is_letter : FnScope N_is_letter P_is_letter (defScope s_is_letter) := ⟨rfl, rfl, rfl, by decide +kernel, rfl, by decide +kernel, by decide +kernel⟩

abbrev s_wrong_part : Stmt := top 11
abbrev N_wrong_part : List Str := ["kind", "wrong"]
abbrev P_wrong_part : List Str := ["kind"]
theorem sc_wrong_part : FnScope N_wrong_part P_wrong_part (defScope s_wrong_part) := ⟨rfl, rfl, rfl, by decide +kernel, rfl, by decide +kernel, by decide +kernel⟩

abbrev s_checked_kind : Stmt := top 12
abbrev N_checked_kind : List Str := ["kind", "wrong"]
abbrev P_checked_kind : List Str := ["kind"]
theorem sc_checked_kind : FnScope N_checked_kind P_checked_kind (defScope s_checked_kind) := ⟨rfl, rfl, rfl, by decide +kernel, rfl, by decide +kernel, by decide +kernel⟩

abbrev s_checked_word : Stmt := top 16
abbrev N_checked_word : List Str := ["word", "sign"]
abbrev P_checked_word : List Str := ["word"]
theorem sc_checked_word : FnScope N_checked_word P_checked_word (defScope s_checked_word) := ⟨rfl, rfl, rfl, by decide +kernel, rfl, by decide +kernel, by decide +kernel⟩

abbrev s_made_rule : Stmt := top 19
abbrev N_made_rule : List Str := ["word", "kind", "before", "after"]
abbrev P_made_rule : List Str := ["word", "kind"]
theorem sc_made_rule : FnScope N_made_rule P_made_rule (defScope s_made_rule) := ⟨rfl, rfl, rfl, by decide +kernel, rfl, by decide +kernel, by decide +kernel⟩

abbrev s_rule_of : Stmt := top 22
abbrev N_rule_of : List Str := ["word", "kind"]
abbrev P_rule_of : List Str := ["word", "kind"]
theorem sc_rule_of : FnScope N_rule_of P_rule_of (defScope s_rule_of) := ⟨rfl, rfl, rfl, by decide +kernel, rfl, by decide +kernel, by decide +kernel⟩

abbrev s_refused : Stmt := top 35
abbrev N_refused : List Str := ["_law_word", "_law_kind_here", "_law_held", "e"]
abbrev P_refused : List Str := ["_law_word", "_law_kind_here"]
theorem sc_refused : FnScope N_refused P_refused (defScope s_refused) := ⟨rfl, rfl, rfl, by decide +kernel, rfl, by decide +kernel, by decide +kernel⟩

abbrev s_rule : Stmt := top 32
abbrev N_rule : List Str := ["_law_word", "_law_kind_here", "_law_before", "_law_after", "_law_turn"]
abbrev P_rule : List Str := ["_law_word", "_law_kind_here"]
theorem sc_rule : FnScope N_rule P_rule (defScope s_rule) := ⟨rfl, rfl, rfl, by decide +kernel, rfl, by decide +kernel, by decide +kernel⟩

abbrev s_waits : Stmt := top 34
abbrev N_waits : List Str := ["_law_letter", "_law_before", "_law_after"]
abbrev P_waits : List Str := ["_law_letter", "_law_before", "_law_after"]
theorem sc_waits : FnScope N_waits P_waits (defScope s_waits) := ⟨rfl, rfl, rfl, by decide +kernel, rfl, by decide +kernel, by decide +kernel⟩

abbrev s_is_flat : Stmt := top 21
abbrev N_is_flat : List Str := ["kind"]
abbrev P_is_flat : List Str := ["kind"]
theorem sc_is_flat : FnScope N_is_flat P_is_flat (defScope s_is_flat) := ⟨rfl, rfl, rfl, by decide +kernel, rfl, by decide +kernel, by decide +kernel⟩

abbrev s_kind_of_rule : Stmt := top 23
abbrev N_kind_of_rule : List Str := ["rule", "letter", "before", "_", "after", "kind", "one"]
abbrev P_kind_of_rule : List Str := ["rule"]
theorem sc_kind_of_rule : FnScope N_kind_of_rule P_kind_of_rule (defScope s_kind_of_rule) := ⟨rfl, rfl, rfl, by decide +kernel, rfl, by decide +kernel, by decide +kernel⟩

abbrev s_kind_right : Stmt := top 36
abbrev N_kind_right : List Str := ["_law_word", "_law_kind_here", "_law_flat_here", "_law_told", "_law_due"]
abbrev P_kind_right : List Str := ["_law_word", "_law_kind_here"]
theorem sc_kind_right : FnScope N_kind_right P_kind_right (defScope s_kind_right) := ⟨rfl, rfl, rfl, by decide +kernel, rfl, by decide +kernel, by decide +kernel⟩

abbrev s_words : Stmt := top 30
abbrev N_words : List Str := ["_law_source_here", "_law_many", "_law_signs", "_law_words_here", "_law_turn", "_law_word", "_law_spot", "_law_base", "_law_at"]
abbrev P_words : List Str := ["_law_source_here", "_law_many"]
theorem sc_words : FnScope N_words P_words (defScope s_words) := ⟨rfl, rfl, rfl, by decide +kernel, rfl, by decide +kernel, by decide +kernel⟩

abbrev s_right : Stmt := top 37
abbrev N_right : List Str := ["_law_source_here", "_law_words_here", "_law_turn", "_law_kind_here", "_law_flat_here", "_law_many", "_law_cut", "_law_wants", "_law_rule_here", "_law_due"]
abbrev P_right : List Str := ["_law_source_here"]
theorem sc_right : FnScope N_right P_right (defScope s_right) := ⟨rfl, rfl, rfl, by decide +kernel, rfl, by decide +kernel, by decide +kernel⟩

abbrev s_source : Stmt := top 25
abbrev N_source : List Str := ["_law_script", "_law_place", "_law_cell", "_law_source_here", "_law_many", "_law_signs", "_law_turn"]
abbrev P_source : List Str := ["_law_script", "_law_place"]
theorem sc_source : FnScope N_source P_source (defScope s_source) := ⟨rfl, rfl, rfl, by decide +kernel, rfl, by decide +kernel, by decide +kernel⟩

abbrev s_law : Stmt := top 38
abbrev N_law : List Str := ["_law_script", "_law_place"]
abbrev P_law : List Str := ["_law_script"]
theorem sc_law : FnScope N_law P_law (defScope s_law) := ⟨rfl, rfl, rfl, by decide +kernel, rfl, by decide +kernel, by decide +kernel⟩

def inCls : Stmt → Nat → Stmt
  | .ClassDef _ _ _ body _ _ _ _ _ _ _, i => body.getD i (.Pass ⟨0, 0, 0, 0⟩)
  | s, _ => s
abbrev s_init : Stmt := inCls (top 1) 0
abbrev N_init : List Str := ["self", "value"]
abbrev P_init : List Str := ["self", "value"]
theorem sc_init : FnScope N_init P_init (defScope s_init) := ⟨rfl, rfl, rfl, by decide +kernel, rfl, by decide +kernel, by decide +kernel⟩

structure Txt (w : World) (K : PySem.W.Frag) (mg : Str → Option Value) where
  a_depth : Addr
  d_depth : FuncData
  F_depth : Fun K "_law_depth" "_law_depth" s_depth a_depth d_depth
  m_depth : mg "_law_depth" = some (.ref a_depth)
  B_depth : Binds K d_depth P_depth []
  a_draw : Addr
  d_draw : FuncData
  F_draw : Fun K "_law_draw" "_law_draw" s_draw a_draw d_draw
  m_draw : mg "_law_draw" = some (.ref a_draw)
  B_draw : Binds K d_draw P_draw []
  a_lflat : Addr
  d_lflat : FuncData
  F_lflat : Fun K "_law_flat" "_law_flat" s_lflat a_lflat d_lflat
  m_lflat : mg "_law_flat" = some (.ref a_lflat)
  B_lflat : Binds K d_lflat P_lflat []
  a_kind : Addr
  d_kind : FuncData
  F_kind : Fun K "_law_kind" "_law_kind" s_kind a_kind d_kind
  m_kind : mg "_law_kind" = some (.ref a_kind)
  B_kind : Binds K d_kind P_kind []
  a_lis_flat : Addr
  d_lis_flat : FuncData
  F_lis_flat : Fun K "_law_is_flat" "_law_is_flat" s_lis_flat a_lis_flat d_lis_flat
  m_lis_flat : mg "_law_is_flat" = some (.ref a_lis_flat)
  B_lis_flat : Binds K d_lis_flat P_lis_flat []
  a_flat : Addr
  d_flat : FuncData
  F_flat : Fun K "flat" "flat" s_flat a_flat d_flat
  m_flat : mg "flat" = some (.ref a_flat)
  B_flat : Binds K d_flat P_flat []
  a_check_flat : Addr
  d_check_flat : FuncData
  F_check_flat : Fun K "check_flat" "check_flat" s_check_flat a_check_flat d_check_flat
  m_check_flat : mg "check_flat" = some (.ref a_check_flat)
  B_check_flat : Binds K d_check_flat P_check_flat []
  a_fresh : Addr
  d_fresh : FuncData
  F_fresh : Fun K "fresh" "fresh" s_fresh a_fresh d_fresh
  m_fresh : mg "fresh" = some (.ref a_fresh)
  B_fresh : Binds K d_fresh P_fresh []
  a_is_letter : Addr
  d_is_letter : FuncData
  F_is_letter : Fun K "is_letter" "is_letter" s_is_letter a_is_letter d_is_letter
  m_is_letter : mg "is_letter" = some (.ref a_is_letter)
  B_is_letter : Binds K d_is_letter P_is_letter []
  a_wrong_part : Addr
  d_wrong_part : FuncData
  F_wrong_part : Fun K "wrong_part" "wrong_part" s_wrong_part a_wrong_part d_wrong_part
  m_wrong_part : mg "wrong_part" = some (.ref a_wrong_part)
  B_wrong_part : Binds K d_wrong_part P_wrong_part []
  a_checked_kind : Addr
  d_checked_kind : FuncData
  F_checked_kind : Fun K "checked_kind" "checked_kind" s_checked_kind a_checked_kind d_checked_kind
  m_checked_kind : mg "checked_kind" = some (.ref a_checked_kind)
  B_checked_kind : Binds K d_checked_kind P_checked_kind []
  a_checked_word : Addr
  d_checked_word : FuncData
  F_checked_word : Fun K "checked_word" "checked_word" s_checked_word a_checked_word d_checked_word
  m_checked_word : mg "checked_word" = some (.ref a_checked_word)
  B_checked_word : Binds K d_checked_word P_checked_word []
  a_made_rule : Addr
  d_made_rule : FuncData
  F_made_rule : Fun K "made_rule" "made_rule" s_made_rule a_made_rule d_made_rule
  m_made_rule : mg "made_rule" = some (.ref a_made_rule)
  B_made_rule : Binds K d_made_rule P_made_rule []
  a_rule_of : Addr
  d_rule_of : FuncData
  F_rule_of : Fun K "rule_of" "rule_of" s_rule_of a_rule_of d_rule_of
  m_rule_of : mg "rule_of" = some (.ref a_rule_of)
  B_rule_of : Binds K d_rule_of P_rule_of []
  KR_rule_of : KB0 K d_rule_of P_rule_of P_rule_of.reverse (fun ws => ws.reverse) (fun zs => zs.reverse)
  a_refused : Addr
  d_refused : FuncData
  F_refused : Fun K "_law_refused" "_law_refused" s_refused a_refused d_refused
  m_refused : mg "_law_refused" = some (.ref a_refused)
  B_refused : Binds K d_refused P_refused []
  a_rule : Addr
  d_rule : FuncData
  F_rule : Fun K "_law_rule" "_law_rule" s_rule a_rule d_rule
  m_rule : mg "_law_rule" = some (.ref a_rule)
  B_rule : Binds K d_rule P_rule []
  a_waits : Addr
  d_waits : FuncData
  F_waits : Fun K "_law_waits" "_law_waits" s_waits a_waits d_waits
  m_waits : mg "_law_waits" = some (.ref a_waits)
  B_waits : Binds K d_waits P_waits []
  a_is_flat : Addr
  d_is_flat : FuncData
  F_is_flat : Fun K "is_flat" "is_flat" s_is_flat a_is_flat d_is_flat
  m_is_flat : mg "is_flat" = some (.ref a_is_flat)
  B_is_flat : Binds K d_is_flat P_is_flat []
  K_is_flat : KB0 K d_is_flat P_is_flat P_is_flat (fun ws => ws) (fun zs => zs)
  a_kind_of_rule : Addr
  d_kind_of_rule : FuncData
  F_kind_of_rule : Fun K "kind_of_rule" "kind_of_rule" s_kind_of_rule a_kind_of_rule d_kind_of_rule
  m_kind_of_rule : mg "kind_of_rule" = some (.ref a_kind_of_rule)
  B_kind_of_rule : Binds K d_kind_of_rule P_kind_of_rule []
  K_kind_of_rule : KB0 K d_kind_of_rule P_kind_of_rule P_kind_of_rule (fun ws => ws) (fun zs => zs)
  a_kind_right : Addr
  d_kind_right : FuncData
  F_kind_right : Fun K "_law_kind_right" "_law_kind_right" s_kind_right a_kind_right d_kind_right
  m_kind_right : mg "_law_kind_right" = some (.ref a_kind_right)
  B_kind_right : Binds K d_kind_right P_kind_right []
  a_words : Addr
  d_words : FuncData
  F_words : Fun K "_law_words" "_law_words" s_words a_words d_words
  m_words : mg "_law_words" = some (.ref a_words)
  B_words : Binds K d_words P_words []
  a_right : Addr
  d_right : FuncData
  F_right : Fun K "_law_right" "_law_right" s_right a_right d_right
  m_right : mg "_law_right" = some (.ref a_right)
  B_right : Binds K d_right P_right []
  a_source : Addr
  d_source : FuncData
  F_source : Fun K "_law_source" "_law_source" s_source a_source d_source
  m_source : mg "_law_source" = some (.ref a_source)
  B_source : Binds K d_source P_source []
  a_law : Addr
  d_law : FuncData
  F_law : Fun K "law" "law" s_law a_law d_law
  m_law : mg "law" = some (.ref a_law)
  B_law : Binds K d_law P_law []
  b_abs : mg "abs" = none
  b_all : mg "all" = none
  b_bool : mg "bool" = none
  b_int : mg "int" = none
  b_isinstance : mg "isinstance" = none
  b_len : mg "len" = none
  b_list : mg "list" = none
  b_max : mg "max" = none
  b_min : mg "min" = none
  b_range : mg "range" = none
  b_tuple : mg "tuple" = none
  t_LETTERS_books : Tok
  g_LETTERS_books : mg "LETTERS_books" = some (.str "abcdefghijklmnopqrstuvwxyz" t_LETTERS_books)
  t_LETTERS_kinds : Tok
  g_LETTERS_kinds : mg "LETTERS_kinds" = some (.str "abcdefghijklmnopqrstuvwxyz" t_LETTERS_kinds)
  t_MOST_LETTERS : Tok
  g_MOST_LETTERS : mg "MOST_LETTERS" = some (.int 8 t_MOST_LETTERS)
  o_TURNS : Addr
  e_TURNS : Array DictEntry
  n_TURNS : Nat
  g_TURNS : mg "TURNS" = some (.ref o_TURNS)
  k_TURNS : KTbl K w o_TURNS e_TURNS n_TURNS [("behind", "ahead"), ("ahead", "behind"), ("with", "with")]
  a_init : Addr
  d_init : FuncData
  F_init : Fun K "__init__" "WaitError.__init__" s_init a_init d_init
  B_init : Binds K d_init P_init []
  b_ValueError : mg "ValueError" = none
  vV : PySem.W.findCls K (.type "ValueError") (.type "type") "__init__" = some (.val (.builtin "ValueError.__init__"))
  c_InvalidKind : Addr
  E_InvalidKind : Er K mg "InvalidKind" c_InvalidKind a_init
  x_InvalidKind : XfC K c_InvalidKind
  c_InvalidWord : Addr
  E_InvalidWord : Er K mg "InvalidWord" c_InvalidWord a_init
  x_InvalidWord : XfC K c_InvalidWord
  c_NotFlat : Addr
  E_NotFlat : Er K mg "NotFlat" c_NotFlat a_init
  x_NotFlat : XfC K c_NotFlat
  m_InvalidKind_NotFlat : PySem.W.exmOne K (.ref c_InvalidKind) (.ref c_NotFlat) = some false
  m_InvalidWord_NotFlat : PySem.W.exmOne K (.ref c_InvalidWord) (.ref c_NotFlat) = some false
  m_NotFlat_NotFlat : PySem.W.exmOne K (.ref c_NotFlat) (.ref c_NotFlat) = some true
section
variable {w : World} {K : PySem.W.Frag} {mg : Str → Option Value}
def cl (T : Txt w K mg) : Str → Option Addr := clT [("InvalidKind", T.c_InvalidKind), ("InvalidWord", T.c_InvalidWord), ("NotFlat", T.c_NotFlat)]
theorem cl_InvalidKind (T : Txt w K mg) : cl T "InvalidKind" = some T.c_InvalidKind := clT_at
theorem cl_InvalidWord (T : Txt w K mg) : cl T "InvalidWord" = some T.c_InvalidWord := clT_on (by decide +kernel) (clT_at)
theorem cl_NotFlat (T : Txt w K mg) : cl T "NotFlat" = some T.c_NotFlat := clT_on (by decide +kernel) (clT_on (by decide +kernel) (clT_at))
theorem mt_NotFlat (T : Txt w K mg) : Mt K (cl T) (.ref T.c_NotFlat) (mtT [("InvalidKind", false), ("InvalidWord", false), ("NotFlat", true)]) := mt_cons T.m_InvalidKind_NotFlat (mt_cons T.m_InvalidWord_NotFlat (mt_cons T.m_NotFlat_NotFlat (mt_nil)))
theorem hall (T : Txt w K mg) : ∀ x C, cl T x = some C → XfC K C ∧ PySem.W.findIn K (.ref C) "value" = some none := hall_of (List.forall_mem_cons.mpr ⟨⟨T.x_InvalidKind, T.E_InvalidKind.v⟩, List.forall_mem_cons.mpr ⟨⟨T.x_InvalidWord, T.E_InvalidWord.v⟩, List.forall_mem_cons.mpr ⟨⟨T.x_NotFlat, T.E_NotFlat.v⟩, fun _ h => nomatch h⟩⟩⟩)
theorem ok_init {P : Program} {base : Heap} (T : Txt w K mg) : FnOk P w K mg base CX0 1 T.a_init T.d_init P_init (spInit K) :=
  T.F_init.ok sc_init (fun vs H Q E h => by obtain ⟨a, C, y, rfl, _⟩ := h; rfl) (fun cdv A outer s H vs Q E hr h => ⟨_, pss_cons (ps_expr (pe_veinit rfl T.b_ValueError T.vV (pa_cons (pv 0) (pa_cons (pv 1) pa_nil)))) (pss_one (ps_ost (pv 0) (pv 1))), init_ok h⟩)
end

end Nk26

namespace Nk26
open PySem PySem.Spec PyProof.Rows L2 Ww Vs Fn
section
variable {P : Program} {w : World} {K : PySem.W.Frag} {mg : Str → Option Value} {base : Heap}
theorem ok_depth (T : Txt w K mg) : ∀ n : Nat, FnOk P w K mg base (L2.CX P w) (n + 0) T.a_depth T.d_depth P_depth (spF K (cl T) (F_depth n))
  | 0 => fn_none fun vs H Q E h => spF_none h
  | n + 1 => by
    have IH := ok_depth T n
    exact T.F_depth.okX sc_depth (fun vs H Q E h => spF_len h) (fun cdv A outer s H vs Q E hr h => ⟨_, ss_one (s_ret (pf_if (tst_ok (pt_cmpR (op_eqP (hu64 hr)) (tmp_ok (pf_ixS (hu1 hr) (pv 0) (c_ok pe_int (fun _ => .int _)))) (tmp_ok (c_ok pe_str (fun _ => .str _))) (nomark _)) (op2_le prim_eq)) (c_ok pe_int (fun _ => .int _)) (pf_add (tmp_ok (c_ok pe_int (fun _ => .int _))) (tmp_ok (bi2 (call_max2 rfl) prim_max2 rfl T.b_max (by decide +kernel) (tmp_ok (pf_callE IH (hr.mono (by first | decide | omega)) rfl T.m_depth T.F_depth.kp T.B_depth (takes_of rfl rfl rfl rfl) (pa_consC (aD_ok (pf_ixS (hu1 hr) (pv 0) (c_ok pe_int (fun _ => .int _)))) (pa_nilC)))) (tmp_ok (pf_callE IH (hr.mono (by first | decide | omega)) rfl T.m_depth T.F_depth.kp T.B_depth (takes_of rfl rfl rfl rfl) (pa_consC (aD_ok (pf_ixS (hu1 hr) (pv 0) (c_ok pe_int (fun _ => .int _)))) (pa_nilC))))))))), defE (body := (B_depth (F_depth n))) rfl h (by decide)⟩)

theorem ok_draw (T : Txt w K mg) : FnOk P w K mg base (L2.CX P w) 1 T.a_draw T.d_draw P_draw (spF K (cl T) F_draw) :=
  T.F_draw.okX sc_draw (fun vs H Q E h => spF_len h) (fun cdv A outer s H vs Q E hr h => ⟨_, ss_cons (s_if (tst_ok (pt_cmpR op_gt (tmp_ok (pf_ixS (hu1 hr) (pv 0) (c_ok pe_int (fun _ => .int _)))) (tmp_ok (c_ok pe_int (fun _ => .int _))) (nomark _)) (op2_le prim_gt))
    (ss_cons (s_set (ps_set (i := 2) sc_draw.nd rfl (Or.inl rfl) (pf_mod (tmp_ok (ty1 call_int1 prim_int rfl T.b_int (by decide +kernel) (tmp_ok (pf_ixS (hu1 hr) (pv 0) (c_ok pe_int (fun _ => .int _)))))) (slot_ok (pv 1)))))
    (ss_cons (s_store (ps_asg (pf_fdiv (tmp_ok (pf_ixS (hu1 hr) (pv 0) (c_ok pe_int (fun _ => .int _)))) (slot_ok (pv 1))) (pg_sub (pv 0) (c_ok pe_int (fun _ => .int _)) set_list)) (ps_dput (hu1 hr) (pv 0) (c_ok pe_int (fun _ => .int _)) (pf_fdiv (tmp_ok (pf_ixS (hu1 hr) (pv 0) (c_ok pe_int (fun _ => .int _)))) (slot_ok (pv 1))) rfl))
    (ss_one (s_ret (mov_ok (pv 2))))))
    (ss_nil))
    (ss_cons (s_store (ps_asg (pf_add (tmp_ok (pf_ixS (hu1 hr) (pv 0) (c_ok pe_int (fun _ => .int _)))) (tmp_ok (c_ok pe_int (fun _ => .int _)))) (pg_sub (pv 0) (c_ok pe_int (fun _ => .int _)) set_list)) (ps_dput (hu1 hr) (pv 0) (c_ok pe_int (fun _ => .int _)) (pf_add (tmp_ok (pf_ixS (hu1 hr) (pv 0) (c_ok pe_int (fun _ => .int _)))) (tmp_ok (c_ok pe_int (fun _ => .int _)))) rfl))
    (ss_cons (s_set (ps_set (i := 3) sc_draw.nd rfl (Or.inl rfl) (pf_mod (tmp_ok (ty1 call_int1 prim_int rfl T.b_int (by decide +kernel) (tmp_ok (pf_pow (tmp_ok (pf_add (tmp_ok (pf_ixS (hu1 hr) (pv 0) (c_ok pe_int (fun _ => .int _)))) (tmp_ok (pf_mul (tmp_ok (c_ok pe_int (fun _ => .int _))) (tmp_ok (pf_ixS (hu1 hr) (pv 0) (c_ok pe_int (fun _ => .int _)))))))) (tmp_ok (c_ok pe_int (fun _ => .int _))))))) (tmp_ok (pf_add (tmp_ok (pf_pow (tmp_ok (c_ok pe_int (fun _ => .int _))) (tmp_ok (c_ok pe_int (fun _ => .int _))))) (tmp_ok (c_ok pe_int (fun _ => .int _))))))))
    (ss_cons (s_set (ps_set (i := 3) sc_draw.nd rfl (Or.inl rfl) (pf_mod (tmp_ok (ty1 call_int1 prim_int rfl T.b_int (by decide +kernel) (tmp_ok (pf_pow (tmp_ok (pf_add (slot_ok (pv 3)) (tmp_ok (pf_mul (tmp_ok (c_ok pe_int (fun _ => .int _))) (tmp_ok (pf_ixS (hu1 hr) (pv 0) (c_ok pe_int (fun _ => .int _)))))))) (tmp_ok (c_ok pe_int (fun _ => .int _))))))) (tmp_ok (pf_add (tmp_ok (pf_pow (tmp_ok (c_ok pe_int (fun _ => .int _))) (tmp_ok (c_ok pe_int (fun _ => .int _))))) (tmp_ok (c_ok pe_int (fun _ => .int _))))))))
    (ss_one (s_ret (pf_mod (tmp_ok (ty1 call_int1 prim_int rfl T.b_int (by decide +kernel) (tmp_ok (pf_fdiv (slot_ok (pv 3)) (tmp_ok (pf_pow (tmp_ok (c_ok pe_int (fun _ => .int _))) (tmp_ok (c_ok pe_int (fun _ => .int _))))))))) (slot_ok (pv 1)))))))), defE (body := B_draw) rfl h (by decide)⟩)

theorem ok_lflat (T : Txt w K mg) : FnOk P w K mg base (L2.CX P w) 2 T.a_lflat T.d_lflat P_lflat (spF K (cl T) F_flat) :=
  T.F_lflat.okX sc_lflat (fun vs H Q E h => spF_len h) (fun cdv A outer s H vs Q E hr h => ⟨_, ss_cons (s_set (ps_set (i := 3) sc_lflat.nd rfl (Or.inl rfl) (pf_tup (pa_consF (c_ok pe_str (fun _ => .str _)) (pa_consF (pf_ixS (hu1 hr) (pv 1) (pf_callE (ok_draw T) (hr.mono (by first | decide | omega)) rfl T.m_draw T.F_draw.kp T.B_draw (takes_of rfl rfl rfl rfl) (pa_lendC (pv 0) (pa_consC (aD_ok (bi1 call_len prim_len rfl T.b_len PySem.boot_len (slot_ok (pv 1)))) (pa_nilC))))) (pa_nilF))))))
    (ss_cons (s_for (passes_of rfl) rfl (i_rng1 rfl T.b_range (slot_ok (pv 2))) (g_name (pg_name (i := 4) sc_lflat.nd rfl (Or.inl rfl)))
    (ss_cons (s_set (ps_set (i := 5) sc_lflat.nd rfl (Or.inl rfl) (pf_tup (pa_consF (c_ok pe_str (fun _ => .str _)) (pa_consF (pf_ixS (hu1 hr) (pv 1) (pf_callE (ok_draw T) (hr.mono (by first | decide | omega)) rfl T.m_draw T.F_draw.kp T.B_draw (takes_of rfl rfl rfl rfl) (pa_lendC (pv 0) (pa_consC (aD_ok (bi1 call_len prim_len rfl T.b_len PySem.boot_len (slot_ok (pv 1)))) (pa_nilC))))) (pa_nilF))))))
    (ss_one (s_set (ps_set (i := 3) sc_lflat.nd rfl (Or.inl rfl) (pf_if (tst_ok (pt_cmpR (op_eqP (hu64 hr)) (tmp_ok (pf_callE (ok_draw T) (hr.mono (by first | decide | omega)) rfl T.m_draw T.F_draw.kp T.B_draw (takes_of rfl rfl rfl rfl) (pa_lendC (pv 0) (pa_consC (aD_ok (c_ok pe_int (fun _ => .int _))) (pa_nilC))))) (tmp_ok (c_ok pe_int (fun _ => .int _))) (nomark _)) (op2_le prim_eq)) (pf_tup (pa_consF (c_ok pe_str (fun _ => .str _)) (pa_consF (var_ok (pv 3)) (pa_consF (var_ok (pv 5)) (pa_nilF))))) (pf_tup (pa_consF (c_ok pe_str (fun _ => .str _)) (pa_consF (var_ok (pv 5)) (pa_consF (var_ok (pv 3)) (pa_nilF)))))))))))
    (ss_one (s_ret (mov_ok (pv 3))))), defE (body := B_flat) rfl h (by decide)⟩)

theorem ok_kind (T : Txt w K mg) : ∀ n : Nat, FnOk P w K mg base (L2.CX P w) (n + 1) T.a_kind T.d_kind P_kind (spF K (cl T) (F_kind n))
  | 0 => fn_none fun vs H Q E h => spF_none h
  | n + 1 => by
    have IH := ok_kind T n
    exact T.F_kind.okX sc_kind (fun vs H Q E h => spF_len h) (fun cdv A outer s H vs Q E hr h => ⟨_, ss_cons (s_if (tst_ok (pt_cmpR (op_lt.or op_lt_str) (slot_ok (pv 1)) (tmp_ok (c_ok pe_int (fun _ => .int _))) (nomark _)) (op2_le prim_lt))
    (ss_one (s_ret (pf_tup (pa_consF (c_ok pe_str (fun _ => .str _)) (pa_consF (pf_ix (tmp_ok (pf_ixS (hu1 hr) (pv 0) (c_ok pe_int (fun _ => .int _)))) (tmp_ok (pf_callE (ok_draw T) (hr.mono (by first | decide | omega)) rfl T.m_draw T.F_draw.kp T.B_draw (takes_of rfl rfl rfl rfl) (pa_lendC (pv 0) (pa_consC (aD_ok (bi1 call_len prim_len rfl T.b_len PySem.boot_len (tmp_ok (pf_ixS (hu1 hr) (pv 0) (c_ok pe_int (fun _ => .int _)))))) (pa_nilC)))))) (pa_nilF))))))
    (ss_nil))
    (ss_cons (s_set (ps_set (i := 3) sc_kind.nd rfl (Or.inl rfl) (pf_add (tmp_ok (c_ok pe_int (fun _ => .int _))) (tmp_ok (pf_callE (ok_draw T) (hr.mono (by first | decide | omega)) rfl T.m_draw T.F_draw.kp T.B_draw (takes_of rfl rfl rfl rfl) (pa_lendC (pv 0) (pa_consC (aD_ok (pf_sub (slot_ok (pv 1)) (tmp_ok (c_ok pe_int (fun _ => .int _))))) (pa_nilC))))))))
    (ss_cons (s_par2 (ps_par (i := 4) (j := 5) rfl sc_kind.nd rfl rfl (by decide) rfl rfl (pa_consF (pf_callE IH (hr.mono (by first | decide | omega)) rfl T.m_kind T.F_kind.kp T.B_kind (takes_of rfl rfl rfl rfl) (pa_lendC (pv 0) (pa_consC (aD_ok (var_ok (pv 3))) (pa_consC (aD_ok (var_ok (pv 2))) (pa_nilC))))) (pa_consF (pf_callE IH (hr.mono (by first | decide | omega)) rfl T.m_kind T.F_kind.kp T.B_kind (takes_of rfl rfl rfl rfl) (pa_lendC (pv 0) (pa_consC (aD_ok (pf_sub (slot_ok (pv 1)) (slot_ok (pv 3)))) (pa_consC (aD_ok (var_ok (pv 2))) (pa_nilC))))) (pa_nilF))) rfl))
    (ss_one (s_ret (pf_tup (pa_consF (pf_ix (tmp_ok (pf_lst (pa_consF (c_ok pe_str (fun _ => .str _)) (pa_consF (c_ok pe_str (fun _ => .str _)) (pa_consF (c_ok pe_str (fun _ => .str _)) (pa_nilF)))))) (tmp_ok (pf_callE (ok_draw T) (hr.mono (by first | decide | omega)) rfl T.m_draw T.F_draw.kp T.B_draw (takes_of rfl rfl rfl rfl) (pa_lendC (pv 0) (pa_consC (aD_ok (pf_if (tru_ok' (slot_ok (pv 2))) (c_ok pe_int (fun _ => .int _)) (c_ok pe_int (fun _ => .int _)))) (pa_nilC)))))) (pa_consF (var_ok (pv 4)) (pa_consF (var_ok (pv 5)) (pa_nilF))))))))), defE (body := (B_kind (F_kind n))) rfl h (by decide)⟩)

theorem ok_lis_flat (T : Txt w K mg) : ∀ n : Nat, FnOk P w K mg base (L2.CX P w) (n + 0) T.a_lis_flat T.d_lis_flat P_lis_flat (spF K (cl T) (F_is_flat n))
  | 0 => fn_none fun vs H Q E h => spF_none h
  | n + 1 => by
    have IH := ok_lis_flat T n
    exact T.F_lis_flat.okX sc_lis_flat (fun vs H Q E h => spF_len h) (fun cdv A outer s H vs Q E hr h => ⟨_, ss_cons (s_if (tst_ok (pt_cmpR (op_eqP (hu64 hr)) (tmp_ok (pf_ixS (hu1 hr) (pv 0) (c_ok pe_int (fun _ => .int _)))) (tmp_ok (c_ok pe_str (fun _ => .str _))) (nomark _)) (op2_le prim_eq))
    (ss_one (s_ret (pf_and (pf_eq (hu64 hr) (tmp_ok (pf_ix (tmp_ok (pf_ixS (hu1 hr) (pv 0) (c_ok pe_int (fun _ => .int _)))) (tmp_ok (c_ok pe_int (fun _ => .int _))))) (tmp_ok (c_ok pe_str (fun _ => .str _)))) (pf_one (pf_callE IH (hr.mono (by first | decide | omega)) rfl T.m_lis_flat T.F_lis_flat.kp T.B_lis_flat (takes_of rfl rfl rfl rfl) (pa_consC (aD_ok (pf_ixS (hu1 hr) (pv 0) (c_ok pe_int (fun _ => .int _)))) (pa_nilC)))))))
    (ss_nil))
    (ss_cons (s_if (tst_ok (pt_cmpR (op_eqP (hu64 hr)) (tmp_ok (pf_ixS (hu1 hr) (pv 0) (c_ok pe_int (fun _ => .int _)))) (tmp_ok (c_ok pe_str (fun _ => .str _))) (nomark _)) (op2_le prim_eq))
    (ss_one (s_ret (pf_and (pf_eq (hu64 hr) (tmp_ok (pf_ix (tmp_ok (pf_ixS (hu1 hr) (pv 0) (c_ok pe_int (fun _ => .int _)))) (tmp_ok (c_ok pe_int (fun _ => .int _))))) (tmp_ok (c_ok pe_str (fun _ => .str _)))) (pf_one (pf_callE IH (hr.mono (by first | decide | omega)) rfl T.m_lis_flat T.F_lis_flat.kp T.B_lis_flat (takes_of rfl rfl rfl rfl) (pa_consC (aD_ok (pf_ixS (hu1 hr) (pv 0) (c_ok pe_int (fun _ => .int _)))) (pa_nilC)))))))
    (ss_nil))
    (ss_one (s_ret (pf_eq (hu64 hr) (tmp_ok (pf_ixS (hu1 hr) (pv 0) (c_ok pe_int (fun _ => .int _)))) (tmp_ok (c_ok pe_str (fun _ => .str _))))))), defE (body := (B_is_flat (F_is_flat n))) rfl h (by decide)⟩)

theorem ok_flat (T : Txt w K mg) : FnOk P w K mg base (L2.CX P w) 1 T.a_flat T.d_flat P_flat (spF K (cl T) F_flat_k26) :=
  T.F_flat.okX sc_flat (fun vs H Q E h => spF_len h) (fun cdv A outer s H vs Q E hr h => ⟨_, ss_cons (s_while (passes_of rfl) (tst_ok (pt_cmpR (op_neP (hu64 hr)) (tmp_ok (pf_ixS (hu1 hr) (pv 0) (c_ok pe_int (fun _ => .int _)))) (tmp_ok (c_ok pe_str (fun _ => .str _))) (nomark _)) (op2_le prim_ne))
    (ss_cons (s_if (tst_ok (pt_cmpR (op_eqP (hu64 hr)) (tmp_ok (pf_ixS (hu1 hr) (pv 0) (c_ok pe_int (fun _ => .int _)))) (tmp_ok (c_ok pe_str (fun _ => .str _))) (nomark _)) (op2_le prim_eq))
    (ss_one (s_ret (c_ok pe_bl (fun _ => .bl _))))
    (ss_nil))
    (ss_cons (s_asg (ps_asg (pf_if (tst_ok (pt_cmpR (op_eqP (hu64 hr)) (tmp_ok (pf_ixS (hu1 hr) (pv 0) (c_ok pe_int (fun _ => .int _)))) (tmp_ok (c_ok pe_str (fun _ => .str _))) (nomark _)) (op2_le prim_eq)) (pf_tup (pa_consF (pf_ixS (hu1 hr) (pv 0) (c_ok pe_int (fun _ => .int _))) (pa_consF (pf_ixS (hu1 hr) (pv 0) (c_ok pe_int (fun _ => .int _))) (pa_nilF)))) (pf_tup (pa_consF (pf_ixS (hu1 hr) (pv 0) (c_ok pe_int (fun _ => .int _))) (pa_consF (pf_ixS (hu1 hr) (pv 0) (c_ok pe_int (fun _ => .int _))) (pa_nilF))))) (g_tup rfl (gs_cons (g_name (pg_name (i := 1) sc_flat.nd rfl (Or.inl rfl))) (gs_cons (g_name (pg_name (i := 2) sc_flat.nd rfl (Or.inl rfl))) (gs_nil))))))
    (ss_cons (s_if (tst_ok (pt_cmpR (op_neP (hu64 hr)) (tmp_ok (pf_ixS (hu1 hr) (pv 2) (c_ok pe_int (fun _ => .int _)))) (tmp_ok (c_ok pe_str (fun _ => .str _))) (nomark _)) (op2_le prim_ne))
    (ss_one (s_ret (c_ok pe_bl (fun _ => .bl _))))
    (ss_nil))
    (ss_one (s_set (ps_set (i := 0) sc_flat.nd rfl (Or.inl rfl) (var_ok (pv 1)))))))))
    (ss_one (s_ret (c_ok pe_bl (fun _ => .bl _)))), defE (body := B_flat_k26) rfl h (by decide)⟩)

theorem ok_check_flat (T : Txt w K mg) : FnOk P w K mg base (L2.CX P w) 3 T.a_check_flat T.d_check_flat P_check_flat (spF K (cl T) F_check_flat) :=
  T.F_check_flat.okX sc_check_flat (fun vs H Q E h => spF_len h) (fun cdv A outer s H vs Q E hr h => ⟨_, ss_one (s_if (pt_notF (tru_ok' (tmp_ok (pf_callE (ok_flat T) (hr.mono (by first | decide | omega)) rfl T.m_flat T.F_flat.kp T.B_flat (takes_of rfl rfl rfl rfl) (pa_consC (aD_ok (var_ok (pv 0))) (pa_nilC))))))
    (ss_one (s_raise T.E_NotFlat (ok_init T) (hr.mono (by first | decide | omega)) T.B_init rfl (cl_NotFlat T) rfl (takes_of rfl rfl rfl rfl) (var_ok (pv 0))))
    (ss_nil)), defE (body := B_check_flat) rfl h (by decide)⟩)

theorem ok_fresh (T : Txt w K mg) : ∀ n : Nat, FnOk P w K mg base (L2.CX P w) (n + 0) T.a_fresh T.d_fresh P_fresh (spF K (cl T) (F_fresh n))
  | 0 => fn_none fun vs H Q E h => spF_none h
  | n + 1 => by
    have IH := ok_fresh T n
    exact T.F_fresh.okX sc_fresh (fun vs H Q E h => spF_len h) (fun cdv A outer s H vs Q E hr h => ⟨_, ss_cons (s_if (tru_ok' (tmp_ok (b_isa rfl T.b_isinstance (slot_ok (pv 0)) (pe_bltn (v := .ty "list") rfl T.b_list (by decide +kernel) rfl))))
    (ss_one (s_ret (pf_lc (itS (varF 0)) (nmT 1) (yesT) (callF (F_fresh n) (consC (aD (varF 1)) (nilC))) rfl sc_fresh.nd (i_seq (var_ok (pv 0))) (blkOk_by (N := N_fresh) (own := [("part", 1)]) (sc := defScope s_fresh) (by decide +kernel)) (fun _ _ _ _ _ => g_name (pg_name (i := 1) sc_fresh.nd rfl (Or.inl rfl))) (fun _ _ _ _ _ => ts_yes) (fun _ _ _ _ _ => pf_call IH (hr.mono (by first | decide | omega)) rfl T.m_fresh T.F_fresh.kp T.B_fresh passL (pa_consC (aD_ok (var_ok (pv 1))) (pa_nilC))) (by decide))))
    (ss_nil))
    (ss_cons (s_if (tru_ok' (tmp_ok (b_isa rfl T.b_isinstance (slot_ok (pv 0)) (pe_bltn (v := .ty "tuple") rfl T.b_tuple (by decide +kernel) rfl))))
    (ss_one (s_ret (ty1 call_tuple_of prim_tuple rfl T.b_tuple (by decide +kernel) (tmp_ok (pf_lc (itS (varF 0)) (nmT 1) (yesT) (callF (F_fresh n) (consC (aD (varF 1)) (nilC))) rfl sc_fresh.nd (i_seq (var_ok (pv 0))) (blkOk_by (N := N_fresh) (own := [("part", 1)]) (sc := defScope s_fresh) (by decide +kernel)) (fun _ _ _ _ _ => g_name (pg_name (i := 1) sc_fresh.nd rfl (Or.inl rfl))) (fun _ _ _ _ _ => ts_yes) (fun _ _ _ _ _ => pf_call IH (hr.mono (by first | decide | omega)) rfl T.m_fresh T.F_fresh.kp T.B_fresh passL (pa_consC (aD_ok (var_ok (pv 1))) (pa_nilC))) (by decide))))))
    (ss_nil))
    (ss_one (s_ret (var_ok (pv 0))))), defE (body := (B_fresh (F_fresh n))) rfl h (by decide)⟩)

theorem ok_is_letter (T : Txt w K mg) : FnOk P w K mg base (L2.CX P w) 1 T.a_is_letter T.d_is_letter P_is_letter (spF K (cl T) F_is_letter) :=
  T.F_is_letter.okX sc_is_letter (fun vs H Q E h => spF_len h) (fun cdv A outer s H vs Q E hr h => ⟨_, ss_one (s_ret (pf_and (pf_eq (hu64 hr) (tmp_ok (bi1 call_len prim_len rfl T.b_len PySem.boot_len (slot_ok (pv 0)))) (tmp_ok (c_ok pe_int (fun _ => .int _)))) (pf_one (pf_in (hu64 hr) (slot_ok (pv 0)) (tmp_ok (c_ok (pe_glob (v := .str _) rfl T.g_LETTERS_kinds ⟨_, rfl⟩) (fun _ => .str _))))))), defE (body := B_is_letter) rfl h (by decide)⟩)

theorem ok_wrong_part (T : Txt w K mg) : ∀ n : Nat, FnOk P w K mg base (L2.CX P w) (n + 1) T.a_wrong_part T.d_wrong_part P_wrong_part (spF K (cl T) (F_wrong_part n))
  | 0 => fn_none fun vs H Q E h => spF_none h
  | n + 1 => by
    have IH := ok_wrong_part T n
    exact T.F_wrong_part.okX sc_wrong_part (fun vs H Q E h => spF_len h) (fun cdv A outer s H vs Q E hr h => ⟨_, ss_cons (s_if (tst_ok (pt_cmpR (op_eqP (hu64 hr)) (tmp_ok (pf_ixS (hu1 hr) (pv 0) (c_ok pe_int (fun _ => .int _)))) (tmp_ok (c_ok pe_str (fun _ => .str _))) (nomark _)) (op2_le prim_eq))
    (ss_one (s_ret (pf_if (tru_ok' (tmp_ok (pf_callE (ok_is_letter T) (hr.mono (by first | decide | omega)) rfl T.m_is_letter T.F_is_letter.kp T.B_is_letter (takes_of rfl rfl rfl rfl) (pa_consC (aD_ok (pf_ixS (hu1 hr) (pv 0) (c_ok pe_int (fun _ => .int _)))) (pa_nilC))))) (c_ok pe_non (fun _ => .non)) (var_ok (pv 0)))))
    (ss_nil))
    (ss_cons (s_if (pt_kdNin T.k_TURNS (tmp_ok (pf_ixS (hu1 hr) (pv 0) (c_ok pe_int (fun _ => .int _)))) (pe_glob (v := .ref _) rfl T.g_TURNS rfl))
    (ss_one (s_ret (var_ok (pv 0))))
    (ss_nil))
    (ss_cons (s_set (ps_set (i := 1) sc_wrong_part.nd rfl (Or.inl rfl) (pf_callE IH (hr.mono (by first | decide | omega)) rfl T.m_wrong_part T.F_wrong_part.kp T.B_wrong_part (takes_of rfl rfl rfl rfl) (pa_consC (aD_ok (pf_ixS (hu1 hr) (pv 0) (c_ok pe_int (fun _ => .int _)))) (pa_nilC)))))
    (ss_one (s_ret (pf_if (tst_ok (pt_cmp (pc_isN (slot_ok (pv 1)))) (op1_le prim_isN)) (pf_callE IH (hr.mono (by first | decide | omega)) rfl T.m_wrong_part T.F_wrong_part.kp T.B_wrong_part (takes_of rfl rfl rfl rfl) (pa_consC (aD_ok (pf_ixS (hu1 hr) (pv 0) (c_ok pe_int (fun _ => .int _)))) (pa_nilC))) (var_ok (pv 1))))))), defE (body := (B_wrong_part (F_wrong_part n))) rfl h (by decide)⟩)

theorem ok_checked_kind (T : Txt w K mg) : FnOk P w K mg base (L2.CX P w) 32 T.a_checked_kind T.d_checked_kind P_checked_kind (spF K (cl T) F_checked_kind_k26) :=
  T.F_checked_kind.okX sc_checked_kind (fun vs H Q E h => spF_len h) (fun cdv A outer s H vs Q E hr h => ⟨_, ss_cons (s_set (ps_set (i := 1) sc_checked_kind.nd rfl (Or.inl rfl) (pf_callE (ok_wrong_part T 30) (hr.mono (by first | decide | omega)) rfl T.m_wrong_part T.F_wrong_part.kp T.B_wrong_part (takes_of rfl rfl rfl rfl) (pa_consC (aD_ok (var_ok (pv 0))) (pa_nilC)))))
    (ss_cons (s_if (tst_ok (pt_cmp (pc_notN (slot_ok (pv 1)))) (op1_le prim_notN))
    (ss_one (s_raise T.E_InvalidKind (ok_init T) (hr.mono (by first | decide | omega)) T.B_init rfl (cl_InvalidKind T) rfl (takes_of rfl rfl rfl rfl) (pf_callE (ok_fresh T 30) (hr.mono (by first | decide | omega)) rfl T.m_fresh T.F_fresh.kp T.B_fresh (takes_of rfl rfl rfl rfl) (pa_consC (aD_ok (var_ok (pv 1))) (pa_nilC)))))
    (ss_nil))
    (ss_one (s_ret (var_ok (pv 0))))), defE (body := B_checked_kind_k26) rfl h (by decide)⟩)

theorem ok_checked_word (T : Txt w K mg) : FnOk P w K mg base (L2.CX P w) 3 T.a_checked_word T.d_checked_word P_checked_word (spF K (cl T) F_checked_word) :=
  T.F_checked_word.okX sc_checked_word (fun vs H Q E h => spF_len h) (fun cdv A outer s H vs Q E hr h => ⟨_, ss_cons (s_if (PW.pt (pw_orF (pt_notF (ch_ok op_le op_le (c_ok pe_int (fun _ => .int _)) (bi1 call_len prim_len rfl T.b_len PySem.boot_len (slot_ok (pv 0))) (c_ok (pe_glob (v := .int _) rfl T.g_MOST_LETTERS ⟨_, rfl⟩) (fun _ => .int _)))) (pw_orF1 (pt_notF (tru_ok' (tmp_ok (bi1 (cr_all rfl) prim_all rfl T.b_all (by decide +kernel) (tmp_ok (pf_lc (strI (varF 0)) (nmT 1) (yesT) (op2 inO (slotF 1) (tmpF (cF (.str "abcdefghijklmnopqrstuvwxyz")))) rfl sc_checked_word.nd (i_str (var_ok (pv 0))) (blkOk_by (N := N_checked_word) (own := [("sign", 1)]) (sc := defScope s_checked_word) (by decide +kernel)) (fun _ _ _ _ _ => g_name (pg_name (i := 1) sc_checked_word.nd rfl (Or.inl rfl))) (fun _ _ _ _ _ => ts_yes) (fun _ _ _ _ _ => pf_in (hu64 hr) (slot_ok (pv 1)) (tmp_ok (c_ok (pe_glob (v := .str _) rfl T.g_LETTERS_books ⟨_, rfl⟩) (fun _ => .str _)))) (by decide))))))))))
    (ss_one (s_raise T.E_InvalidWord (ok_init T) (hr.mono (by first | decide | omega)) T.B_init rfl (cl_InvalidWord T) rfl (takes_of rfl rfl rfl rfl) (var_ok (pv 0))))
    (ss_nil))
    (ss_one (s_ret (var_ok (pv 0)))), defE (body := B_checked_word) rfl h (by decide)⟩)

theorem ok_made_rule (T : Txt w K mg) : FnOk P w K mg base (L2.CX P w) 1 T.a_made_rule T.d_made_rule P_made_rule (spF K (cl T) F_made_rule) :=
  T.F_made_rule.okX sc_made_rule (fun vs H Q E h => spF_len h) (fun cdv A outer s H vs Q E hr h => ⟨_, ss_cons (s_par2 (ps_par (i := 2) (j := 3) rfl sc_made_rule.nd rfl rfl (by decide) rfl rfl (pa_consF (pf_lst (pa_nilF)) (pa_consF (pf_lst (pa_nilF)) (pa_nilF))) rfl))
    (ss_cons (s_while (passes_of rfl) (tst_ok (pt_cmpR (op_neP (hu64 hr)) (tmp_ok (pf_ixS (hu1 hr) (pv 1) (c_ok pe_int (fun _ => .int _)))) (tmp_ok (c_ok pe_str (fun _ => .str _))) (nomark _)) (op2_le prim_ne))
    (ss_one (s_if (tst_ok (pt_cmpR (op_eqP (hu64 hr)) (tmp_ok (pf_ixS (hu1 hr) (pv 1) (c_ok pe_int (fun _ => .int _)))) (tmp_ok (c_ok pe_str (fun _ => .str _))) (nomark _)) (op2_le prim_eq))
    (ss_cons (s_expr (m_append (pe_bm PySem.F.plainAttrs_list PySem.F.slot_list_append PySem.F.type_list_append mt_append (pv 3) (pa_one (pf_ix (tmp_ok (pf_ixS (hu1 hr) (pv 1) (c_ok pe_int (fun _ => .int _)))) (tmp_ok (c_ok pe_int (fun _ => .int _))))))))
    (ss_one (s_set (ps_set (i := 1) sc_made_rule.nd rfl (Or.inl rfl) (pf_ixS (hu1 hr) (pv 1) (c_ok pe_int (fun _ => .int _)))))))
    (ss_cons (s_set (ps_set (i := 2) sc_made_rule.nd rfl (Or.inl rfl) (pf_lst (pa_consF (pf_ix (tmp_ok (pf_ixS (hu1 hr) (pv 1) (c_ok pe_int (fun _ => .int _)))) (tmp_ok (c_ok pe_int (fun _ => .int _)))) (pa_starF (slot_ok (pv 2)) (pa_nilF))))))
    (ss_one (s_set (ps_set (i := 1) sc_made_rule.nd rfl (Or.inl rfl) (pf_ixS (hu1 hr) (pv 1) (c_ok pe_int (fun _ => .int _))))))))))
    (ss_one (s_ret (pf_tupO (pa_consF (pf_ixS (hu1 hr) (pv 1) (c_ok pe_int (fun _ => .int _))) (pa_consF (mov_ok (pv 2)) (pa_consF (var_ok (pv 0)) (pa_consF (mov_ok (pv 3)) (pa_nilF))))))))), defE (body := B_made_rule) rfl h (by decide)⟩)

theorem ok_rule_of (T : Txt w K mg) : FnOk P w K mg base (L2.CX P w) 33 T.a_rule_of T.d_rule_of P_rule_of (spF K (cl T) F_rule_of) :=
  T.F_rule_of.okX sc_rule_of (fun vs H Q E h => spF_len h) (fun cdv A outer s H vs Q E hr h => ⟨_, ss_cons (s_expr (pf_callE (ok_checked_word T) (hr.mono (by first | decide | omega)) rfl T.m_checked_word T.F_checked_word.kp T.B_checked_word (takes_of rfl rfl rfl rfl) (pa_consC (aD_ok (var_ok (pv 0))) (pa_nilC))))
    (ss_cons (s_expr (pf_callE (ok_checked_kind T) (hr.mono (by first | decide | omega)) rfl T.m_checked_kind T.F_checked_kind.kp T.B_checked_kind (takes_of rfl rfl rfl rfl) (pa_consC (aD_ok (var_ok (pv 1))) (pa_nilC))))
    (ss_cons (s_expr (pf_callE (ok_check_flat T) (hr.mono (by first | decide | omega)) rfl T.m_check_flat T.F_check_flat.kp T.B_check_flat (takes_of rfl rfl rfl rfl) (pa_consC (aD_ok (var_ok (pv 1))) (pa_nilC))))
    (ss_one (s_ret (pf_callE (ok_made_rule T) (hr.mono (by first | decide | omega)) rfl T.m_made_rule T.F_made_rule.kp T.B_made_rule (takes_of rfl rfl rfl rfl) (pa_consC (aD_ok (var_ok (pv 0))) (pa_consC (aD_ok (var_ok (pv 1))) (pa_nilC)))))))), defE (body := B_rule_of) rfl h (by decide)⟩)

theorem ok_refused (T : Txt w K mg) : FnOk P w K mg base (L2.CX P w) 34 T.a_refused T.d_refused P_refused (spF K (cl T) F_refused) :=
  T.F_refused.okX sc_refused (fun vs H Q E h => spF_len h) (fun cdv A outer s H vs Q E hr h => ⟨_, ss_cons (s_set (ps_set (i := 2) sc_refused.nd rfl (Or.inl rfl) (c_ok pe_non (fun _ => .non))))
    (ss_cons (s_tryAs (mt := mtT [("InvalidKind", false), ("InvalidWord", false), ("NotFlat", true)]) (i := 3) rfl rfl sc_refused.nd rfl rfl ⟨rfl, by decide, Or.inl T.E_NotFlat.g⟩ (mt_NotFlat T) (takes_of rfl rfl rfl rfl) (fun W1 pn1 xe1 tk1 hp1 => ss_one (s_expr (pf_callE (ok_rule_of T) (hr.mono (by first | decide | omega)) rfl T.m_rule_of T.F_rule_of.kp T.B_rule_of tk1 (pa_consC (aD_ok (var_ok (pv 0))) (pa_consC (aD_ok (var_ok (pv 1))) (pa_nilC))))))
    (fun a1 oe1 cls1 d1 pn1 hz1 hf1 => s_hval (j := 2) (hall T) hz1 hf1 (pv 3) sc_refused.nd rfl (Or.inl rfl) (ss_nil)))
    (ss_one (s_ret (pf_eq (hu64 hr) (slot_ok (pv 2)) (slot_ok (pv 1)))))), defE (body := B_refused) rfl h (by decide)⟩)

theorem ok_rule (T : Txt w K mg) : FnOk P w K mg base (L2.CX P w) 1 T.a_rule T.d_rule P_rule (spF K (cl T) F_rule) :=
  T.F_rule.okX sc_rule (fun vs H Q E h => spF_len h) (fun cdv A outer s H vs Q E hr h => ⟨_, ss_cons (s_par2 (ps_par (i := 2) (j := 3) rfl sc_rule.nd rfl rfl (by decide) rfl rfl (pa_consF (pf_lst (pa_nilF)) (pa_consF (pf_lst (pa_nilF)) (pa_nilF))) rfl))
    (ss_cons (s_for (passes_of rfl) rfl (i_rng1 rfl T.b_range (tmp_ok (c_ok pe_int (fun _ => .int _)))) (g_name (pg_name (i := 4) sc_rule.nd rfl (Or.inl rfl)))
    (ss_cons (s_if (tst_ok (pt_cmpR (op_eqP (hu64 hr)) (tmp_ok (pf_ixS (hu1 hr) (pv 1) (c_ok pe_int (fun _ => .int _)))) (tmp_ok (c_ok pe_str (fun _ => .str _))) (nomark _)) (op2_le prim_eq))
    (ss_one (s_break))
    (ss_nil))
    (ss_one (s_if (tst_ok (pt_cmpR (op_eqP (hu64 hr)) (tmp_ok (pf_ixS (hu1 hr) (pv 1) (c_ok pe_int (fun _ => .int _)))) (tmp_ok (c_ok pe_str (fun _ => .str _))) (nomark _)) (op2_le prim_eq))
    (ss_cons (s_expr (m_append (pe_bm PySem.F.plainAttrs_list PySem.F.slot_list_append PySem.F.type_list_append mt_append (pv 3) (pa_one (pf_ix (tmp_ok (pf_ixS (hu1 hr) (pv 1) (c_ok pe_int (fun _ => .int _)))) (tmp_ok (c_ok pe_int (fun _ => .int _))))))))
    (ss_one (s_set (ps_set (i := 1) sc_rule.nd rfl (Or.inl rfl) (pf_ixS (hu1 hr) (pv 1) (c_ok pe_int (fun _ => .int _)))))))
    (ss_cons (s_expr (m_insert (pe_bm PySem.F.plainAttrs_list PySem.F.slot_list_insert PySem.F.type_list_insert mt_insert (pv 2) (pa_two (c_ok pe_int (fun _ => .int _)) (pf_ix (tmp_ok (pf_ixS (hu1 hr) (pv 1) (c_ok pe_int (fun _ => .int _)))) (tmp_ok (c_ok pe_int (fun _ => .int _))))))))
    (ss_one (s_set (ps_set (i := 1) sc_rule.nd rfl (Or.inl rfl) (pf_ixS (hu1 hr) (pv 1) (c_ok pe_int (fun _ => .int _)))))))))))
    (ss_one (s_ret (pf_tup (pa_consF (pf_ixS (hu1 hr) (pv 1) (c_ok pe_int (fun _ => .int _))) (pa_consF (var_ok (pv 2)) (pa_consF (var_ok (pv 0)) (pa_consF (var_ok (pv 3)) (pa_nilF))))))))), defE (body := B_rule) rfl h (by decide)⟩)

theorem ok_waits (T : Txt w K mg) : ∀ n : Nat, FnOk P w K mg base (L2.CX P w) (n + 0) T.a_waits T.d_waits P_waits (spF K (cl T) (F_waits n))
  | 0 => fn_none fun vs H Q E h => spF_none h
  | n + 1 => by
    have IH := ok_waits T n
    exact T.F_waits.okX sc_waits (fun vs H Q E h => spF_len h) (fun cdv A outer s H vs Q E hr h => ⟨_, ss_cons (s_if (tst_ok (pt_cmpR (op_neP (hu64 hr)) (slot_ok (pv 2)) (tmp_ok (pf_lst (pa_nilF))) (nomark _)) (op2_le prim_ne))
    (ss_one (s_ret (pf_tup (pa_consF (c_ok pe_str (fun _ => .str _)) (pa_consF (pf_callE IH (hr.mono (by first | decide | omega)) rfl T.m_waits T.F_waits.kp T.B_waits (takes_of rfl rfl rfl rfl) (pa_consC (aD_ok (var_ok (pv 0))) (pa_consC (aD_ok (var_ok (pv 1))) (pa_consC (aD_ok (pf_slLo (slot_ok (pv 2)) (tmp_ok (c_ok pe_int (fun _ => .int _))))) (pa_nilC))))) (pa_consF (pf_tup (pa_consF (c_ok pe_str (fun _ => .str _)) (pa_consF (pf_ixS (hu1 hr) (pv 2) (c_ok pe_int (fun _ => .int _))) (pa_nilF)))) (pa_nilF)))))))
    (ss_nil))
    (ss_cons (s_if (tst_ok (pt_cmpR (op_neP (hu64 hr)) (slot_ok (pv 1)) (tmp_ok (pf_lst (pa_nilF))) (nomark _)) (op2_le prim_ne))
    (ss_one (s_ret (pf_tup (pa_consF (c_ok pe_str (fun _ => .str _)) (pa_consF (pf_tup (pa_consF (c_ok pe_str (fun _ => .str _)) (pa_consF (pf_ixS (hu1 hr) (pv 1) (pf_neg (tmp_ok (c_ok pe_int (fun _ => .int _))))) (pa_nilF)))) (pa_consF (pf_callE IH (hr.mono (by first | decide | omega)) rfl T.m_waits T.F_waits.kp T.B_waits (takes_of rfl rfl rfl rfl) (pa_consC (aD_ok (var_ok (pv 0))) (pa_consC (aD_ok (pf_slHi (slot_ok (pv 1)) (tmp_ok (pf_neg (tmp_ok (c_ok pe_int (fun _ => .int _))))))) (pa_consC (aD_ok (var_ok (pv 2))) (pa_nilC))))) (pa_nilF)))))))
    (ss_nil))
    (ss_one (s_ret (pf_tup (pa_consF (c_ok pe_str (fun _ => .str _)) (pa_consF (var_ok (pv 0)) (pa_nilF))))))), defE (body := (B_waits (F_waits n))) rfl h (by decide)⟩)

theorem ok_is_flat (T : Txt w K mg) : FnOk P w K mg base (L2.CX P w) 33 T.a_is_flat T.d_is_flat P_is_flat (spF K (cl T) F_is_flat_k26) :=
  T.F_is_flat.okX sc_is_flat (fun vs H Q E h => spF_len h) (fun cdv A outer s H vs Q E hr h => ⟨_, ss_cons (s_expr (pf_callE (ok_checked_kind T) (hr.mono (by first | decide | omega)) rfl T.m_checked_kind T.F_checked_kind.kp T.B_checked_kind (takes_of rfl rfl rfl rfl) (pa_consC (aD_ok (var_ok (pv 0))) (pa_nilC))))
    (ss_one (s_ret (pf_callE (ok_flat T) (hr.mono (by first | decide | omega)) rfl T.m_flat T.F_flat.kp T.B_flat (takes_of rfl rfl rfl rfl) (pa_consC (aD_ok (var_ok (pv 0))) (pa_nilC))))), defE (body := B_is_flat_k26) rfl h (by decide)⟩)

theorem ok_kind_of_rule (T : Txt w K mg) : FnOk P w K mg base (L2.CX P w) 1 T.a_kind_of_rule T.d_kind_of_rule P_kind_of_rule (spF K (cl T) F_kind_of_rule) :=
  T.F_kind_of_rule.okX sc_kind_of_rule (fun vs H Q E h => spF_len h) (fun cdv A outer s H vs Q E hr h => ⟨_, ss_cons (s_asg (ps_asg (var_ok (pv 0)) (g_tup rfl (gs_cons (g_name (pg_name (i := 1) sc_kind_of_rule.nd rfl (Or.inl rfl))) (gs_cons (g_name (pg_name (i := 2) sc_kind_of_rule.nd rfl (Or.inl rfl))) (gs_cons (g_name (pg_name (i := 3) sc_kind_of_rule.nd rfl (Or.inl rfl))) (gs_cons (g_name (pg_name (i := 4) sc_kind_of_rule.nd rfl (Or.inl rfl))) (gs_nil))))))))
    (ss_cons (s_set (ps_set (i := 5) sc_kind_of_rule.nd rfl (Or.inl rfl) (pf_tup (pa_consF (c_ok pe_str (fun _ => .str _)) (pa_consF (var_ok (pv 1)) (pa_nilF))))))
    (ss_cons (s_for (passes_of rfl) rfl (i_seq (var_ok (pv 2))) (g_name (pg_name (i := 6) sc_kind_of_rule.nd rfl (Or.inl rfl)))
    (ss_one (s_set (ps_set (i := 5) sc_kind_of_rule.nd rfl (Or.inl rfl) (pf_tup (pa_consF (c_ok pe_str (fun _ => .str _)) (pa_consF (pf_tup (pa_consF (c_ok pe_str (fun _ => .str _)) (pa_consF (var_ok (pv 6)) (pa_nilF)))) (pa_consF (var_ok (pv 5)) (pa_nilF)))))))))
    (ss_cons (s_for (passes_of rfl) rfl (i_seq (pf_revL (slot_ok (pv 4)))) (g_name (pg_name (i := 6) sc_kind_of_rule.nd rfl (Or.inl rfl)))
    (ss_one (s_set (ps_set (i := 5) sc_kind_of_rule.nd rfl (Or.inl rfl) (pf_tup (pa_consF (c_ok pe_str (fun _ => .str _)) (pa_consF (var_ok (pv 5)) (pa_consF (pf_tup (pa_consF (c_ok pe_str (fun _ => .str _)) (pa_consF (var_ok (pv 6)) (pa_nilF)))) (pa_nilF)))))))))
    (ss_one (s_ret (mov_ok (pv 5))))))), defE (body := B_kind_of_rule) rfl h (by decide)⟩)

theorem ok_kind_right (T : Txt w K mg) : FnOk P w K mg base (L2.CX P w) 35 T.a_kind_right T.d_kind_right P_kind_right (spF K (cl T) F_kind_right) :=
  T.F_kind_right.okX sc_kind_right (fun vs H Q E h => spF_len h) (fun cdv A outer s H vs Q E hr h => ⟨_, ss_cons (s_set (ps_set (i := 2) sc_kind_right.nd rfl (Or.inl rfl) (pf_callE (ok_lis_flat T 30) (hr.mono (by first | decide | omega)) rfl T.m_lis_flat T.F_lis_flat.kp T.B_lis_flat (takes_of rfl rfl rfl rfl) (pa_consC (aD_ok (var_ok (pv 1))) (pa_nilC)))))
    (ss_cons (s_set (ps_set (i := 3) sc_kind_right.nd rfl (Or.inl rfl) (pf_callE (ok_is_flat T) (hr.mono (by first | decide | omega)) rfl T.m_is_flat T.F_is_flat.kp T.B_is_flat (takes_of rfl rfl rfl rfl) (pa_consC (aD_ok (var_ok (pv 1))) (pa_nilC)))))
    (ss_cons (s_if (PW.pt (pw_orF (pt_notF (tru_ok' (tmp_ok (b_isa rfl T.b_isinstance (slot_ok (pv 3)) (pe_bltn (v := .ty "bool") rfl T.b_bool (by decide +kernel) rfl))))) (pw_orF (tst_ok (pt_cmpR (op_neP (hu64 hr)) (slot_ok (pv 3)) (slot_ok (pv 2)) (nomark _)) (op2_le prim_ne)) (pw_orF1 (tst_ok (pt_cmpR (op_neP (hu64 hr)) (tmp_ok (pf_callKE (ok_is_flat T) (hr.mono (by first | decide | omega)) rfl T.m_is_flat T.F_is_flat.kp T.K_is_flat (takes_of rfl rfl rfl rfl) (pk_consC (aD_ok (var_ok (pv 1))) (pk_nilC)) defF_wants)) (slot_ok (pv 2)) (nomark _)) (op2_le prim_ne))))))
    (ss_one (s_ret (c_ok pe_bl (fun _ => .bl _))))
    (ss_nil))
    (ss_cons (s_if (pt_notF (tru_ok' (slot_ok (pv 2))))
    (ss_one (s_ret (pf_callE (ok_refused T) (hr.mono (by first | decide | omega)) rfl T.m_refused T.F_refused.kp T.B_refused (takes_of rfl rfl rfl rfl) (pa_consC (aD_ok (var_ok (pv 0))) (pa_consC (aD_ok (var_ok (pv 1))) (pa_nilC))))))
    (ss_nil))
    (ss_cons (s_set (ps_set (i := 4) sc_kind_right.nd rfl (Or.inl rfl) (pf_callE (ok_rule T) (hr.mono (by first | decide | omega)) rfl T.m_rule T.F_rule.kp T.B_rule (takes_of rfl rfl rfl rfl) (pa_consC (aD_ok (var_ok (pv 0))) (pa_consC (aD_ok (var_ok (pv 1))) (pa_nilC))))))
    (ss_cons (s_set (ps_set (i := 3) sc_kind_right.nd rfl (Or.inl rfl) (pf_callE (ok_rule_of T) (hr.mono (by first | decide | omega)) rfl T.m_rule_of T.F_rule_of.kp T.B_rule_of (takes_of rfl rfl rfl rfl) (pa_consC (aD_ok (var_ok (pv 0))) (pa_consC (aD_ok (var_ok (pv 1))) (pa_nilC))))))
    (ss_cons (s_if (PW.pt (pw_orF (pt_notF (tru_ok' (tmp_ok (b_isa rfl T.b_isinstance (slot_ok (pv 3)) (pe_bltn (v := .ty "tuple") rfl T.b_tuple (by decide +kernel) rfl))))) (pw_orF1 (tst_ok (pt_cmpR (op_neP (hu64 hr)) (slot_ok (pv 3)) (slot_ok (pv 4)) (nomark _)) (op2_le prim_ne)))))
    (ss_one (s_ret (c_ok pe_bl (fun _ => .bl _))))
    (ss_nil))
    (ss_cons (s_if (frT_ok (PW.pt (pw_orF (tst_ok (pt_cmpR (op_neP (hu64 hr)) (tmp_ok (pf_callE (ok_kind_of_rule T) (hr.mono (by first | decide | omega)) rfl T.m_kind_of_rule T.F_kind_of_rule.kp T.B_kind_of_rule (takes_of rfl rfl rfl rfl) (pa_consC (aD_ok (var_ok (pv 3))) (pa_nilC)))) (tmp_ok (pf_callE (ok_waits T 30) (hr.mono (by first | decide | omega)) rfl T.m_waits T.F_waits.kp T.B_waits (takes_of rfl rfl rfl rfl) (pa_consC (aD_ok (pf_ixS (hu1 hr) (pv 4) (c_ok pe_int (fun _ => .int _)))) (pa_consC (aD_ok (pf_ixS (hu1 hr) (pv 4) (c_ok pe_int (fun _ => .int _)))) (pa_consC (aD_ok (pf_ixS (hu1 hr) (pv 4) (c_ok pe_int (fun _ => .int _)))) (pa_nilC)))))) (nomark _)) (op2_le prim_ne)) (pw_orF1 (tst_ok (pt_cmpR (op_neP (hu64 hr)) (slot_ok (pv 3)) (slot_ok (pv 4)) (nomark _)) (op2_le prim_ne))))))
    (ss_one (s_ret (c_ok pe_bl (fun _ => .bl _))))
    (ss_nil))
    (ss_cons (s_expr (m_elApp (fun _ => .str _) (pe_bm PySem.F.plainAttrs_list PySem.F.slot_list_append PySem.F.type_list_append mt_append (pe_part (i := 3) (c := 1) rfl (pv 3) pe_int) (pa_one (pe_str)))))
    (ss_cons (s_expr (m_elIns (fun _ => .int _) (fun _ => .str _) (pe_bm PySem.F.plainAttrs_list PySem.F.slot_list_insert PySem.F.type_list_insert mt_insert (pe_part (i := 3) (c := 3) rfl (pv 3) pe_int) (pa_two (pe_int) (pe_str)))))
    (ss_one (s_ret (pf_eq (hu64 hr) (tmp_ok (pf_callKRE (ok_rule_of T) (hr.mono (by first | decide | omega)) rfl T.m_rule_of T.F_rule_of.kp T.KR_rule_of (takes_of rfl rfl rfl rfl) (pk_consC (aD_ok (var_ok (pv 1))) (pk_consC (aD_ok (var_ok (pv 0))) (pk_nilC))) defF_wants)) (slot_ok (pv 4)))))))))))))), defE (body := B_kind_right) rfl h (by decide)⟩)

theorem ok_words (T : Txt w K mg) : FnOk P w K mg base (L2.CX P w) 2 T.a_words T.d_words P_words (spF K (cl T) F_words) :=
  T.F_words.okX sc_words (fun vs H Q E h => spF_len h) (fun cdv A outer s H vs Q E hr h => ⟨_, ss_cons (s_par2T (ps_asg (pe_tup (pa_consF (c_ok pe_str (fun _ => .str _)) (pa_consF (pf_lst (pa_nilF)) (pa_nilF)))) (pg_tup rfl (pgs_cons (pg_name (i := 2) sc_words.nd rfl (Or.inr rfl)) (pgs_cons (pg_name (i := 3) sc_words.nd rfl (Or.inl rfl)) pgs_nil)))))
    (ss_cons (s_for (passes_of rfl) rfl (i_rng1 rfl T.b_range (slot_ok (pv 1))) (g_name (pg_name (i := 4) sc_words.nd rfl (Or.inl rfl)))
    (ss_cons (s_set (ps_set (i := 5) sc_words.nd rfl (Or.inl rfl) (b_join (tmp_ok (c_ok pe_str (fun _ => .str _))) (tmp_ok (pf_lc (rng1 (tmpF (op2 addO (tmpF (cF (.int 1))) (tmpF (callF F_draw (lendC 0 (consC (aD (cF (.int 8))) (nilC)))))))) (nmT 6) (yesT) (ixS 2 (callF F_draw (lendC 0 (consC (aD (cF (.int 26))) (nilC))))) rfl sc_words.nd (i_rng1 rfl T.b_range (tmp_ok (pf_add (tmp_ok (c_ok pe_int (fun _ => .int _))) (tmp_ok (pf_callE (ok_draw T) (hr.mono (by first | decide | omega)) rfl T.m_draw T.F_draw.kp T.B_draw (takes_of rfl rfl rfl rfl) (pa_lendC (pv 0) (pa_consC (aD_ok (c_ok pe_int (fun _ => .int _))) (pa_nilC)))))))) (blkOk_by (N := N_words) (own := [("_law_spot", 6)]) (sc := defScope s_words) (by decide +kernel)) (fun _ _ _ _ _ => g_name (pg_name (i := 6) sc_words.nd rfl (Or.inl rfl))) (fun _ _ _ _ _ => ts_yes) (fun _ _ _ _ _ => pf_ixS (hu1 hr) (pv 2) (pf_call (ok_draw T) (hr.mono (by first | decide | omega)) rfl T.m_draw T.F_draw.kp T.B_draw passL (pa_lendC (pv 0) (pa_consC (aD_ok (c_ok pe_int (fun _ => .int _))) (pa_nilC))))) (by decide))))))
    (ss_cons (s_if (PW.pt (pw_andF (tst_ok (pt_cmpR (op_neP (hu64 hr)) (slot_ok (pv 3)) (tmp_ok (pf_lst (pa_nilF))) (nomark _)) (op2_le prim_ne)) (pw_andF1 (tst_ok (pt_cmpR (op_eqP (hu64 hr)) (tmp_ok (pf_callE (ok_draw T) (hr.mono (by first | decide | omega)) rfl T.m_draw T.F_draw.kp T.B_draw (takes_of rfl rfl rfl rfl) (pa_lendC (pv 0) (pa_consC (aD_ok (c_ok pe_int (fun _ => .int _))) (pa_nilC))))) (tmp_ok (c_ok pe_int (fun _ => .int _))) (nomark _)) (op2_le prim_eq)))))
    (ss_cons (s_set (ps_set (i := 7) sc_words.nd rfl (Or.inl rfl) (pf_ixS (hu1 hr) (pv 3) (pf_callE (ok_draw T) (hr.mono (by first | decide | omega)) rfl T.m_draw T.F_draw.kp T.B_draw (takes_of rfl rfl rfl rfl) (pa_lendC (pv 0) (pa_consC (aD_ok (bi1 call_len prim_len rfl T.b_len PySem.boot_len (slot_ok (pv 3)))) (pa_nilC)))))))
    (ss_cons (s_set (ps_set (i := 8) sc_words.nd rfl (Or.inl rfl) (pf_callE (ok_draw T) (hr.mono (by first | decide | omega)) rfl T.m_draw T.F_draw.kp T.B_draw (takes_of rfl rfl rfl rfl) (pa_lendC (pv 0) (pa_consC (aD_ok (bi1 call_len prim_len rfl T.b_len PySem.boot_len (slot_ok (pv 7)))) (pa_nilC))))))
    (ss_one (s_set (ps_set (i := 5) sc_words.nd rfl (Or.inl rfl) (pf_ix (tmp_ok (pf_lst (pa_consF (pf_slHi (slot_ok (pv 7)) (slot_ok (pv 8))) (pa_consF (pf_add (tmp_ok (pf_slHi (slot_ok (pv 5)) (tmp_ok (c_ok pe_int (fun _ => .int _))))) (slot_ok (pv 7))) (pa_consF (pf_add (slot_ok (pv 7)) (tmp_ok (pf_slHi (slot_ok (pv 5)) (tmp_ok (c_ok pe_int (fun _ => .int _)))))) (pa_consF (pf_add (tmp_ok (pf_add (tmp_ok (pf_slHi (slot_ok (pv 7)) (slot_ok (pv 8)))) (tmp_ok (pf_slHi (slot_ok (pv 5)) (tmp_ok (c_ok pe_int (fun _ => .int _))))))) (tmp_ok (pf_slLo (slot_ok (pv 7)) (tmp_ok (pf_add (slot_ok (pv 8)) (tmp_ok (c_ok pe_int (fun _ => .int _)))))))) (pa_nilF))))))) (tmp_ok (pf_callE (ok_draw T) (hr.mono (by first | decide | omega)) rfl T.m_draw T.F_draw.kp T.B_draw (takes_of rfl rfl rfl rfl) (pa_lendC (pv 0) (pa_consC (aD_ok (c_ok pe_int (fun _ => .int _))) (pa_nilC)))))))))))
    (ss_nil))
    (ss_one (s_if (PW.pt (pw_andF (tst_ok (pt_cmpR (op_neP (hu64 hr)) (slot_ok (pv 5)) (tmp_ok (c_ok pe_str (fun _ => .str _))) (nomark _)) (op2_le prim_ne)) (pw_andF (tst_ok (pt_cmpR (op_lt.or op_lt_str) (tmp_ok (bi1 call_len prim_len rfl T.b_len PySem.boot_len (slot_ok (pv 5)))) (tmp_ok (c_ok pe_int (fun _ => .int _))) (nomark _)) (op2_le prim_lt)) (pw_andF1 (pt_ninS (hu64 hr) (pv 3) (var_ok (pv 5)))))))
    (ss_one (s_expr (m_append (pe_bm PySem.F.plainAttrs_list PySem.F.slot_list_append PySem.F.type_list_append mt_append (pv 3) (pa_one (var_ok (pv 5)))))))
    (ss_nil))))))
    (ss_one (s_ret (mov_ok (pv 3))))), defE (body := B_words) rfl h (by decide)⟩)

theorem ok_right (T : Txt w K mg) : FnOk P w K mg base (L2.CX P w) 36 T.a_right T.d_right P_right (spF K (cl T) F_right) :=
  T.F_right.okX sc_right (fun vs H Q E h => spF_len h) (fun cdv A outer s H vs Q E hr h => ⟨_, ss_cons (s_set (ps_set (i := 1) sc_right.nd rfl (Or.inl rfl) (pf_callE (ok_words T) (hr.mono (by first | decide | omega)) rfl T.m_words T.F_words.kp T.B_words (takes_of rfl rfl rfl rfl) (pa_lendC (pv 0) (pa_consC (aD_ok (c_ok pe_int (fun _ => .int _))) (pa_nilC))))))
    (ss_cons (s_for (passes_of rfl) rfl (i_rng1 rfl T.b_range (tmp_ok (c_ok pe_int (fun _ => .int _)))) (g_name (pg_name (i := 2) sc_right.nd rfl (Or.inl rfl)))
    (ss_cons (s_set (ps_set (i := 3) sc_right.nd rfl (Or.inl rfl) (pf_callE (ok_kind T 30) (hr.mono (by first | decide | omega)) rfl T.m_kind T.F_kind.kp T.B_kind (takes_of rfl rfl rfl rfl) (pa_lendC (pv 0) (pa_consC (aD_ok (pf_add (tmp_ok (c_ok pe_int (fun _ => .int _))) (tmp_ok (pf_callE (ok_draw T) (hr.mono (by first | decide | omega)) rfl T.m_draw T.F_draw.kp T.B_draw (takes_of rfl rfl rfl rfl) (pa_lendC (pv 0) (pa_consC (aD_ok (c_ok pe_int (fun _ => .int _))) (pa_nilC))))))) (pa_consC (aD_ok (pf_eq (hu64 hr) (tmp_ok (pf_callE (ok_draw T) (hr.mono (by first | decide | omega)) rfl T.m_draw T.F_draw.kp T.B_draw (takes_of rfl rfl rfl rfl) (pa_lendC (pv 0) (pa_consC (aD_ok (c_ok pe_int (fun _ => .int _))) (pa_nilC))))) (tmp_ok (c_ok pe_int (fun _ => .int _))))) (pa_nilC)))))))
    (ss_cons (s_if (PW.pt (pw_andF (tst_ok (pt_cmpR (op_lt.or op_lt_str) (tmp_ok (pf_callE (ok_depth T 30) (hr.mono (by first | decide | omega)) rfl T.m_depth T.F_depth.kp T.B_depth (takes_of rfl rfl rfl rfl) (pa_consC (aD_ok (var_ok (pv 3))) (pa_nilC)))) (tmp_ok (c_ok pe_int (fun _ => .int _))) (nomark _)) (op2_le prim_lt)) (pw_andF1 (pt_notF (tru_ok' (tmp_ok (pf_callE (ok_kind_right T) (hr.mono (by first | decide | omega)) rfl T.m_kind_right T.F_kind_right.kp T.B_kind_right (takes_of rfl rfl rfl rfl) (pa_consC (aD_ok (pf_ixS (hu1 hr) (pv 1) (pf_mod (tmp_ok (ty1 call_int1 prim_int rfl T.b_int (by decide +kernel) (slot_ok (pv 2)))) (tmp_ok (bi1 call_len prim_len rfl T.b_len PySem.boot_len (slot_ok (pv 1))))))) (pa_consC (aD_ok (var_ok (pv 3))) (pa_nilC))))))))))
    (ss_one (s_ret (c_ok pe_bl (fun _ => .bl _))))
    (ss_nil))
    (ss_cons (s_set (ps_set (i := 4) sc_right.nd rfl (Or.inl rfl) (pf_callE (ok_lflat T) (hr.mono (by first | decide | omega)) rfl T.m_lflat T.F_lflat.kp T.B_lflat (takes_of rfl rfl rfl rfl) (pa_lendC (pv 0) (pa_consC (aD_ok (pf_ixS (hu1 hr) (pv 0) (c_ok pe_int (fun _ => .int _)))) (pa_consC (aD_ok (pf_callE (ok_draw T) (hr.mono (by first | decide | omega)) rfl T.m_draw T.F_draw.kp T.B_draw (takes_of rfl rfl rfl rfl) (pa_lendC (pv 0) (pa_consC (aD_ok (c_ok pe_int (fun _ => .int _))) (pa_nilC))))) (pa_nilC)))))))
    (ss_one (s_if (pt_notF (tru_ok' (tmp_ok (pf_callE (ok_kind_right T) (hr.mono (by first | decide | omega)) rfl T.m_kind_right T.F_kind_right.kp T.B_kind_right (takes_of rfl rfl rfl rfl) (pa_consC (aD_ok (pf_ixS (hu1 hr) (pv 1) (c_ok pe_int (fun _ => .int _)))) (pa_consC (aD_ok (var_ok (pv 4))) (pa_nilC)))))))
    (ss_one (s_ret (c_ok pe_bl (fun _ => .bl _))))
    (ss_nil)))))))
    (ss_cons (s_set (ps_set (i := 5) sc_right.nd rfl (Or.inl rfl) (pf_callE (ok_draw T) (hr.mono (by first | decide | omega)) rfl T.m_draw T.F_draw.kp T.B_draw (takes_of rfl rfl rfl rfl) (pa_lendC (pv 0) (pa_consC (aD_ok (c_ok pe_int (fun _ => .int _))) (pa_nilC))))))
    (ss_cons (s_set (ps_set (i := 6) sc_right.nd rfl (Or.inl rfl) (pf_callE (ok_draw T) (hr.mono (by first | decide | omega)) rfl T.m_draw T.F_draw.kp T.B_draw (takes_of rfl rfl rfl rfl) (pa_lendC (pv 0) (pa_consC (aD_ok (pf_add (slot_ok (pv 5)) (tmp_ok (c_ok pe_int (fun _ => .int _))))) (pa_nilC))))))
    (ss_cons (s_setLc (rng1 (slotF 5)) (nmT 2) (yesT) (op2 ixO (tmpF (ixS 0 (cF (.int 3)))) (tmpF (callF F_draw (lendC 0 (consC (aD (op1 lenO (tmpF (ixS 0 (cF (.int 3)))))) (nilC)))))) (i := 7) rfl sc_right.nd rfl rfl (sw_true rfl rfl rfl (by decide +kernel)) (i_rng1 rfl T.b_range (slot_ok (pv 5))) (blkOk_by (N := N_right) (own := [("_law_turn", 2)]) (sc := defScope s_right) (by decide +kernel)) (fun _ _ _ _ _ => g_name (pg_name (i := 2) sc_right.nd rfl (Or.inl rfl))) (fun _ _ _ _ _ => ts_yes) (fun _ _ _ _ _ => pf_ix (tmp_ok (pf_ixS (hu1 hr) (pv 0) (c_ok pe_int (fun _ => .int _)))) (tmp_ok (pf_call (ok_draw T) (hr.mono (by first | decide | omega)) rfl T.m_draw T.F_draw.kp T.B_draw passL (pa_lendC (pv 0) (pa_consC (aD_ok (bi1 call_len prim_len rfl T.b_len PySem.boot_len (tmp_ok (pf_ixS (hu1 hr) (pv 0) (c_ok pe_int (fun _ => .int _)))))) (pa_nilC)))))) (by decide))
    (ss_cons (s_set (ps_set (i := 8) sc_right.nd rfl (Or.inl rfl) (pf_tup (pa_consF (pf_ix (tmp_ok (pf_ixS (hu1 hr) (pv 0) (c_ok pe_int (fun _ => .int _)))) (tmp_ok (c_ok pe_int (fun _ => .int _)))) (pa_consF (pf_slHi (slot_ok (pv 7)) (slot_ok (pv 6))) (pa_consF (pf_ixS (hu1 hr) (pv 1) (pf_neg (tmp_ok (c_ok pe_int (fun _ => .int _))))) (pa_consF (pf_slLo (slot_ok (pv 7)) (slot_ok (pv 6))) (pa_nilF))))))))
    (ss_cons (s_set (ps_set (i := 9) sc_right.nd rfl (Or.inl rfl) (pf_callE (ok_waits T 30) (hr.mono (by first | decide | omega)) rfl T.m_waits T.F_waits.kp T.B_waits (takes_of rfl rfl rfl rfl) (pa_consC (aD_ok (pf_ixS (hu1 hr) (pv 8) (c_ok pe_int (fun _ => .int _)))) (pa_consC (aD_ok (pf_slHi (slot_ok (pv 7)) (slot_ok (pv 6)))) (pa_consC (aD_ok (pf_slLo (slot_ok (pv 7)) (slot_ok (pv 6)))) (pa_nilC)))))))
    (ss_one (s_ret (pf_and (pf_eq (hu64 hr) (tmp_ok (pf_callE (ok_kind_of_rule T) (hr.mono (by first | decide | omega)) rfl T.m_kind_of_rule T.F_kind_of_rule.kp T.B_kind_of_rule (takes_of rfl rfl rfl rfl) (pa_consC (aD_ok (var_ok (pv 8))) (pa_nilC)))) (slot_ok (pv 9))) (pf_and (pf_eq (hu64 hr) (tmp_ok (pf_callKE (ok_kind_of_rule T) (hr.mono (by first | decide | omega)) rfl T.m_kind_of_rule T.F_kind_of_rule.kp T.K_kind_of_rule (takes_of rfl rfl rfl rfl) (pk_consC (aD_ok (var_ok (pv 8))) (pk_nilC)) defF_wants)) (slot_ok (pv 9))) (pf_one (pf_eq (hu64 hr) (tmp_ok (pf_add (tmp_ok (pf_ixS (hu1 hr) (pv 8) (c_ok pe_int (fun _ => .int _)))) (tmp_ok (pf_ixS (hu1 hr) (pv 8) (c_ok pe_int (fun _ => .int _)))))) (slot_ok (pv 7)))))))))))))), defE (body := B_right) rfl h (by decide)⟩)

theorem ok_source (T : Txt w K mg) : FnOk P w K mg base (L2.CX P w) 2 T.a_source T.d_source P_source (spF K (cl T) F_source) :=
  T.F_source.okX sc_source (fun vs H Q E h => spF_len h) (fun cdv A outer s H vs Q E hr h => ⟨_, ss_cons (s_set (ps_set (i := 2) sc_source.nd rfl (Or.inl rfl) (pf_if (tst_ok (pt_cmpR (op_lt.or op_lt_str) (slot_ok (pv 1)) (tmp_ok (bi1 call_len prim_len rfl T.b_len PySem.boot_len (slot_ok (pv 0)))) (nomark _)) (op2_le prim_lt)) (ty1 call_int1 prim_int rfl T.b_int (by decide +kernel) (tmp_ok (pf_ixS (hu1 hr) (pv 0) (var_ok (pv 1))))) (pf_add (tmp_ok (pf_add (tmp_ok (pf_mul (tmp_ok (c_ok pe_int (fun _ => .int _))) (slot_ok (pv 1)))) (tmp_ok (pf_mul (tmp_ok (pf_mul (tmp_ok (c_ok pe_int (fun _ => .int _))) (tmp_ok (bi1 call_len prim_len rfl T.b_len PySem.boot_len (slot_ok (pv 0)))))) (tmp_ok (bi1 call_len prim_len rfl T.b_len PySem.boot_len (slot_ok (pv 0)))))))) (tmp_ok (c_ok pe_int (fun _ => .int _)))))))
    (ss_cons (s_set (ps_set (i := 3) sc_source.nd rfl (Or.inr rfl) (pf_lst (pa_consF (bi2 (call_max2 rfl) prim_max2 rfl T.b_max (by decide +kernel) (tmp_ok (c_ok pe_int (fun _ => .int _))) (tmp_ok (pf_sub (tmp_ok (bi1 call_abs prim_abs rfl T.b_abs (by decide +kernel) (slot_ok (pv 2)))) (tmp_ok (pf_pow (tmp_ok (c_ok pe_int (fun _ => .int _))) (tmp_ok (c_ok pe_int (fun _ => .int _)))))))) (pa_consF (pf_mod (tmp_ok (ty1 call_int1 prim_int rfl T.b_int (by decide +kernel) (tmp_ok (pf_add (tmp_ok (pf_add (tmp_ok (pf_mul (slot_ok (pv 2)) (tmp_ok (c_ok pe_int (fun _ => .int _))))) (tmp_ok (pf_mul (slot_ok (pv 1)) (tmp_ok (c_ok pe_int (fun _ => .int _))))))) (tmp_ok (c_ok pe_int (fun _ => .int _))))))) (tmp_ok (pf_add (tmp_ok (pf_pow (tmp_ok (c_ok pe_int (fun _ => .int _))) (tmp_ok (c_ok pe_int (fun _ => .int _))))) (tmp_ok (c_ok pe_int (fun _ => .int _)))))) (pa_consF (c_ok pe_int (fun _ => .int _)) (pa_consF (pf_lst (pa_nilF)) (pa_nilF))))))))
    (ss_cons (s_set (ps_set (i := 4) sc_source.nd rfl (Or.inl rfl) (pf_ix (tmp_ok (pf_lst (pa_consF (c_ok pe_int (fun _ => .int _)) (pa_consF (c_ok pe_int (fun _ => .int _)) (pa_consF (c_ok pe_int (fun _ => .int _)) (pa_consF (c_ok pe_int (fun _ => .int _)) (pa_consF (c_ok pe_int (fun _ => .int _)) (pa_nilF)))))))) (tmp_ok (pf_callE (ok_draw T) (hr.mono (by first | decide | omega)) rfl T.m_draw T.F_draw.kp T.B_draw (takes_of rfl rfl rfl rfl) (pa_lendC (pv 3) (pa_consC (aD_ok (c_ok pe_int (fun _ => .int _))) (pa_nilC))))))))
    (ss_cons (s_setLc (rng1 (slotF 4)) (nmT 6) (yesT) (op2 ixO (tmpF (cF (.str "abcdefghijklmnopqrstuvwxyz"))) (tmpF (callF F_draw (lendC 3 (consC (aD (cF (.int 26))) (nilC)))))) (i := 5) rfl sc_source.nd rfl rfl (sw_true rfl rfl rfl (by decide +kernel)) (i_rng1 rfl T.b_range (slot_ok (pv 4))) (blkOk_by (N := N_source) (own := [("_law_turn", 6)]) (sc := defScope s_source) (by decide +kernel)) (fun _ _ _ _ _ => g_name (pg_name (i := 6) sc_source.nd rfl (Or.inl rfl))) (fun _ _ _ _ _ => ts_yes) (fun _ _ _ _ _ => pf_ix (tmp_ok (c_ok pe_str (fun _ => .str _))) (tmp_ok (pf_call (ok_draw T) (hr.mono (by first | decide | omega)) rfl T.m_draw T.F_draw.kp T.B_draw passL (pa_lendC (pv 3) (pa_consC (aD_ok (c_ok pe_int (fun _ => .int _))) (pa_nilC)))))) (by decide))
    (ss_cons (s_store (ps_asg (pf_if (tst_ok (pt_cmpR op_gt (slot_ok (pv 4)) (tmp_ok (c_ok pe_int (fun _ => .int _))) (nomark _)) (op2_le prim_gt)) (var_ok (pv 5)) (pf_lst (pa_consF (pf_ixS (hu1 hr) (pv 5) (c_ok pe_int (fun _ => .int _))) (pa_consF (pf_ixS (hu1 hr) (pv 5) (pf_neg (tmp_ok (c_ok pe_int (fun _ => .int _))))) (pa_consF (pf_ixS (hu1 hr) (pv 5) (c_ok pe_int (fun _ => .int _))) (pa_nilF)))))) (pg_sub (pv 3) (c_ok pe_int (fun _ => .int _)) set_list)) (ps_dput (hu1 hr) (pv 3) (c_ok pe_int (fun _ => .int _)) (pf_if (tst_ok (pt_cmpR op_gt (slot_ok (pv 4)) (tmp_ok (c_ok pe_int (fun _ => .int _))) (nomark _)) (op2_le prim_gt)) (var_ok (pv 5)) (pf_lst (pa_consF (pf_ixS (hu1 hr) (pv 5) (c_ok pe_int (fun _ => .int _))) (pa_consF (pf_ixS (hu1 hr) (pv 5) (pf_neg (tmp_ok (c_ok pe_int (fun _ => .int _))))) (pa_consF (pf_ixS (hu1 hr) (pv 5) (c_ok pe_int (fun _ => .int _))) (pa_nilF)))))) rfl))
    (ss_one (s_ret (mov_ok (pv 3)))))))), defE (body := B_source) rfl h (by decide)⟩)

theorem ok_law (T : Txt w K mg) : FnOk P w K mg base CX0 37 T.a_law T.d_law P_law (spF K cl0 F_law_k26) :=
  T.F_law.ok sc_law (fun vs H Q E h => spF_len h) (fun cdv A outer s H vs Q E hr h => ⟨_, ss_cons (s_for PassesOwn.never rfl (i_rng1 rfl T.b_range (tmp_ok (bi2 (call_max2 rfl) prim_max2 rfl T.b_max (by decide +kernel) (tmp_ok (c_ok pe_int (fun _ => .int _))) (tmp_ok (bi2 (call_min2 rfl) prim_min2 rfl T.b_min (by decide +kernel) (tmp_ok (c_ok pe_int (fun _ => .int _))) (tmp_ok (bi1 call_len prim_len rfl T.b_len PySem.boot_len (slot_ok (pv 0))))))))) (g_name (pg_name (i := 1) sc_law.nd rfl (Or.inl rfl)))
    (ss_one (s_if (pt_notF (tru_ok' (tmp_ok (pf_callE (ok_right T) (hr.mono (by first | decide | omega)) rfl T.m_right T.F_right.kp T.B_right takes0 (pa_consC (aT_ok (pf_callE (ok_source T) (hr.mono (by first | decide | omega)) rfl T.m_source T.F_source.kp T.B_source takes0 (pa_consC (aD_ok (var_ok (pv 0))) (pa_consC (aD_ok (var_ok (pv 1))) (pa_nilC))))) (pa_nilC))))))
    (ss_one (s_ret (c_ok pe_bl (fun _ => .bl _))))
    (ss_nil))))
    (ss_one (s_ret (c_ok pe_bl (fun _ => .bl _)))), def_ok (R := RX (cl T) (fun _ _ _ _ => False)) (body := B_law_k26) rfl h (by decide) fun _ _ _ _ ⟨_, z, _⟩ => nomatch z⟩)
end
end Nk26

namespace Nk26
open PySem PySem.Spec PyProof.Rows L2 Ww Vs Fn
theorem all_mk {P : Program} {w : World} {K : PySem.W.Frag} {h : Heap} {mg : Str → Option Value} {fa : Addr} (X : K.In h) (G : h.Ns mainGlobals mg) (hfa : mg "law" = some (.ref fa))
    {od0 an0 : Option Addr} {sl0 : Array (Option Value)} {oc0 kV0 dc0 pm0 cd0 ct0 : Value} {f0 : Addr}
    (a0 : PySem.W.nsIn K mainGlobals "_law_depth" = some (some (.ref f0))) (l0 : K.lookup f0 = some ⟨oc0, od0, .func (PySem.W.fnOf "_law_depth" "_law_depth" (defArgs s_depth) (defBody s_depth) (defScope s_depth) .none kV0 dc0 pm0 an0 cd0 ct0), sl0⟩) (c0 : PySem.W.codeIn K cd0 "_law_depth" = true) (k0 : PySem.W.keepIn K (.ref f0) = true)
    {od1 an1 : Option Addr} {sl1 : Array (Option Value)} {oc1 kV1 dc1 pm1 cd1 ct1 : Value} {f1 : Addr}
    (a1 : PySem.W.nsIn K mainGlobals "_law_draw" = some (some (.ref f1))) (l1 : K.lookup f1 = some ⟨oc1, od1, .func (PySem.W.fnOf "_law_draw" "_law_draw" (defArgs s_draw) (defBody s_draw) (defScope s_draw) .none kV1 dc1 pm1 an1 cd1 ct1), sl1⟩) (c1 : PySem.W.codeIn K cd1 "_law_draw" = true) (k1 : PySem.W.keepIn K (.ref f1) = true)
    {od2 an2 : Option Addr} {sl2 : Array (Option Value)} {oc2 kV2 dc2 pm2 cd2 ct2 : Value} {f2 : Addr}
    (a2 : PySem.W.nsIn K mainGlobals "_law_flat" = some (some (.ref f2))) (l2 : K.lookup f2 = some ⟨oc2, od2, .func (PySem.W.fnOf "_law_flat" "_law_flat" (defArgs s_lflat) (defBody s_lflat) (defScope s_lflat) .none kV2 dc2 pm2 an2 cd2 ct2), sl2⟩) (c2 : PySem.W.codeIn K cd2 "_law_flat" = true) (k2 : PySem.W.keepIn K (.ref f2) = true)
    {od3 an3 : Option Addr} {sl3 : Array (Option Value)} {oc3 kV3 dc3 pm3 cd3 ct3 : Value} {f3 : Addr}
    (a3 : PySem.W.nsIn K mainGlobals "_law_kind" = some (some (.ref f3))) (l3 : K.lookup f3 = some ⟨oc3, od3, .func (PySem.W.fnOf "_law_kind" "_law_kind" (defArgs s_kind) (defBody s_kind) (defScope s_kind) .none kV3 dc3 pm3 an3 cd3 ct3), sl3⟩) (c3 : PySem.W.codeIn K cd3 "_law_kind" = true) (k3 : PySem.W.keepIn K (.ref f3) = true)
    {od4 an4 : Option Addr} {sl4 : Array (Option Value)} {oc4 kV4 dc4 pm4 cd4 ct4 : Value} {f4 : Addr}
    (a4 : PySem.W.nsIn K mainGlobals "_law_is_flat" = some (some (.ref f4))) (l4 : K.lookup f4 = some ⟨oc4, od4, .func (PySem.W.fnOf "_law_is_flat" "_law_is_flat" (defArgs s_lis_flat) (defBody s_lis_flat) (defScope s_lis_flat) .none kV4 dc4 pm4 an4 cd4 ct4), sl4⟩) (c4 : PySem.W.codeIn K cd4 "_law_is_flat" = true) (k4 : PySem.W.keepIn K (.ref f4) = true)
    {od5 an5 : Option Addr} {sl5 : Array (Option Value)} {oc5 kV5 dc5 pm5 cd5 ct5 : Value} {f5 : Addr}
    (a5 : PySem.W.nsIn K mainGlobals "flat" = some (some (.ref f5))) (l5 : K.lookup f5 = some ⟨oc5, od5, .func (PySem.W.fnOf "flat" "flat" (defArgs s_flat) (defBody s_flat) (defScope s_flat) .none kV5 dc5 pm5 an5 cd5 ct5), sl5⟩) (c5 : PySem.W.codeIn K cd5 "flat" = true) (k5 : PySem.W.keepIn K (.ref f5) = true)
    {od6 an6 : Option Addr} {sl6 : Array (Option Value)} {oc6 kV6 dc6 pm6 cd6 ct6 : Value} {f6 : Addr}
    (a6 : PySem.W.nsIn K mainGlobals "check_flat" = some (some (.ref f6))) (l6 : K.lookup f6 = some ⟨oc6, od6, .func (PySem.W.fnOf "check_flat" "check_flat" (defArgs s_check_flat) (defBody s_check_flat) (defScope s_check_flat) .none kV6 dc6 pm6 an6 cd6 ct6), sl6⟩) (c6 : PySem.W.codeIn K cd6 "check_flat" = true) (k6 : PySem.W.keepIn K (.ref f6) = true)
    {od7 an7 : Option Addr} {sl7 : Array (Option Value)} {oc7 kV7 dc7 pm7 cd7 ct7 : Value} {f7 : Addr}
    (a7 : PySem.W.nsIn K mainGlobals "fresh" = some (some (.ref f7))) (l7 : K.lookup f7 = some ⟨oc7, od7, .func (PySem.W.fnOf "fresh" "fresh" (defArgs s_fresh) (defBody s_fresh) (defScope s_fresh) .none kV7 dc7 pm7 an7 cd7 ct7), sl7⟩) (c7 : PySem.W.codeIn K cd7 "fresh" = true) (k7 : PySem.W.keepIn K (.ref f7) = true)
    {od8 an8 : Option Addr} {sl8 : Array (Option Value)} {oc8 kV8 dc8 pm8 cd8 ct8 : Value} {f8 : Addr}
    (a8 : PySem.W.nsIn K mainGlobals "is_letter" = some (some (.ref f8))) (l8 : K.lookup f8 = some ⟨oc8, od8, .func (PySem.W.fnOf "is_letter" "is_letter" (defArgs s_is_letter) (defBody s_is_letter) (defScope s_is_letter) .none kV8 dc8 pm8 an8 cd8 ct8), sl8⟩) (c8 : PySem.W.codeIn K cd8 "is_letter" = true) (k8 : PySem.W.keepIn K (.ref f8) = true)
    {od9 an9 : Option Addr} {sl9 : Array (Option Value)} {oc9 kV9 dc9 pm9 cd9 ct9 : Value} {f9 : Addr}
    (a9 : PySem.W.nsIn K mainGlobals "wrong_part" = some (some (.ref f9))) (l9 : K.lookup f9 = some ⟨oc9, od9, .func (PySem.W.fnOf "wrong_part" "wrong_part" (defArgs s_wrong_part) (defBody s_wrong_part) (defScope s_wrong_part) .none kV9 dc9 pm9 an9 cd9 ct9), sl9⟩) (c9 : PySem.W.codeIn K cd9 "wrong_part" = true) (k9 : PySem.W.keepIn K (.ref f9) = true)
    {od10 an10 : Option Addr} {sl10 : Array (Option Value)} {oc10 kV10 dc10 pm10 cd10 ct10 : Value} {f10 : Addr}
    (a10 : PySem.W.nsIn K mainGlobals "checked_kind" = some (some (.ref f10))) (l10 : K.lookup f10 = some ⟨oc10, od10, .func (PySem.W.fnOf "checked_kind" "checked_kind" (defArgs s_checked_kind) (defBody s_checked_kind) (defScope s_checked_kind) .none kV10 dc10 pm10 an10 cd10 ct10), sl10⟩) (c10 : PySem.W.codeIn K cd10 "checked_kind" = true) (k10 : PySem.W.keepIn K (.ref f10) = true)
    {od11 an11 : Option Addr} {sl11 : Array (Option Value)} {oc11 kV11 dc11 pm11 cd11 ct11 : Value} {f11 : Addr}
    (a11 : PySem.W.nsIn K mainGlobals "checked_word" = some (some (.ref f11))) (l11 : K.lookup f11 = some ⟨oc11, od11, .func (PySem.W.fnOf "checked_word" "checked_word" (defArgs s_checked_word) (defBody s_checked_word) (defScope s_checked_word) .none kV11 dc11 pm11 an11 cd11 ct11), sl11⟩) (c11 : PySem.W.codeIn K cd11 "checked_word" = true) (k11 : PySem.W.keepIn K (.ref f11) = true)
    {od12 an12 : Option Addr} {sl12 : Array (Option Value)} {oc12 kV12 dc12 pm12 cd12 ct12 : Value} {f12 : Addr}
    (a12 : PySem.W.nsIn K mainGlobals "made_rule" = some (some (.ref f12))) (l12 : K.lookup f12 = some ⟨oc12, od12, .func (PySem.W.fnOf "made_rule" "made_rule" (defArgs s_made_rule) (defBody s_made_rule) (defScope s_made_rule) .none kV12 dc12 pm12 an12 cd12 ct12), sl12⟩) (c12 : PySem.W.codeIn K cd12 "made_rule" = true) (k12 : PySem.W.keepIn K (.ref f12) = true)
    {od13 an13 : Option Addr} {sl13 : Array (Option Value)} {oc13 kV13 dc13 pm13 cd13 ct13 : Value} {f13 : Addr}
    (a13 : PySem.W.nsIn K mainGlobals "rule_of" = some (some (.ref f13))) (l13 : K.lookup f13 = some ⟨oc13, od13, .func (PySem.W.fnOf "rule_of" "rule_of" (defArgs s_rule_of) (defBody s_rule_of) (defScope s_rule_of) .none kV13 dc13 pm13 an13 cd13 ct13), sl13⟩) (c13 : PySem.W.codeIn K cd13 "rule_of" = true) (k13 : PySem.W.keepIn K (.ref f13) = true)
    {od14 an14 : Option Addr} {sl14 : Array (Option Value)} {oc14 kV14 dc14 pm14 cd14 ct14 : Value} {f14 : Addr}
    (a14 : PySem.W.nsIn K mainGlobals "_law_refused" = some (some (.ref f14))) (l14 : K.lookup f14 = some ⟨oc14, od14, .func (PySem.W.fnOf "_law_refused" "_law_refused" (defArgs s_refused) (defBody s_refused) (defScope s_refused) .none kV14 dc14 pm14 an14 cd14 ct14), sl14⟩) (c14 : PySem.W.codeIn K cd14 "_law_refused" = true) (k14 : PySem.W.keepIn K (.ref f14) = true)
    {od15 an15 : Option Addr} {sl15 : Array (Option Value)} {oc15 kV15 dc15 pm15 cd15 ct15 : Value} {f15 : Addr}
    (a15 : PySem.W.nsIn K mainGlobals "_law_rule" = some (some (.ref f15))) (l15 : K.lookup f15 = some ⟨oc15, od15, .func (PySem.W.fnOf "_law_rule" "_law_rule" (defArgs s_rule) (defBody s_rule) (defScope s_rule) .none kV15 dc15 pm15 an15 cd15 ct15), sl15⟩) (c15 : PySem.W.codeIn K cd15 "_law_rule" = true) (k15 : PySem.W.keepIn K (.ref f15) = true)
    {od16 an16 : Option Addr} {sl16 : Array (Option Value)} {oc16 kV16 dc16 pm16 cd16 ct16 : Value} {f16 : Addr}
    (a16 : PySem.W.nsIn K mainGlobals "_law_waits" = some (some (.ref f16))) (l16 : K.lookup f16 = some ⟨oc16, od16, .func (PySem.W.fnOf "_law_waits" "_law_waits" (defArgs s_waits) (defBody s_waits) (defScope s_waits) .none kV16 dc16 pm16 an16 cd16 ct16), sl16⟩) (c16 : PySem.W.codeIn K cd16 "_law_waits" = true) (k16 : PySem.W.keepIn K (.ref f16) = true)
    {od17 an17 : Option Addr} {sl17 : Array (Option Value)} {oc17 kV17 dc17 pm17 cd17 ct17 : Value} {f17 : Addr}
    (a17 : PySem.W.nsIn K mainGlobals "is_flat" = some (some (.ref f17))) (l17 : K.lookup f17 = some ⟨oc17, od17, .func (PySem.W.fnOf "is_flat" "is_flat" (defArgs s_is_flat) (defBody s_is_flat) (defScope s_is_flat) .none kV17 dc17 pm17 an17 cd17 ct17), sl17⟩) (c17 : PySem.W.codeIn K cd17 "is_flat" = true) (k17 : PySem.W.keepIn K (.ref f17) = true)
    {od18 an18 : Option Addr} {sl18 : Array (Option Value)} {oc18 kV18 dc18 pm18 cd18 ct18 : Value} {f18 : Addr}
    (a18 : PySem.W.nsIn K mainGlobals "kind_of_rule" = some (some (.ref f18))) (l18 : K.lookup f18 = some ⟨oc18, od18, .func (PySem.W.fnOf "kind_of_rule" "kind_of_rule" (defArgs s_kind_of_rule) (defBody s_kind_of_rule) (defScope s_kind_of_rule) .none kV18 dc18 pm18 an18 cd18 ct18), sl18⟩) (c18 : PySem.W.codeIn K cd18 "kind_of_rule" = true) (k18 : PySem.W.keepIn K (.ref f18) = true)
    {od19 an19 : Option Addr} {sl19 : Array (Option Value)} {oc19 kV19 dc19 pm19 cd19 ct19 : Value} {f19 : Addr}
    (a19 : PySem.W.nsIn K mainGlobals "_law_kind_right" = some (some (.ref f19))) (l19 : K.lookup f19 = some ⟨oc19, od19, .func (PySem.W.fnOf "_law_kind_right" "_law_kind_right" (defArgs s_kind_right) (defBody s_kind_right) (defScope s_kind_right) .none kV19 dc19 pm19 an19 cd19 ct19), sl19⟩) (c19 : PySem.W.codeIn K cd19 "_law_kind_right" = true) (k19 : PySem.W.keepIn K (.ref f19) = true)
    {od20 an20 : Option Addr} {sl20 : Array (Option Value)} {oc20 kV20 dc20 pm20 cd20 ct20 : Value} {f20 : Addr}
    (a20 : PySem.W.nsIn K mainGlobals "_law_words" = some (some (.ref f20))) (l20 : K.lookup f20 = some ⟨oc20, od20, .func (PySem.W.fnOf "_law_words" "_law_words" (defArgs s_words) (defBody s_words) (defScope s_words) .none kV20 dc20 pm20 an20 cd20 ct20), sl20⟩) (c20 : PySem.W.codeIn K cd20 "_law_words" = true) (k20 : PySem.W.keepIn K (.ref f20) = true)
    {od21 an21 : Option Addr} {sl21 : Array (Option Value)} {oc21 kV21 dc21 pm21 cd21 ct21 : Value} {f21 : Addr}
    (a21 : PySem.W.nsIn K mainGlobals "_law_right" = some (some (.ref f21))) (l21 : K.lookup f21 = some ⟨oc21, od21, .func (PySem.W.fnOf "_law_right" "_law_right" (defArgs s_right) (defBody s_right) (defScope s_right) .none kV21 dc21 pm21 an21 cd21 ct21), sl21⟩) (c21 : PySem.W.codeIn K cd21 "_law_right" = true) (k21 : PySem.W.keepIn K (.ref f21) = true)
    {od22 an22 : Option Addr} {sl22 : Array (Option Value)} {oc22 kV22 dc22 pm22 cd22 ct22 : Value} {f22 : Addr}
    (a22 : PySem.W.nsIn K mainGlobals "_law_source" = some (some (.ref f22))) (l22 : K.lookup f22 = some ⟨oc22, od22, .func (PySem.W.fnOf "_law_source" "_law_source" (defArgs s_source) (defBody s_source) (defScope s_source) .none kV22 dc22 pm22 an22 cd22 ct22), sl22⟩) (c22 : PySem.W.codeIn K cd22 "_law_source" = true) (k22 : PySem.W.keepIn K (.ref f22) = true)
    {od23 an23 : Option Addr} {sl23 : Array (Option Value)} {oc23 kV23 dc23 pm23 cd23 ct23 : Value} {f23 : Addr}
    (a23 : PySem.W.nsIn K mainGlobals "law" = some (some (.ref f23))) (l23 : K.lookup f23 = some ⟨oc23, od23, .func (PySem.W.fnOf "law" "law" (defArgs s_law) (defBody s_law) (defScope s_law) .none kV23 dc23 pm23 an23 cd23 ct23), sl23⟩) (c23 : PySem.W.codeIn K cd23 "law" = true) (k23 : PySem.W.keepIn K (.ref f23) = true)
    (z_abs : PySem.W.nsIn K mainGlobals "abs" = some none)
    (z_all : PySem.W.nsIn K mainGlobals "all" = some none)
    (z_bool : PySem.W.nsIn K mainGlobals "bool" = some none)
    (z_int : PySem.W.nsIn K mainGlobals "int" = some none)
    (z_isinstance : PySem.W.nsIn K mainGlobals "isinstance" = some none)
    (z_len : PySem.W.nsIn K mainGlobals "len" = some none)
    (z_list : PySem.W.nsIn K mainGlobals "list" = some none)
    (z_max : PySem.W.nsIn K mainGlobals "max" = some none)
    (z_min : PySem.W.nsIn K mainGlobals "min" = some none)
    (z_range : PySem.W.nsIn K mainGlobals "range" = some none)
    (z_tuple : PySem.W.nsIn K mainGlobals "tuple" = some none)
    {t_LETTERS_books : Tok} (g_LETTERS_books : PySem.W.nsIn K mainGlobals "LETTERS_books" = some (some (.str "abcdefghijklmnopqrstuvwxyz" t_LETTERS_books)))
    {t_LETTERS_kinds : Tok} (g_LETTERS_kinds : PySem.W.nsIn K mainGlobals "LETTERS_kinds" = some (some (.str "abcdefghijklmnopqrstuvwxyz" t_LETTERS_kinds)))
    {t_MOST_LETTERS : Tok} (g_MOST_LETTERS : PySem.W.nsIn K mainGlobals "MOST_LETTERS" = some (some (.int 8 t_MOST_LETTERS)))
    {o_TURNS : Addr} {e_TURNS : Array DictEntry} {n_TURNS : Nat} (g_TURNS : PySem.W.nsIn K mainGlobals "TURNS" = some (some (.ref o_TURNS))) (l_TURNS : K.lookup o_TURNS = some ⟨.type "dict", none, .dict e_TURNS n_TURNS, #[]⟩) (i_TURNS : PySem.W.KeysLit w.params e_TURNS.toList) (j_TURNS : (o_TURNS == sysModules) = false)
    {t0_TURNS : Tok} (v0_TURNS : PySem.W.nsIn K o_TURNS "behind" = some (some (.str "ahead" t0_TURNS)))
    {t1_TURNS : Tok} (v1_TURNS : PySem.W.nsIn K o_TURNS "ahead" = some (some (.str "behind" t1_TURNS)))
    {t2_TURNS : Tok} (v2_TURNS : PySem.W.nsIn K o_TURNS "with" = some (some (.str "with" t2_TURNS)))
    {fI : Addr}
    {nm_InvalidKind q_InvalidKind : Str} {N_InvalidKind C_InvalidKind : Addr} {bs_InvalidKind bm_InvalidKind : List Value} {sn_InvalidKind : List Str} {sub_InvalidKind : List Value} {ab_InvalidKind : Bool} {col_InvalidKind : Option Bool} {dd_InvalidKind : Option Addr} {k0_InvalidKind k1_InvalidKind k2_InvalidKind k3_InvalidKind k5_InvalidKind : Option Value}
    (aC_InvalidKind : PySem.W.nsIn K mainGlobals "InvalidKind" = some (some (.ref C_InvalidKind))) (xL_InvalidKind : K.lookup C_InvalidKind = some (excClassObj nm_InvalidKind q_InvalidKind C_InvalidKind N_InvalidKind bs_InvalidKind bm_InvalidKind true sn_InvalidKind sub_InvalidKind ab_InvalidKind col_InvalidKind dd_InvalidKind k0_InvalidKind k1_InvalidKind k2_InvalidKind k3_InvalidKind k5_InvalidKind "ValueError.__new__")) (vb_InvalidKind : PySem.HandSPX.refsVE bm_InvalidKind = true)
    (sa_InvalidKind : PySem.W.findIn K (.ref C_InvalidKind) "__setattr__" = some (some (.builtin "object.__setattr__"))) (ga_InvalidKind : PySem.W.findIn K (.ref C_InvalidKind) "__getattribute__" = some (some (.builtin "BaseException.__getattribute__"))) (gg_InvalidKind : PySem.W.findIn K (.ref C_InvalidKind) "__getattr__" = some none) (nv_InvalidKind : PySem.W.findIn K (.ref C_InvalidKind) "value" = some none) (i_InvalidKind : PySem.W.findIn K (.ref C_InvalidKind) "__init__" = some (some (.ref fI)))
    (kC_InvalidKind : PySem.W.keepIn K (.ref C_InvalidKind) = true) (eC_InvalidKind : PySem.W.subIn K (.ref C_InvalidKind) (.type "BaseException") = some true) (tC_InvalidKind : PySem.W.typeIn K (.ref C_InvalidKind) = some (.type "type")) (hC_InvalidKind : PySem.W.hasDictIn K C_InvalidKind = true) (iC_InvalidKind : PySem.W.isClsIn K C_InvalidKind = true)
    {odI anI : Option Addr} {slI : Array (Option Value)} {ocI kVI dcI pmI cdI ctI : Value}
    (lI : K.lookup fI = some ⟨ocI, odI, .func (PySem.W.fnOf "__init__" "WaitError.__init__" (defArgs s_init) (defBody s_init) (defScope s_init) .none kVI dcI pmI anI cdI ctI), slI⟩) (cI : PySem.W.codeIn K cdI "WaitError.__init__" = true) (kI : PySem.W.keepIn K (.ref fI) = true) (tI : PySem.W.typeIn K (.ref fI) = some (.type "function")) (z_ValueError : PySem.W.nsIn K mainGlobals "ValueError" = some none)
    {nm_InvalidWord q_InvalidWord : Str} {N_InvalidWord C_InvalidWord : Addr} {bs_InvalidWord bm_InvalidWord : List Value} {sn_InvalidWord : List Str} {sub_InvalidWord : List Value} {ab_InvalidWord : Bool} {col_InvalidWord : Option Bool} {dd_InvalidWord : Option Addr} {k0_InvalidWord k1_InvalidWord k2_InvalidWord k3_InvalidWord k5_InvalidWord : Option Value}
    (aC_InvalidWord : PySem.W.nsIn K mainGlobals "InvalidWord" = some (some (.ref C_InvalidWord))) (xL_InvalidWord : K.lookup C_InvalidWord = some (excClassObj nm_InvalidWord q_InvalidWord C_InvalidWord N_InvalidWord bs_InvalidWord bm_InvalidWord true sn_InvalidWord sub_InvalidWord ab_InvalidWord col_InvalidWord dd_InvalidWord k0_InvalidWord k1_InvalidWord k2_InvalidWord k3_InvalidWord k5_InvalidWord "ValueError.__new__")) (vb_InvalidWord : PySem.HandSPX.refsVE bm_InvalidWord = true)
    (sa_InvalidWord : PySem.W.findIn K (.ref C_InvalidWord) "__setattr__" = some (some (.builtin "object.__setattr__"))) (ga_InvalidWord : PySem.W.findIn K (.ref C_InvalidWord) "__getattribute__" = some (some (.builtin "BaseException.__getattribute__"))) (gg_InvalidWord : PySem.W.findIn K (.ref C_InvalidWord) "__getattr__" = some none) (nv_InvalidWord : PySem.W.findIn K (.ref C_InvalidWord) "value" = some none) (i_InvalidWord : PySem.W.findIn K (.ref C_InvalidWord) "__init__" = some (some (.ref fI)))
    (kC_InvalidWord : PySem.W.keepIn K (.ref C_InvalidWord) = true) (eC_InvalidWord : PySem.W.subIn K (.ref C_InvalidWord) (.type "BaseException") = some true) (tC_InvalidWord : PySem.W.typeIn K (.ref C_InvalidWord) = some (.type "type")) (hC_InvalidWord : PySem.W.hasDictIn K C_InvalidWord = true) (iC_InvalidWord : PySem.W.isClsIn K C_InvalidWord = true)
    {nm_NotFlat q_NotFlat : Str} {N_NotFlat C_NotFlat : Addr} {bs_NotFlat bm_NotFlat : List Value} {sn_NotFlat : List Str} {sub_NotFlat : List Value} {ab_NotFlat : Bool} {col_NotFlat : Option Bool} {dd_NotFlat : Option Addr} {k0_NotFlat k1_NotFlat k2_NotFlat k3_NotFlat k5_NotFlat : Option Value}
    (aC_NotFlat : PySem.W.nsIn K mainGlobals "NotFlat" = some (some (.ref C_NotFlat))) (xL_NotFlat : K.lookup C_NotFlat = some (excClassObj nm_NotFlat q_NotFlat C_NotFlat N_NotFlat bs_NotFlat bm_NotFlat true sn_NotFlat sub_NotFlat ab_NotFlat col_NotFlat dd_NotFlat k0_NotFlat k1_NotFlat k2_NotFlat k3_NotFlat k5_NotFlat "ValueError.__new__")) (vb_NotFlat : PySem.HandSPX.refsVE bm_NotFlat = true)
    (sa_NotFlat : PySem.W.findIn K (.ref C_NotFlat) "__setattr__" = some (some (.builtin "object.__setattr__"))) (ga_NotFlat : PySem.W.findIn K (.ref C_NotFlat) "__getattribute__" = some (some (.builtin "BaseException.__getattribute__"))) (gg_NotFlat : PySem.W.findIn K (.ref C_NotFlat) "__getattr__" = some none) (nv_NotFlat : PySem.W.findIn K (.ref C_NotFlat) "value" = some none) (i_NotFlat : PySem.W.findIn K (.ref C_NotFlat) "__init__" = some (some (.ref fI)))
    (kC_NotFlat : PySem.W.keepIn K (.ref C_NotFlat) = true) (eC_NotFlat : PySem.W.subIn K (.ref C_NotFlat) (.type "BaseException") = some true) (tC_NotFlat : PySem.W.typeIn K (.ref C_NotFlat) = some (.type "type")) (hC_NotFlat : PySem.W.hasDictIn K C_NotFlat = true) (iC_NotFlat : PySem.W.isClsIn K C_NotFlat = true)
    (s_InvalidKind_NotFlat : PySem.W.subIn K (.ref C_InvalidKind) (.ref C_NotFlat) = some false)
    (s_InvalidWord_NotFlat : PySem.W.subIn K (.ref C_InvalidWord) (.ref C_NotFlat) = some false)
    (s_NotFlat_NotFlat : PySem.W.subIn K (.ref C_NotFlat) (.ref C_NotFlat) = some true)
    : ∃ fd : FuncData, (∀ (s : Shared) (v : Value), BindsTo s fd ⟨[v], []⟩ [("_law_script", v)]) ∧ ∀ base : Heap, K.In base → base.Ns mainGlobals mg → FnOk P w K mg base CX0 37 fa fd ["_law_script"] (spLaw K) := by
  have e := hfa.symm.trans (PySem.W.mg_of X G a23)
  cases e
  let T : Txt w K mg := {
    a_depth := f0, d_depth := _, F_depth := (fun_mk (st := s_depth) l0 c0 k0), m_depth := PySem.W.mg_of X G a0, B_depth := (fun_mk (st := s_depth) l0 c0 k0).binds (ps := P_depth) (fun _ _ _ _ _ _ us hl => match us, hl with | [_], _ => rfl),
    a_draw := f1, d_draw := _, F_draw := (fun_mk (st := s_draw) l1 c1 k1), m_draw := PySem.W.mg_of X G a1, B_draw := (fun_mk (st := s_draw) l1 c1 k1).binds (ps := P_draw) (fun _ _ _ _ _ _ us hl => match us, hl with | [_, _], _ => rfl),
    a_lflat := f2, d_lflat := _, F_lflat := (fun_mk (st := s_lflat) l2 c2 k2), m_lflat := PySem.W.mg_of X G a2, B_lflat := (fun_mk (st := s_lflat) l2 c2 k2).binds (ps := P_lflat) (fun _ _ _ _ _ _ us hl => match us, hl with | [_, _, _], _ => rfl),
    a_kind := f3, d_kind := _, F_kind := (fun_mk (st := s_kind) l3 c3 k3), m_kind := PySem.W.mg_of X G a3, B_kind := (fun_mk (st := s_kind) l3 c3 k3).binds (ps := P_kind) (fun _ _ _ _ _ _ us hl => match us, hl with | [_, _, _], _ => rfl),
    a_lis_flat := f4, d_lis_flat := _, F_lis_flat := (fun_mk (st := s_lis_flat) l4 c4 k4), m_lis_flat := PySem.W.mg_of X G a4, B_lis_flat := (fun_mk (st := s_lis_flat) l4 c4 k4).binds (ps := P_lis_flat) (fun _ _ _ _ _ _ us hl => match us, hl with | [_], _ => rfl),
    a_flat := f5, d_flat := _, F_flat := (fun_mk (st := s_flat) l5 c5 k5), m_flat := PySem.W.mg_of X G a5, B_flat := (fun_mk (st := s_flat) l5 c5 k5).binds (ps := P_flat) (fun _ _ _ _ _ _ us hl => match us, hl with | [_], _ => rfl),
    a_check_flat := f6, d_check_flat := _, F_check_flat := (fun_mk (st := s_check_flat) l6 c6 k6), m_check_flat := PySem.W.mg_of X G a6, B_check_flat := (fun_mk (st := s_check_flat) l6 c6 k6).binds (ps := P_check_flat) (fun _ _ _ _ _ _ us hl => match us, hl with | [_], _ => rfl),
    a_fresh := f7, d_fresh := _, F_fresh := (fun_mk (st := s_fresh) l7 c7 k7), m_fresh := PySem.W.mg_of X G a7, B_fresh := (fun_mk (st := s_fresh) l7 c7 k7).binds (ps := P_fresh) (fun _ _ _ _ _ _ us hl => match us, hl with | [_], _ => rfl),
    a_is_letter := f8, d_is_letter := _, F_is_letter := (fun_mk (st := s_is_letter) l8 c8 k8), m_is_letter := PySem.W.mg_of X G a8, B_is_letter := (fun_mk (st := s_is_letter) l8 c8 k8).binds (ps := P_is_letter) (fun _ _ _ _ _ _ us hl => match us, hl with | [_], _ => rfl),
    a_wrong_part := f9, d_wrong_part := _, F_wrong_part := (fun_mk (st := s_wrong_part) l9 c9 k9), m_wrong_part := PySem.W.mg_of X G a9, B_wrong_part := (fun_mk (st := s_wrong_part) l9 c9 k9).binds (ps := P_wrong_part) (fun _ _ _ _ _ _ us hl => match us, hl with | [_], _ => rfl),
    a_checked_kind := f10, d_checked_kind := _, F_checked_kind := (fun_mk (st := s_checked_kind) l10 c10 k10), m_checked_kind := PySem.W.mg_of X G a10, B_checked_kind := (fun_mk (st := s_checked_kind) l10 c10 k10).binds (ps := P_checked_kind) (fun _ _ _ _ _ _ us hl => match us, hl with | [_], _ => rfl),
    a_checked_word := f11, d_checked_word := _, F_checked_word := (fun_mk (st := s_checked_word) l11 c11 k11), m_checked_word := PySem.W.mg_of X G a11, B_checked_word := (fun_mk (st := s_checked_word) l11 c11 k11).binds (ps := P_checked_word) (fun _ _ _ _ _ _ us hl => match us, hl with | [_], _ => rfl),
    a_made_rule := f12, d_made_rule := _, F_made_rule := (fun_mk (st := s_made_rule) l12 c12 k12), m_made_rule := PySem.W.mg_of X G a12, B_made_rule := (fun_mk (st := s_made_rule) l12 c12 k12).binds (ps := P_made_rule) (fun _ _ _ _ _ _ us hl => match us, hl with | [_, _], _ => rfl),
    a_rule_of := f13, d_rule_of := _, F_rule_of := (fun_mk (st := s_rule_of) l13 c13 k13), m_rule_of := PySem.W.mg_of X G a13, B_rule_of := (fun_mk (st := s_rule_of) l13 c13 k13).binds (ps := P_rule_of) (fun _ _ _ _ _ _ us hl => match us, hl with | [_, _], _ => rfl),
    KR_rule_of := kb_rev (fun_mk (st := s_rule_of) l13 c13 k13) (fun _ _ _ _ _ _ us hl => match us, hl with | [_, _], _ => rfl),
    a_refused := f14, d_refused := _, F_refused := (fun_mk (st := s_refused) l14 c14 k14), m_refused := PySem.W.mg_of X G a14, B_refused := (fun_mk (st := s_refused) l14 c14 k14).binds (ps := P_refused) (fun _ _ _ _ _ _ us hl => match us, hl with | [_, _], _ => rfl),
    a_rule := f15, d_rule := _, F_rule := (fun_mk (st := s_rule) l15 c15 k15), m_rule := PySem.W.mg_of X G a15, B_rule := (fun_mk (st := s_rule) l15 c15 k15).binds (ps := P_rule) (fun _ _ _ _ _ _ us hl => match us, hl with | [_, _], _ => rfl),
    a_waits := f16, d_waits := _, F_waits := (fun_mk (st := s_waits) l16 c16 k16), m_waits := PySem.W.mg_of X G a16, B_waits := (fun_mk (st := s_waits) l16 c16 k16).binds (ps := P_waits) (fun _ _ _ _ _ _ us hl => match us, hl with | [_, _, _], _ => rfl),
    a_is_flat := f17, d_is_flat := _, F_is_flat := (fun_mk (st := s_is_flat) l17 c17 k17), m_is_flat := PySem.W.mg_of X G a17, B_is_flat := (fun_mk (st := s_is_flat) l17 c17 k17).binds (ps := P_is_flat) (fun _ _ _ _ _ _ us hl => match us, hl with | [_], _ => rfl),
    K_is_flat := kb_id (fun_mk (st := s_is_flat) l17 c17 k17) (fun _ _ _ _ _ _ us hl => match us, hl with | [_], _ => rfl),
    a_kind_of_rule := f18, d_kind_of_rule := _, F_kind_of_rule := (fun_mk (st := s_kind_of_rule) l18 c18 k18), m_kind_of_rule := PySem.W.mg_of X G a18, B_kind_of_rule := (fun_mk (st := s_kind_of_rule) l18 c18 k18).binds (ps := P_kind_of_rule) (fun _ _ _ _ _ _ us hl => match us, hl with | [_], _ => rfl),
    K_kind_of_rule := kb_id (fun_mk (st := s_kind_of_rule) l18 c18 k18) (fun _ _ _ _ _ _ us hl => match us, hl with | [_], _ => rfl),
    a_kind_right := f19, d_kind_right := _, F_kind_right := (fun_mk (st := s_kind_right) l19 c19 k19), m_kind_right := PySem.W.mg_of X G a19, B_kind_right := (fun_mk (st := s_kind_right) l19 c19 k19).binds (ps := P_kind_right) (fun _ _ _ _ _ _ us hl => match us, hl with | [_, _], _ => rfl),
    a_words := f20, d_words := _, F_words := (fun_mk (st := s_words) l20 c20 k20), m_words := PySem.W.mg_of X G a20, B_words := (fun_mk (st := s_words) l20 c20 k20).binds (ps := P_words) (fun _ _ _ _ _ _ us hl => match us, hl with | [_, _], _ => rfl),
    a_right := f21, d_right := _, F_right := (fun_mk (st := s_right) l21 c21 k21), m_right := PySem.W.mg_of X G a21, B_right := (fun_mk (st := s_right) l21 c21 k21).binds (ps := P_right) (fun _ _ _ _ _ _ us hl => match us, hl with | [_], _ => rfl),
    a_source := f22, d_source := _, F_source := (fun_mk (st := s_source) l22 c22 k22), m_source := PySem.W.mg_of X G a22, B_source := (fun_mk (st := s_source) l22 c22 k22).binds (ps := P_source) (fun _ _ _ _ _ _ us hl => match us, hl with | [_, _], _ => rfl),
    a_law := fa, d_law := _, F_law := (fun_mk (st := s_law) l23 c23 k23), m_law := PySem.W.mg_of X G a23, B_law := (fun_mk (st := s_law) l23 c23 k23).binds (ps := P_law) (fun _ _ _ _ _ _ us hl => match us, hl with | [_], _ => rfl),
    b_abs := PySem.W.mg_none_of X G z_abs,
    b_all := PySem.W.mg_none_of X G z_all,
    b_bool := PySem.W.mg_none_of X G z_bool,
    b_int := PySem.W.mg_none_of X G z_int,
    b_isinstance := PySem.W.mg_none_of X G z_isinstance,
    b_len := PySem.W.mg_none_of X G z_len,
    b_list := PySem.W.mg_none_of X G z_list,
    b_max := PySem.W.mg_none_of X G z_max,
    b_min := PySem.W.mg_none_of X G z_min,
    b_range := PySem.W.mg_none_of X G z_range,
    b_tuple := PySem.W.mg_none_of X G z_tuple,
    t_LETTERS_books := t_LETTERS_books, g_LETTERS_books := PySem.W.mg_of X G g_LETTERS_books,
    t_LETTERS_kinds := t_LETTERS_kinds, g_LETTERS_kinds := PySem.W.mg_of X G g_LETTERS_kinds,
    t_MOST_LETTERS := t_MOST_LETTERS, g_MOST_LETTERS := PySem.W.mg_of X G g_MOST_LETTERS,
    o_TURNS := o_TURNS, e_TURNS := e_TURNS, n_TURNS := n_TURNS, g_TURNS := PySem.W.mg_of X G g_TURNS, k_TURNS := ⟨⟨l_TURNS, i_TURNS, j_TURNS⟩, List.forall_mem_cons.mpr ⟨⟨_, v0_TURNS⟩, List.forall_mem_cons.mpr ⟨⟨_, v1_TURNS⟩, List.forall_mem_cons.mpr ⟨⟨_, v2_TURNS⟩, fun _ h => nomatch h⟩⟩⟩⟩,
    a_init := fI, d_init := _, F_init := (fun_mk (x := "__init__") (qual := "WaitError.__init__") (st := s_init) lI cI kI), B_init := (fun_mk (x := "__init__") (qual := "WaitError.__init__") (st := s_init) lI cI kI).binds (ps := P_init) (fun _ _ _ _ _ _ us hl => match us, hl with | [_, _], _ => rfl), b_ValueError := PySem.W.mg_none_of X G z_ValueError, vV := find_ve,
    c_InvalidKind := C_InvalidKind, E_InvalidKind := ⟨PySem.W.mg_of X G aC_InvalidKind, ⟨⟨nm_InvalidKind, q_InvalidKind, N_InvalidKind, bs_InvalidKind, bm_InvalidKind, sn_InvalidKind, sub_InvalidKind, ab_InvalidKind, col_InvalidKind, dd_InvalidKind, k0_InvalidKind, k1_InvalidKind, k2_InvalidKind, k3_InvalidKind, k5_InvalidKind, xL_InvalidKind, vb_InvalidKind⟩, sa_InvalidKind, eC_InvalidKind, tC_InvalidKind, kC_InvalidKind⟩, nv_InvalidKind, i_InvalidKind, tI⟩, x_InvalidKind := ⟨ga_InvalidKind, gg_InvalidKind, eC_InvalidKind, hC_InvalidKind⟩,
    c_InvalidWord := C_InvalidWord, E_InvalidWord := ⟨PySem.W.mg_of X G aC_InvalidWord, ⟨⟨nm_InvalidWord, q_InvalidWord, N_InvalidWord, bs_InvalidWord, bm_InvalidWord, sn_InvalidWord, sub_InvalidWord, ab_InvalidWord, col_InvalidWord, dd_InvalidWord, k0_InvalidWord, k1_InvalidWord, k2_InvalidWord, k3_InvalidWord, k5_InvalidWord, xL_InvalidWord, vb_InvalidWord⟩, sa_InvalidWord, eC_InvalidWord, tC_InvalidWord, kC_InvalidWord⟩, nv_InvalidWord, i_InvalidWord, tI⟩, x_InvalidWord := ⟨ga_InvalidWord, gg_InvalidWord, eC_InvalidWord, hC_InvalidWord⟩,
    c_NotFlat := C_NotFlat, E_NotFlat := ⟨PySem.W.mg_of X G aC_NotFlat, ⟨⟨nm_NotFlat, q_NotFlat, N_NotFlat, bs_NotFlat, bm_NotFlat, sn_NotFlat, sub_NotFlat, ab_NotFlat, col_NotFlat, dd_NotFlat, k0_NotFlat, k1_NotFlat, k2_NotFlat, k3_NotFlat, k5_NotFlat, xL_NotFlat, vb_NotFlat⟩, sa_NotFlat, eC_NotFlat, tC_NotFlat, kC_NotFlat⟩, nv_NotFlat, i_NotFlat, tI⟩, x_NotFlat := ⟨ga_NotFlat, gg_NotFlat, eC_NotFlat, hC_NotFlat⟩,
    m_InvalidKind_NotFlat := exm_of eC_NotFlat iC_NotFlat tC_NotFlat s_InvalidKind_NotFlat,
    m_InvalidWord_NotFlat := exm_of eC_NotFlat iC_NotFlat tC_NotFlat s_InvalidWord_NotFlat,
    m_NotFlat_NotFlat := exm_of eC_NotFlat iC_NotFlat tC_NotFlat s_NotFlat_NotFlat }
  exact ⟨T.d_law, fun s v => .of_eq rfl, fun base _ _ => (ok_law (P := P) (base := base) T).imp fun vs H Q E h => spLaw_of Lw.law_ok h⟩
end Nk26
open PySem PySem.W PyProof.Rows L2
set_option maxRecDepth 100000 in
set_option maxHeartbeats 0 in
theorem PySem.Challenge.cw_waitwords_k26_rules_of_flat_kinds_holds : PySem.Challenge.rw_waitwords_k26_rules_of_flat_kinds.Holds := by
  w_on; o_law; k_head; (case hw => w_witness2)
  k_fill
  refine L2.walk_ofK (l := PySem.Challenge.rw_waitwords_k26_rules_of_flat_kinds) (n := 63) (k := 37) (x := "_law_script") (CX := CX0) (sp := Vs.spLaw) rfl (by decide) rfl ⟨rfl, by decide, by decide⟩ (fun w h Y => PySem.W.kIn_of Y) ?F (fun _ _ a ns hl _ hS => ⟨a, ns, rfl, hS, hl, fun _ => rfl⟩) fun _ _ _ _ z => z
  case F =>
    intro w mg fa h KX G hmg
    refine' Nk26.all_mk KX G hmg ?a0 ?l0 ?c0 ?k0 ?a1 ?l1 ?c1 ?k1 ?a2 ?l2 ?c2 ?k2 ?a3 ?l3 ?c3 ?k3 ?a4 ?l4 ?c4 ?k4 ?a5 ?l5 ?c5 ?k5 ?a6 ?l6 ?c6 ?k6 ?a7 ?l7 ?c7 ?k7 ?a8 ?l8 ?c8 ?k8 ?a9 ?l9 ?c9 ?k9 ?a10 ?l10 ?c10 ?k10 ?a11 ?l11 ?c11 ?k11 ?a12 ?l12 ?c12 ?k12 ?a13 ?l13 ?c13 ?k13 ?a14 ?l14 ?c14 ?k14 ?a15 ?l15 ?c15 ?k15 ?a16 ?l16 ?c16 ?k16 ?a17 ?l17 ?c17 ?k17 ?a18 ?l18 ?c18 ?k18 ?a19 ?l19 ?c19 ?k19 ?a20 ?l20 ?c20 ?k20 ?a21 ?l21 ?c21 ?k21 ?a22 ?l22 ?c22 ?k22 ?a23 ?l23 ?c23 ?k23 ?z_abs ?z_all ?z_bool ?z_int ?z_isinstance ?z_len ?z_list ?z_max ?z_min ?z_range ?z_tuple ?g_LETTERS_books ?g_LETTERS_kinds ?g_MOST_LETTERS ?g_TURNS ?l_TURNS ?i_TURNS ?j_TURNS ?v0_TURNS ?v1_TURNS ?v2_TURNS ?aC_InvalidKind ?xL_InvalidKind ?vb_InvalidKind ?sa_InvalidKind ?ga_InvalidKind ?gg_InvalidKind ?nv_InvalidKind ?i_InvalidKind ?kC_InvalidKind ?eC_InvalidKind ?tC_InvalidKind ?hC_InvalidKind ?iC_InvalidKind ?lI ?cI ?kI ?tI ?z_ValueError ?aC_InvalidWord ?xL_InvalidWord ?vb_InvalidWord ?sa_InvalidWord ?ga_InvalidWord ?gg_InvalidWord ?nv_InvalidWord ?i_InvalidWord ?kC_InvalidWord ?eC_InvalidWord ?tC_InvalidWord ?hC_InvalidWord ?iC_InvalidWord ?aC_NotFlat ?xL_NotFlat ?vb_NotFlat ?sa_NotFlat ?ga_NotFlat ?gg_NotFlat ?nv_NotFlat ?i_NotFlat ?kC_NotFlat ?eC_NotFlat ?tC_NotFlat ?hC_NotFlat ?iC_NotFlat ?s_InvalidKind_NotFlat ?s_InvalidWord_NotFlat ?s_NotFlat_NotFlat
    (case a0 => k_is); (case l0 => k_is); (case c0 => k_is); (case k0 => k_is)
    (case a1 => k_is); (case l1 => k_is); (case c1 => k_is); (case k1 => k_is)
    (case a2 => k_is); (case l2 => k_is); (case c2 => k_is); (case k2 => k_is)
    (case a3 => k_is); (case l3 => k_is); (case c3 => k_is); (case k3 => k_is)
    (case a4 => k_is); (case l4 => k_is); (case c4 => k_is); (case k4 => k_is)
    (case a5 => k_is); (case l5 => k_is); (case c5 => k_is); (case k5 => k_is)
    (case a6 => k_is); (case l6 => k_is); (case c6 => k_is); (case k6 => k_is)
    (case a7 => k_is); (case l7 => k_is); (case c7 => k_is); (case k7 => k_is)
    (case a8 => k_is); (case l8 => k_is); (case c8 => k_is); (case k8 => k_is)
    (case a9 => k_is); (case l9 => k_is); (case c9 => k_is); (case k9 => k_is)
    (case a10 => k_is); (case l10 => k_is); (case c10 => k_is); (case k10 => k_is)
    (case a11 => k_is); (case l11 => k_is); (case c11 => k_is); (case k11 => k_is)
    (case a12 => k_is); (case l12 => k_is); (case c12 => k_is); (case k12 => k_is)
    (case a13 => k_is); (case l13 => k_is); (case c13 => k_is); (case k13 => k_is)
    (case a14 => k_is); (case l14 => k_is); (case c14 => k_is); (case k14 => k_is)
    (case a15 => k_is); (case l15 => k_is); (case c15 => k_is); (case k15 => k_is)
    (case a16 => k_is); (case l16 => k_is); (case c16 => k_is); (case k16 => k_is)
    (case a17 => k_is); (case l17 => k_is); (case c17 => k_is); (case k17 => k_is)
    (case a18 => k_is); (case l18 => k_is); (case c18 => k_is); (case k18 => k_is)
    (case a19 => k_is); (case l19 => k_is); (case c19 => k_is); (case k19 => k_is)
    (case a20 => k_is); (case l20 => k_is); (case c20 => k_is); (case k20 => k_is)
    (case a21 => k_is); (case l21 => k_is); (case c21 => k_is); (case k21 => k_is)
    (case a22 => k_is); (case l22 => k_is); (case c22 => k_is); (case k22 => k_is)
    (case a23 => k_is); (case l23 => k_is); (case c23 => k_is); (case k23 => k_is)
    (case z_abs => k_is); (case z_all => k_is); (case z_bool => k_is); (case z_int => k_is)
    (case z_isinstance => k_is); (case z_len => k_is); (case z_list => k_is); (case z_max => k_is)
    (case z_min => k_is); (case z_range => k_is); (case z_tuple => k_is); (case g_LETTERS_books => k_is)
    (case g_LETTERS_kinds => k_is); (case g_MOST_LETTERS => k_is); (case g_TURNS => k_is); (case l_TURNS => k_is)
    (case i_TURNS => exact ⟨⟨_, _, rfl, rfl⟩, ⟨_, _, rfl, rfl⟩, ⟨_, _, rfl, rfl⟩, trivial⟩); (case j_TURNS => decide +kernel); (case v0_TURNS => k_is); (case v1_TURNS => k_is)
    (case v2_TURNS => k_is); (case aC_InvalidKind => k_is); (case xL_InvalidKind => k_is); (case vb_InvalidKind => decide +kernel)
    (case sa_InvalidKind => k_is); (case ga_InvalidKind => k_is); (case gg_InvalidKind => k_is); (case nv_InvalidKind => k_is)
    (case i_InvalidKind => k_is); (case kC_InvalidKind => k_is); (case eC_InvalidKind => k_is); (case tC_InvalidKind => k_is)
    (case hC_InvalidKind => k_is); (case iC_InvalidKind => k_is); (case lI => k_is); (case cI => k_is)
    (case kI => k_is); (case tI => k_is); (case z_ValueError => k_is); (case aC_InvalidWord => k_is)
    (case xL_InvalidWord => k_is); (case vb_InvalidWord => decide +kernel); (case sa_InvalidWord => k_is); (case ga_InvalidWord => k_is)
    (case gg_InvalidWord => k_is); (case nv_InvalidWord => k_is); (case i_InvalidWord => k_is); (case kC_InvalidWord => k_is)
    (case eC_InvalidWord => k_is); (case tC_InvalidWord => k_is); (case hC_InvalidWord => k_is); (case iC_InvalidWord => k_is)
    (case aC_NotFlat => k_is); (case xL_NotFlat => k_is); (case vb_NotFlat => decide +kernel); (case sa_NotFlat => k_is)
    (case ga_NotFlat => k_is); (case gg_NotFlat => k_is); (case nv_NotFlat => k_is); (case i_NotFlat => k_is)
    (case kC_NotFlat => k_is); (case eC_NotFlat => k_is); (case tC_NotFlat => k_is); (case hC_NotFlat => k_is)
    (case iC_NotFlat => k_is); (case s_InvalidKind_NotFlat => first | rfl | k_is); (case s_InvalidWord_NotFlat => first | rfl | k_is); (case s_NotFlat_NotFlat => first | rfl | k_is)

