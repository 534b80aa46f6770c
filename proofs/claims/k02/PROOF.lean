import PyProof.Rows.All
import Wide.All
import OpenK.AllK
import Wide.FinOn
import HandS.ForMost
import HandS.Wide
import HandS.IsInst
import HandS.Zip
import HandS.SetTxt0
import HandS.Strs
import HandS.Style
import HandS.Evl
import PyProof.Rows.SortStr
import PyProof.Rows.SetFrom
import HandS.SetFor
import KE.KxText
import HandS.Dict
import HandS.More
import PySem.Challenge.RW_waitwords_k02_whole_turned_kinds
set_option Elab.async false
set_option linter.all false
set_option maxRecDepth 100000
set_option maxHeartbeats 4000000
namespace Ww
open PySem PySem.Spec PyProof.Rows L2

/-! ### calls by keywords alone -/
/-- how the keywords' values come to the parameters -/
structure KB0 (K : PySem.W.Frag) (fd : FuncData) (ps ks : List Str) (g : List Value → List Value) (gV : List V → List V) : Prop where
  to : ∀ (s : Shared) (ws : List Value), ws.length = ks.length → BindsTo s fd ⟨[], ks.zip ws⟩ (ps.zip (g ws))
  rel : ∀ {zs : List V} {ws : List Value}, Vals zs ws → Vals (gV zs) (g ws)
section
variable {X : Cx} {CX : CXT} {k : Nat} {f : Addr} {fd : FuncData} {ps ks : List Str} {sp : Sp} {E : XK} {x : Str} {p pos : Pos} {kws : List Keyword} {tk : TA} {g : List Value → List Value} {gV : List V → List V}
def tCallQ (n : Nat) (sp : Sp) (gV : List V → List V) (E : XK) (tk : TA) : TE := fun σ H Q => tk σ H fun zs H2 => zs.length = n ∧ sp (gV zs) H2 Q E
theorem pe_callQ (F : FnOk X.prog X.w X.K X.mg X.base CX k f fd ps sp) (hr : Room k X.A) (hg : Gl X x) (hm : X.mg x = some (.ref f)) (hk : PySem.W.keepIn X.K (.ref f) = true) (hb : KB0 X.K fd ps ks g gV) (hx : Passes CX X E)
    (hkw : PK X kws tk) (hall : (backToKw pos (keywordEach kws X.env)).all (·.1.isSome) = true := by rfl) (hks : (backToKw pos (keywordEach kws X.env)).filterMap (·.1) = ks := by rfl)
    (hdb : (x == ("__debug__" : Str)) = false := by decide)
    (hpl : ((backTo pos (starEach [] X.env)).any (·.1) || (backToKw pos (keywordEach kws X.env)).any (·.1.isNone)) = false := by rfl) :
    PE X (.Call (.Name x p) [] kws pos) (tCallQ ks.length sp gV E tk) := by
  refine ⟨fun pins s σ H Q I h => ?_⟩
  refine wpAny_Call_Name_kw (ld_glob I hg hm ?_ hdb)
  refine PySem.W.callWith_KW0 (h₀ := X.base) I.ok.mod.kin hk hall (thn (hkw.run pos pins s σ H _ I h) fun ws s2 ⟨zs, H2, I2, rz, hl, q2⟩ => ⟨I2.kIn, ?_⟩) hpl
  rw [hks]
  refine wpAny_call (codeAny_mono (F.run X.A X.stack s2 H2 ⟨[], ks.zip ws⟩ (g ws) (gV zs) Q E hr I2.env0 (hb.to s2 ws (rz.length.symm.trans hl)) (hb.rel rz) q2) fun r s' hq => ?_)
  match r, hq with
  | .error e, hq => exact hx pins σ H2 s2 e s' I2 hq
  | .ok (.ret u), hq => exact I2.after hq
  | .ok .next, hq => exact hq.elim
  | .ok .brk, hq => exact hq.elim
  | .ok .cont, hq => exact hq.elim
/-- one keyword, the def's one parameter -/
theorem kb_one {K : PySem.W.Frag} {x qual y : Str} {st : Stmt} {f : Addr} {fd : FuncData} (F : Fun K x qual st f fd)
    (h : ∀ (kV doc pm : Value) (an : Option Addr) (cdv ct u : Value), bindArgs (PySem.W.fnOf x qual (defArgs st) (defBody st) (defScope st) .none kV doc pm an cdv ct) ⟨[], [(y, u)]⟩ = pure [(y, u)]) :
    KB0 K fd [y] [y] (fun ws => ws) (fun zs => zs) := by
  obtain ⟨oc, od, kV, doc, pm, an, cdv, ct, osl, rfl, lk, hcd⟩ := F.ex
  refine ⟨fun s ws hl => ?_, fun r => r⟩
  match ws, hl with
  | [u], _ => exact .of_eq (h kV doc pm an cdv ct u)
end

/-! ### heaps -/
theorem same_new {H : Hp} {p : Addr} (h : H p = none) (o : HO) : Same H (upd H p o) := fun b u q => by
  rw [upd_ne (ne_of_none q h)]
  exact q
theorem Same.at {H H' : Hp} {a : Addr} {o : HO} (e : Same H H') (h : H a = some o) : H' a = some o := e a o h
/-- the tuples stand -/
def Tps (H H' : Hp) : Prop := ∀ b xs, H b = some (.tup xs) → H' b = some (.tup xs)
theorem Tps.refl (H : Hp) : Tps H H := fun _ _ h => h
theorem Tps.trans {H H1 H2 : Hp} (a : Tps H H1) (b : Tps H1 H2) : Tps H H2 := fun c o h => b c o (a c o h)
theorem Tps.of {H H' : Hp} (e : Same H H') : Tps H H' := fun b xs h => e b _ h
theorem Tps.lst {H : Hp} {a : Addr} {xs : List V} {o : HO} (h : H a = some (.lst xs)) : Tps H (upd H a o) := fun b ys q => by
  rw [upd_ne (ne_of q h (fun z => by cases z))]
  exact q
theorem Tps.new {H : Hp} {a : Addr} {o : HO} (h : H a = none) : Tps H (upd H a o) := .of (same_new h o)
/-- all but a stands -/
def But (a : Addr) (H H' : Hp) : Prop := ∀ b o, b ≠ a → H b = some o → H' b = some o
theorem But.refl (a : Addr) (H : Hp) : But a H H := fun _ _ _ h => h
theorem But.trans {a : Addr} {H H1 H2 : Hp} (x : But a H H1) (y : But a H1 H2) : But a H H2 := fun c o n h => y c o n (x c o n h)
theorem But.of {a : Addr} {H H' : Hp} (e : Same H H') : But a H H' := fun b o _ h => e b o h
theorem But.upd {a : Addr} {H : Hp} {o : HO} : But a H (upd H a o) := fun b u n h => by
  rw [upd_ne n]
  exact h
theorem But.new {a p : Addr} {H : Hp} {o : HO} (h : H p = none) : But a H (L2.upd H p o) := .of (same_new h o)
theorem But.tps {a : Addr} {H H' : Hp} {xs : List V} (e : But a H H') (h : H a = some (.lst xs)) : Tps H H' := fun b ys q => e b _ (ne_of q h (fun z => by cases z)) q
/-- what H does not know is not told of H' either, if H' is behind it: backwards -/
theorem free_of {H H' : Hp} (e : Same H H') {l : Addr} (h : H' l = none) : H l = none := e.free h

/-! ### kinds -/
inductive Kd where
  | pl (s : Str)
  | nd (f : Str) (a b : Kd)
def KAt (H : Hp) : V → Kd → Prop
  | v, .pl s => ∃ p, v = .ref p ∧ H p = some (.tup [.str "plain", .str s])
  | v, .nd f a b => ∃ p x y, v = .ref p ∧ H p = some (.tup [.str f, x, y]) ∧ KAt H x a ∧ KAt H y b
theorem KAt.mono {H H' : Hp} (e : Tps H H') : ∀ {k : Kd} {v : V}, KAt H v k → KAt H' v k
  | .pl _, _, ⟨p, q, h⟩ => ⟨p, q, e _ _ h⟩
  | .nd _ _ _, _, ⟨p, x, y, q, h, h1, h2⟩ => ⟨p, x, y, q, e _ _ h, KAt.mono e h1, KAt.mono e h2⟩
/-- a letter from a to z -/
def Let (s : Str) : Prop := ∃ c : Nat, s = ⟨#[c]⟩ ∧ 97 ≤ c ∧ c ≤ 122
def Form (f : Str) : Prop := f = "behind" ∨ f = "ahead" ∨ f = "with"
def Kd.ok : Kd → Prop
  | .pl s => Let s
  | .nd f a b => Form f ∧ a.ok ∧ b.ok
def Kd.deep : Kd → Nat
  | .pl _ => 1
  | .nd _ a b => 1 + max a.deep b.deep
def Kd.letters : Kd → List Str
  | .pl s => [s]
  | .nd _ a b => a.letters ++ b.letters
def Kd.single : Kd → Bool
  | .pl _ => true
  | .nd f a b => !decide (f = "with") && (a.single && b.single)
theorem Kd.deep_pos : ∀ k : Kd, 1 ≤ k.deep
  | .pl _ => Nat.le_refl 1
  | .nd _ a b => by show 1 ≤ 1 + max a.deep b.deep; omega
theorem Kd.letters_pos : ∀ k : Kd, 1 ≤ k.letters.length
  | .pl _ => Nat.le_refl 1
  | .nd _ a b => by
    show 1 ≤ (a.letters ++ b.letters).length
    have := Kd.letters_pos a
    rw [List.length_append]
    omega
/-- as data -/
def Kd.dat : Kd → PyData
  | .pl s => .tuple [.str "plain", .str s]
  | .nd f a b => .tuple [.str f, a.dat, b.dat]
theorem KAt.dp {K : PySem.W.Frag} {H : Hp} : ∀ {k : Kd} {v : V}, KAt H v k → Dp K H v k.dat
  | .pl _, _, ⟨p, q, h⟩ => by
    subst q
    exact .tup (SqT.of h) (.cons (.str _) (.cons (.str _) .nil))
  | .nd _ _ _, _, ⟨p, x, y, q, h, h1, h2⟩ => by
    subst q
    exact .tup (SqT.of h) (.cons (.str _) (.cons h1.dp (.cons h2.dp .nil)))

/-! ### data -/
mutual
theorem dp_same {K : PySem.W.Frag} {H H' : Hp} (e : Same H H') : ∀ {d : PyData} {v : V}, Dp K H v d → Dp K H' v d
  | .none, _, h => by
    cases h
    exact .non
  | .bool _, _, h => by
    cases h
    exact .bl _
  | .int _, _, h => by
    cases h
    exact .int _
  | .str _, _, h => by
    cases h
    exact .str _
  | .list _, _, h => by
    cases h with
    | lst hs ha => exact .lst (e.seq hs) (dps_same e ha)
  | .tuple _, _, h => by
    cases h with
    | tup hs ha => exact .tup (Evl.ex_t e hs) (dps_same e ha)
  | .dict _, _, h => by cases h
theorem dps_same {K : PySem.W.Frag} {H H' : Hp} (e : Same H H') : ∀ {ds : List PyData} {vs : List V}, DpAll K H vs ds → DpAll K H' vs ds
  | [], _, h => by
    cases h
    exact .nil
  | _ :: _, _, h => by
    cases h with
    | cons h1 h2 => exact .cons (dp_same e h1) (dps_same e h2)
end
end Ww

namespace Ww
open PySem PySem.Spec PyProof.Rows L2 PySem.Froz

/-! ### texts in strict order -/
/-- a is xs without doubles, ascending -/
structure Srt (xs a : List Str) : Prop where
  up : a.Pairwise fun x y => x.cps.toList < y.cps.toList
  mem : ∀ k, k ∈ a ↔ k ∈ xs
theorem str_ext {x y : Str} (h : x.cps.toList = y.cps.toList) : x = y := by
  cases x with
  | mk a =>
    cases y with
    | mk b =>
      have e : a = b := Array.ext' h
      rw [e]
theorem up_unique {α : Type} {R : α → α → Prop} (irr : ∀ x, ¬ R x x) (asy : ∀ x y, R x y → ¬ R y x) : ∀ {a b : List α}, a.Pairwise R → b.Pairwise R → (∀ k, k ∈ a ↔ k ∈ b) → a = b
  | [], [], _, _, _ => rfl
  | [], y :: b, _, _, m => absurd ((m y).2 List.mem_cons_self) (by simp)
  | x :: a, [], _, _, m => absurd ((m x).1 List.mem_cons_self) (by simp)
  | x :: a, y :: b, ha, hb, m => by
    obtain ⟨a1, a2⟩ := List.pairwise_cons.mp ha
    obtain ⟨b1, b2⟩ := List.pairwise_cons.mp hb
    have e : x = y := by
      rcases List.mem_cons.mp ((m x).1 List.mem_cons_self) with e | hx
      · exact e
      · rcases List.mem_cons.mp ((m y).2 List.mem_cons_self) with e | hy
        · exact e.symm
        · exact absurd (a1 y hy) (asy _ _ (b1 x hx))
    subst e
    congr 1
    refine up_unique irr asy a2 b2 fun k => ⟨fun hk => ?_, fun hk => ?_⟩
    · rcases List.mem_cons.mp ((m k).1 (List.mem_cons_of_mem _ hk)) with e | h
      · subst e
        exact absurd (a1 _ hk) (irr _)
      · exact h
    · rcases List.mem_cons.mp ((m k).2 (List.mem_cons_of_mem _ hk)) with e | h
      · subst e
        exact absurd (b1 _ hk) (irr _)
      · exact h
theorem lt_irr (x : List Nat) : ¬ x < x := List.lt_irrefl x
theorem Srt.eq {xs a b : List Str} (h : Srt xs a) (k : Srt xs b) : a = b :=
  up_unique (R := fun x y : Str => x.cps.toList < y.cps.toList) (fun x => lt_irr _) (fun x y h1 h2 => List.lt_asymm h1 h2) h.up k.up fun z => (h.mem z).trans (k.mem z).symm
theorem Srt.same {xs ys a : List Str} (h : Srt xs a) (e : ∀ k, k ∈ xs ↔ k ∈ ys) : Srt ys a := ⟨h.up, fun k => (h.mem k).trans (e k)⟩
theorem Srt.nodup {xs a : List Str} (h : Srt xs a) : a.Nodup := h.up.imp fun {x y} q e => by
  subst e
  exact lt_irr _ q
theorem rises {p : Str} : ∀ {l : List Str}, risingS p l = true → (p :: l).Pairwise fun x y => ¬ y.cps.toList < x.cps.toList
  | [], _ => List.pairwise_singleton _ _
  | x :: r, h => by
    unfold risingS at h
    rw [Bool.and_eq_true] at h
    have h1 : ¬ x.cps.toList < p.cps.toList := by
      have z := h.1
      rw [ltCps_eq] at z
      simpa using z
    have ih := rises h.2
    refine List.pairwise_cons.mpr ⟨fun y hy => ?_, ih⟩
    rcases List.mem_cons.mp hy with e | hy
    · subst e
      exact h1
    · have h2 := (List.pairwise_cons.mp ih).1 y hy
      exact List.not_lt.mpr (List.le_trans (List.not_lt.mp h1) (List.not_lt.mp h2))
theorem srt_of {xs a : List Str} (hs : sortedS a = true) (nd : a.Nodup) (m : ∀ k, k ∈ a ↔ k ∈ xs) : Srt xs a := by
  refine ⟨?_, m⟩
  have h : a.Pairwise fun x y => ¬ y.cps.toList < x.cps.toList := by
    cases a with
    | nil => exact List.Pairwise.nil
    | cons p l => exact rises hs
  refine (List.pairwise_iff_getElem.mpr fun i j hi hj hij => ?_)
  have h1 := List.pairwise_iff_getElem.mp h i j hi hj hij
  have h2 : a[i] ≠ a[j] := List.pairwise_iff_getElem.mp nd i j hi hj hij
  rcases Decidable.em (a[i].cps.toList < a[j].cps.toList) with z | z
  · exact z
  · exact absurd (str_ext (List.le_antisymm (List.not_lt.mp h1) (List.not_lt.mp z))) h2

/-! ### a set of texts -/
/-- the set at a holds the texts l (each once, in some order); it can be walked -/
def SetS (P : Program) (w : World) (h : Heap) (a : Addr) (l : List Str) : Prop :=
  ∃ D : SD, h.get? a = some (sObj "set" D) ∧ TxOk P w D l ∧ l.Nodup ∧ Ris D.2.2.place.toList ∧ (w.params.followText "set-order" = true ∨ D.2.2.led = true)
section
variable {P : Program} {w : World} {h h' : Heap} {a : Addr} {l : List Str}
theorem SetS.at (R : SetS P w h a l) (k : ∀ o, h.get? a = some o → h'.get? a = some o) : SetS P w h' a l := by
  obtain ⟨D, ho, r⟩ := R
  exact ⟨D, k _ ho, r⟩
theorem SetS.lt (R : SetS P w h a l) : a < h.objs.size := by
  obtain ⟨D, ho, _⟩ := R
  exact Heap.lt_size ho
theorem fresh_ris (led : Bool) : Ris (SetTable.fresh 0 0 led).place.toList := List.Pairwise.nil
theorem tail_ris {ep : Nat} {es : Array (Int × Value)} {t : SetTable} {d : Bool} (r : Ris t.place.toList) : Ris (tailTx ep es t d).2.2.place.toList := by
  unfold tailTx
  split
  · exact relayAll_ris _ _ _
  · exact r
theorem tail_led {ep : Nat} {es : Array (Int × Value)} {t : SetTable} {d : Bool} : (tailTx ep es t d).2.2.led = t.led := by
  unfold tailTx
  split
  · exact relayAll_led _ _ _
  · rfl
theorem off_ris {t : SetTable} (r : Ris t.place.toList) : Ris (if t.plain = true then { t with plain := false } else t).place.toList := by
  split <;> exact r
theorem off_led {t : SetTable} : (if t.plain = true then { t with plain := false } else t).led = t.led := by
  split <;> rfl
theorem add_ris {D : SD} {hs : Int} {v : Value} (r : Ris D.2.2.place.toList) : Ris (addTx hs v D).2.2.place.toList :=
  tail_ris (off_ris (layNew_ris D.2.2 D.1 hs v r))
theorem add_led {D : SD} {hs : Int} {v : Value} : (addTx hs v D).2.2.led = D.2.2.led :=
  tail_led.trans (off_led.trans (layNew_led D.2.2 D.1 hs v))
end
section
variable {P : Program} {w : World} {A : Around} {E : Value → Shared → Prop} {s : Shared} {a : Addr} {l : List Str}
/-- a text that the set holds, added once more -/
theorem add_old {D : SD} {k : Str} {u : Tok} {Q : Bool → Shared → Prop} (ho : s.heap.get? a = some (sObj "set" D)) (F : TxOk P w D l) (hk : k ∈ l) (hb : l.length < scanBound) (h : Q false s) :
    wpAny (model P w) A (setAddHashed a (.str k u) (hashStr w k)) Q E s := by
  obtain ⟨es, ep, t⟩ := D
  have hd : (sObj "set" (es, ep, t)).data = .set es ep t := rfl
  have hf : t.fits es.size = true := F.fit
  have hel : ElemsOf (strKind P w) es.toList := F.el
  have hb0 : es.size < scanBound := by
    have := F.sz
    simp only at this
    omega
  have hkey : (strKind P w).is k (.str k u) = true := is_str k u
  unfold setAddHashed setAddHashedIn
  refine wpAny_holding (wpAny_bind (wpAny_setState_of ho hd hf ?_))
  dsimp only
  rw [byScan_of rfl hb0 hel]
  simp only [↓reduceIte]
  unfold setAddByScan
  refine wpAny_bind (wpAny_bind (wpAny_rule (wpAny_bind (wpAny_setScan_of (knd := strKind P w) (k := k) hkey ho hd hf hel ?_))))
  cases hfi : List.findIdx? (fun e => (strKind P w).is k e.2) es.toList with
  | some j =>
    dsimp only
    exact wpAny_pure (wpAny_pure h)
  | none =>
    obtain ⟨e, he, q⟩ := (F.mem k).mp hk
    have c := List.findIdx?_eq_none_iff.mp hfi e he
    rw [q] at c
    cases c
theorem setS_add {k : Str} {u : Tok} {Q : Bool → Shared → Prop} (R : SetS P w s.heap a l) (hb : l.length + 1 < scanBound)
    (h : ∀ (h' : Heap) (b : Bool), Heap.SameBut a s.heap h' → SetS P w h' a (if k ∈ l then l else k :: l) → Q b { s with heap := h' }) :
    wpAny (model P w) A (setAddHashed a (.str k u) (hashStr w k)) Q E s := by
  obtain ⟨D, ho, F, nd, r, hl⟩ := R
  by_cases hk : k ∈ l
  · refine add_old ho F hk (by omega) ?_
    have q := h s.heap false (Heap.SameBut.refl a s.heap)
    rw [if_pos hk] at q
    exact q ⟨D, ho, F, nd, r, hl⟩
  · refine add_x ho F hk hb ?_
    have q := h _ true (Heap.SameBut.update s.heap a (fun _ => sObj "set" (addTx (hashStr w k) (.str k u) D)))
    rw [if_neg hk] at q
    exact q ⟨_, get_upd _ ho rfl, add_ok u F, List.nodup_cons.mpr ⟨hk, nd⟩, add_ris r, hl.imp id fun z => by rw [add_led]; exact z⟩
end
/-- what set(xs) holds -/
def dedup : List Str → List Str → List Str
  | l, [] => l
  | l, k :: r => dedup (if k ∈ l then l else k :: l) r
theorem mem_dedup : ∀ (xs l : List Str) (k : Str), k ∈ dedup l xs ↔ k ∈ l ∨ k ∈ xs
  | [], l, k => by simp [dedup]
  | x :: r, l, k => by
    unfold dedup
    rw [mem_dedup r]
    by_cases hx : x ∈ l
    · rw [if_pos hx, List.mem_cons]
      constructor
      · rintro (z | z)
        · exact .inl z
        · exact .inr (.inr z)
      · rintro (z | z | z)
        · exact .inl z
        · exact .inl (z ▸ hx)
        · exact .inr z
    · rw [if_neg hx, List.mem_cons, List.mem_cons]
      constructor
      · rintro ((z | z) | z)
        · exact .inr (.inl z)
        · exact .inl z
        · exact .inr (.inr z)
      · rintro (z | z | z)
        · exact .inl (.inr z)
        · exact .inl (.inl z)
        · exact .inr z
theorem dedup_len : ∀ (xs l : List Str), (dedup l xs).length ≤ l.length + xs.length
  | [], l => Nat.le_refl _
  | x :: r, l => by
    unfold dedup
    have h := dedup_len r (if x ∈ l then l else x :: l)
    have h2 : (if x ∈ l then l else x :: l).length ≤ l.length + 1 := by split <;> simp
    rw [List.length_cons]
    omega
theorem dedup_more (xs : List Str) : ∀ (l : List Str) (i : Nat) (x : Str), xs[i]? = some x → dedup l (xs.take (i + 1)) = (if x ∈ dedup l (xs.take i) then dedup l (xs.take i) else x :: dedup l (xs.take i)) := by
  induction xs with
  | nil => intro l i x h; simp at h
  | cons y r ih =>
    intro l i x h
    cases i with
    | zero =>
      have e : y = x := by simpa using h
      subst e
      rfl
    | succ i =>
      have h' : r[i]? = some x := by simpa using h
      show dedup (if y ∈ l then l else y :: l) (r.take (i + 1)) = _
      rw [ih _ i x h']
      rfl
end Ww

namespace Ww
open PySem PySem.Spec PyProof.Rows L2 PySem.Froz
theorem strs_ix : ∀ {us : List Value} {xs : List Str}, StrsAre us xs → ∀ (i : Nat) (v : Value), us[i]? = some v → ∃ k t, xs[i]? = some k ∧ v = .str k t
  | _, _, .nil, i, v, h => by simp at h
  | _, _, .cons y t _, 0, v, h => ⟨y, t, rfl, by simpa using h.symm⟩
  | _, _, .cons _ _ hr, i + 1, v, h => by
    obtain ⟨k, t, a, b⟩ := strs_ix hr i v (by simpa using h)
    exact ⟨k, t, by simpa using a, b⟩
theorem strs_len {us : List Value} {xs : List Str} (h : StrsAre us xs) : us.length = xs.length := by
  induction h with
  | nil => rfl
  | cons y t _ ih => rw [List.length_cons, List.length_cons, ih]
section
variable {P : Program} {w : World} {A : Around} {E : Value → Shared → Prop} {s : Shared}
theorem loop_strs {I : Addr} {fp wr : List Addr} {G : Array GenState → Array GenState → Prop} {n : Nat} {Pv : Nat → Value → Prop} {St : Nat → Shared → Prop} {R : Result → Shared → Prop}
    (W : WalksS P w A.in1 I fp wr G n Pv St) (S : Addr) (hf : S ∉ fp) (xs : List Str) (hn : n = xs.length) (hb : xs.length + 1 < scanBound)
    (hv : ∀ i v, Pv i v → ∃ k t, xs[i]? = some k ∧ v = .str k t) : ∀ (m i : Nat) (s : Shared), n - i = m → i ≤ n → St i s → SetS P w s.heap S (dedup [] (xs.take i)) →
      (∀ s', Moved (S :: wr) G s s' → SetS P w s'.heap S (dedup [] xs) → R (.ok (.ret .none)) s') →
      codeAny (model P w) A (.builtin "set.update.loop" ⟨[.ref S, .ref I], []⟩) R s := by
  have nw : S ∉ wr := fun z => hf (W.sub _ z)
  have up : ∀ b ∈ wr, b ∈ S :: wr := fun b z => List.mem_cons_of_mem _ z
  intro m
  induction m with
  | zero =>
    intro i s em hi st hS hR
    obtain rfl : i = n := by omega
    refine codeAny_builtin PyProof.Rows.F.entry_set_update_loop ?_
    rw [Around.under_plainId PyProof.Rows.F.plain_set_update_loop _]
    show wpAny _ A.in1 (pyNext (.ref I) >>= _) _ _ s
    refine wpAny_bind (W.done s _ _ st fun s' mv => ?_)
    show wpAny _ A.in1 (ret Value.none) _ _ s'
    rw [List.take_of_length_le (by omega)] at hS
    exact wpAny_pure (hR s' (mv.mono up) (hS.at fun o e => mv.heap S o nw e))
  | succ m ih =>
    intro i s em hi st hS hR
    have lt : i < n := by omega
    refine codeAny_builtin PyProof.Rows.F.entry_set_update_loop ?_
    rw [Around.under_plainId PyProof.Rows.F.plain_set_update_loop _]
    show wpAny _ A.in1 (pyNext (.ref I) >>= _) _ _ s
    refine wpAny_bind (W.item i s _ _ lt st fun v s1 hP st1 mv => ?_)
    obtain ⟨k, t, ek, rfl⟩ := hv i v hP
    have h1 : SetS P w s1.heap S (dedup [] (xs.take i)) := hS.at fun o e => mv.heap S o nw e
    have room : (dedup [] (xs.take i)).length + 1 < scanBound := by
      have q := dedup_len (xs.take i) []
      rw [List.length_take] at q
      simp only [List.length_nil] at q
      omega
    show wpAny _ A.in1 (holding [Value.str k t] (setAdd S (.str k t)) >>= _) _ _ s1
    refine wpAny_bind (wpAny_holding ?_)
    unfold setAdd
    refine wpAny_holding (wpAny_bind ((strKind P w).pyHash (k := k) (is_str k t) ?_))
    refine setS_add (s := { s1 with toks := s1.toks + 1 }) h1 room fun h' b sb h2 => ?_
    rw [← dedup_more xs [] i k ek] at h2
    refine wpAny_pure ⟨plainId_quiet PyProof.Rows.F.plain_set_update_loop _, ih (i + 1) _ (by omega) lt (W.frame _ s1 _ _ st1 (Nat.le_succ _) fun c hc o e => ?_) h2 fun s2 mv2 h3 => ?_⟩
    · exact (sb.2 c fun z => hf (z ▸ hc)).trans e
    · refine hR s2 (Moved.trans W.gtrans ((mv.mono up).then_heap (Nat.le_succ _) fun c o hc e => ?_) mv2) h3
      exact (sb.2 c fun z => hc (z ▸ List.mem_cons_self)).trans e
theorem setS_nil {h : Heap} {a : Addr} (ho : h.get? a = some { cls := .type "set", dict := none, data := .set #[] 0 (.fresh 0 0 (!w.params.followText "set-order")) }) : SetS P w h a [] :=
  ⟨(#[], 0, .fresh 0 0 (!w.params.followText "set-order")), ho, TxOk.nil rfl, List.nodup_nil, fresh_ris _, by
    cases w.params.followText "set-order"
    · exact .inr rfl
    · exact .inl rfl⟩
set_option maxHeartbeats 8000000 in
/-- set(a list of texts) -/
theorem call_set_strs {l : Addr} {items : Array Value} (xs : List Str) {Q : Value → Shared → Prop} (hh : A.handled = none) (hl : s.heap.IsList l items) (hit : StrsAre items.toList xs) (hb : xs.length + 1 < scanBound)
    (h : ∀ (h' : Heap) (tk : Nat), SetS P w h' s.heap.objs.size (dedup [] xs) → (∀ b o, s.heap.get? b = some o → h'.get? b = some o) → Q (.ref s.heap.objs.size) { s with heap := h', toks := tk }) :
    wpAny (model P w) A (call (.type "set") [.ref l]) Q E s := by
  have size : items.size = xs.length := by
    rw [← Array.length_toList]
    exact strs_len hit
  obtain ⟨c, tl, hmro⟩ := PySem.F.called_set.mro
  have hmade := PySem.F.called_set.made
  have hsub := PySem.F.called_set.sub
  refine wpAny_call (codeAny_of_tree ?_)
  show wpAny _ _ (callAny (.type "set") _) _ _ _
  refine wpAny_pure ⟨Code.quiet_builtin _ (by decide +kernel), codeAny_builtin PySem.F.entry_type_call ?_⟩
  rw [Around.under_plain (weight_type_call_type "set" [.ref l] []) rfl]
  have h1 := PySem.F.called_set.notType
  have h2 := PySem.F.called_set.canCreate
  have hct := PySem.F.typeCall_set_1 (.ref l)
  repeat (any_goals (first | assumption | wp_step))
  refine codeAny_mono (code_set_led1 (.ref l) (E := E) (Q₁ := fun obj s₁ => obj = .ref s.heap.objs.size ∧ s₁ = { s with heap := s.heap.push { cls := .type "set", dict := none, data := .set #[] 0 (.fresh 0 0 (!w.params.followText "set-order")) } }) ⟨rfl, rfl⟩) fun r s₁ hr => ?_
  match r, hr with
  | .error e, hr => exact hr
  | .ok .next, hr => exact hr.elim
  | .ok .brk, hr => exact hr.elim
  | .ok .cont, hr => exact hr.elim
  | .ok (.ret obj), hr =>
    obtain ⟨rfl, rfl⟩ := hr
    have hS : (s.heap.push { cls := .type "set", dict := none, data := .set #[] 0 (.fresh 0 0 (!w.params.followText "set-order")) }).get? s.heap.objs.size = some { cls := .type "set", dict := none, data := .set #[] 0 (.fresh 0 0 (!w.params.followText "set-order")) } := Heap.get?_push_size _ rfl
    have hT : Shared.TypeIs { s with heap := s.heap.push { cls := .type "set", dict := none, data := .set #[] 0 (.fresh 0 0 (!w.params.followText "set-order")) } } (.ref s.heap.objs.size) "set" := ⟨_, hS, rfl⟩
    have hli := PySem.F.called_set.init.lookup
    have hbi := PySem.F.called_set.init.bind (.ref s.heap.objs.size)
    repeat (any_goals (first | assumption | wp_step))
    refine codeAny_mono (codeAny_call_builtin (R := wants (fun r s₂ => r = .none ∧ ∃ h' tk, s₂ = { s with heap := h', toks := tk } ∧ SetS P w h' s.heap.objs.size (dedup [] xs) ∧
        (∀ b o, s.heap.get? b = some o → h'.get? b = some o)) E) PySem.F.called_set.init.plain PySem.F.entry_set_init (PySem.check_set_init_1 hT ?_)) fun r₂ s₂ hr₂ => ?_
    · obtain ⟨⟨ocls, odict, odata, oslots⟩, hol, hcl, nl, hdl⟩ := hl
      simp only at hcl hdl
      subst hcl
      subst hdl
      have hol' : (s.heap.push { cls := .type "set", dict := none, data := .set #[] 0 (.fresh 0 0 (!w.params.followText "set-order")) }).get? l = some { cls := .type "list", dict := odict, data := .seq items nl, slots := oslots } := Heap.get?_push_of_some _ hol
      have hsls := PySem.F.sub_list_set
      have hslf := PySem.F.sub_list_frozenset
      have hne : (Value.type "list" == Value.type "dict") = false := by decide
      have hl1 : (s.heap.push { cls := .type "set", dict := none, data := .set #[] 0 (.fresh 0 0 (!w.params.followText "set-order")) }).IsList l items := ⟨_, hol', rfl, nl, rfl⟩
      unfold Builtin.«set.__init__» noKeywords Builtin.Frozenset.updateFrom
      generalize hPI : pyIter = PI
      wp_walk
      subst hPI
      refine wpAny_pyIter_list hl1 ?_
      refine wpAny_bind (wpAny_runValue ?_)
      have lS : l < s.heap.objs.size := Heap.lt_size hol
      have hh3 : A.in1.in1.in1.handled = none := by simp [hh]
      have hz : (s.heap.push { cls := .type "set", dict := none, data := .set #[] 0 (.fresh 0 0 (!w.params.followText "set-order")) }).objs.size = s.heap.objs.size + 1 := Heap.size_push ..
      have nI : l ≠ (s.heap.push { cls := .type "set", dict := none, data := .set #[] 0 (.fresh 0 0 (!w.params.followText "set-order")) }).objs.size := by
        rw [hz]
        exact Nat.ne_of_lt (Nat.lt_succ_of_lt lS)
      have nf : s.heap.objs.size ∉ [(s.heap.push { cls := .type "set", dict := none, data := .set #[] 0 (.fresh 0 0 (!w.params.followText "set-order")) }).objs.size, l] := by
        rw [hz]
        simp only [List.mem_cons, List.not_mem_nil, or_false, not_or]
        exact ⟨Nat.ne_of_lt (Nat.lt_succ_self _), Nat.ne_of_gt lS⟩
      refine loop_strs ((Walks.list hh3 _ l nI items).toS) s.heap.objs.size nf xs size hb (fun i v q => strs_ix hit i v (by rw [Array.getElem?_toList]; exact q)) (items.size - 0) 0 _ (by omega) (Nat.zero_le _)
        ⟨⟨_, Heap.get?_push_size _ rfl, rfl, rfl⟩, (hl1.push _)⟩ (setS_nil (Heap.get?_push_of_some _ hS)) ?_
      intro s' mv h3
      obtain ⟨h', g2, d', tk', os'⟩ := s'
      have eg : g2 = s.gens := mv.gens
      have ed : d' = s.drawn := mv.drawn
      have eo : os' = s.os := mv.os
      subst eg ed eo
      show wpAny _ _ _ _ _ _
      refine wpAny_pure ?_
      show wpAny _ _ (ret Value.none) _ _ _
      refine wpAny_pure ⟨rfl, h', tk', rfl, h3, fun b o e => ?_⟩
      have b0 : b < s.heap.objs.size := Heap.lt_size e
      refine mv.heap b o ?_ (Heap.get?_push_of_some _ (Heap.get?_push_of_some _ e))
      simp only [List.mem_cons, List.not_mem_nil, or_false, not_or]
      refine ⟨Nat.ne_of_lt b0, ?_⟩
      rw [hz]
      exact Nat.ne_of_lt (Nat.lt_succ_of_lt b0)
    · match r₂, hr₂ with
      | .error e, hr₂ => exact hr₂
      | .ok .next, hr₂ => exact hr₂.elim
      | .ok .brk, hr₂ => exact hr₂.elim
      | .ok .cont, hr₂ => exact hr₂.elim
      | .ok (.ret r), hr₂ =>
        obtain ⟨rfl, h', tk, rfl, h3, hk⟩ := hr₂
        repeat (any_goals (first | assumption | wp_step))
        exact h _ _ h3 hk
end
end Ww

namespace Ww
open PySem PySem.Spec PyProof.Rows L2 PySem.Froz
theorem ne_mem {α : Type} {l : List α} {k x : α} (hk : k ∈ l) (n : x ∉ l) : k ≠ x := fun e => by
  subst e
  exact n hk
theorem nd_perm {α : Type} [DecidableEq α] : ∀ {l m : List α}, l.Nodup → (∀ k ∈ l, k ∈ m) → m.length ≤ l.length → l.Perm m
  | [], m, _, _, h => by
    have e : m = [] := List.length_eq_zero_iff.mp (Nat.le_zero.mp h)
    rw [e]
  | x :: l, m, nd, sub, h => by
    obtain ⟨n1, n2⟩ := List.nodup_cons.mp nd
    have hx := sub x List.mem_cons_self
    have pm := List.perm_cons_erase hx
    have le := List.length_erase_of_mem hx
    have ih : l.Perm (m.erase x) := nd_perm n2 (fun k hk => (List.mem_erase_of_ne (ne_mem hk n1)).mpr (sub k (List.mem_cons_of_mem _ hk))) (by
      rw [List.length_cons] at h
      omega)
    exact (ih.cons x).trans pm.symm
theorem nd_len {α : Type} [DecidableEq α] : ∀ {l m : List α}, l.Nodup → (∀ k ∈ l, k ∈ m) → l.length ≤ m.length
  | [], m, _, _ => Nat.zero_le _
  | x :: l, m, nd, sub => by
    obtain ⟨n1, n2⟩ := List.nodup_cons.mp nd
    have hx := sub x List.mem_cons_self
    have le := List.length_erase_of_mem hx
    have pos : 0 < m.length := List.length_pos_of_mem hx
    have ih := nd_len (m := m.erase x) n2 fun k hk => (List.mem_erase_of_ne (ne_mem hk n1)).mpr (sub k (List.mem_cons_of_mem _ hk))
    rw [List.length_cons]
    omega
section
variable {P : Program} {w : World} {A : Around} {E : Value → Shared → Prop} {s : Shared}
/-- an entry of such a set is a text -/
theorem ent_str {D : SD} {l : List Str} (F : TxOk P w D l) : ∀ v ∈ D.1.toList.map (·.2), ∃ x t, v = Value.str x t := fun v hv => by
  obtain ⟨e, he, rfl⟩ := List.mem_map.mp hv
  obtain ⟨⟨k, h1, _⟩, _⟩ := F.el e he
  obtain ⟨t, q⟩ := Value.isStrOf_shape (x := k) (v := e.2) h1
  exact ⟨k, t, q⟩
theorem ent_perm {D : SD} {l : List Str} (F : TxOk P w D l) (nd : l.Nodup) : ((D.1.toList.map (·.2)).map strOf).Perm l := by
  have mem : ∀ k : Str, k ∈ (D.1.toList.map (·.2)).map strOf ↔ k ∈ l := fun k => by
    rw [F.mem k, List.mem_map]
    constructor
    · rintro ⟨v, hv, q⟩
      obtain ⟨x, t, e⟩ := ent_str F v hv
      obtain ⟨en, hen, e2⟩ := List.mem_map.mp hv
      refine ⟨en, hen, ?_⟩
      rw [e2, e]
      have : x = k := by rw [← q, e]; rfl
      rw [← this]
      exact is_str x t
    · rintro ⟨en, hen, q⟩
      refine ⟨en.2, List.mem_map_of_mem hen, ?_⟩
      obtain ⟨t, e⟩ := Value.isStrOf_shape (x := k) (v := en.2) q
      rw [e]
      rfl
  have len : ((D.1.toList.map (·.2)).map strOf).length = l.length := by
    rw [List.length_map, List.length_map, Array.length_toList]
    exact F.sz
  exact (nd_perm nd (fun k hk => (mem k).2 hk) (Nat.le_of_eq len)).symm
theorem sorted_setS {a : Addr} {l : List Str} {Q : Value → Shared → Prop} (R : SetS P w s.heap a l) (hh : A.handled = none) (h64 : l.length < 64)
    (hQ : ∀ s' p (out : Array Value) (c : Nat) (ss : List Str), (∀ b o, s.heap.get? b = some o → s'.heap.get? b = some o) → s'.gens = s.gens → s'.os = s.os → s.heap.objs.size ≤ p →
      s'.heap.get? p = some (seqObj "list" out c) → StrsAre out.toList ss → Srt l ss → Q (.ref p) s') : wpAny (model P w) A (call (.builtin "sorted") [.ref a]) Q E s := by
  obtain ⟨D, ho, F, nd, r, hl⟩ := R
  have hsz : D.1.size = l.length := F.sz
  refine Calls.call_function_entry kind_sorted plain_sorted entry_sorted (args_sorted1 _) ?_
  unfold Builtin.«sorted»
  refine wpAny_bind (m := checkCount "sorted" 1 1 _) (wpAny_pure ?_)
  refine wpAny_bind (collect_set (A := A.in1) (t := D.2.2) (es := D.1) (ep := D.2.1) hh ⟨_, ho, rfl, rfl⟩ F.fit (by rw [hsz]; unfold scanBound; omega) r hl fun s1 vs k1 z1 g1 o1 pm => ?_)
  have lv : vs.length = l.length := by rw [pm.length_eq, List.length_map, Array.length_toList, hsz]
  have hI : StrsAre vs (vs.map strOf) := strsAre_map vs fun v hv => ent_str F v (pm.mem_iff.mp hv)
  have pl : (vs.map strOf).Perm l := (pm.map strOf).trans (ent_perm F nd)
  refine wpAny_bind (wpAny_newList ?_ (by rw [lv, sizeLine_eq]; omega))
  have hoL : (s1.heap.push (seqObj "list" vs.toArray 0)).get? s1.heap.objs.size = some (seqObj "list" vs.toArray 0) := Heap.get?_push_size _ rfl
  refine wpAny_bind (wpAny_holding (wpAny_call_entry slot_list_sort ⟨_, hoL, rfl⟩ entry_list_sort (list_sort_treeK strKind_oneLt hoL hI.keysOf (fun v₁ v₂ rest e => keyKind_strs (by rw [← e]; exact hI)) (by rw [lv]; exact h64) fun st' hp hs => ⟨_, rfl, ?_⟩) (args_list_sort _)))
  obtain ⟨ss, a1, a2, a3⟩ := sorted_out_str hI hp hs
  obtain ⟨c, hc⟩ := sortedHeap_at (vs := vs) (out := (arrOf st').map (·.2)) hoL
  have pn : ss.Perm l := a2.trans pl
  refine wpAny_pure ⟨_, rfl, hQ _ s1.heap.objs.size _ c ss (fun b u e => ?_) g1 o1 z1 hc a1 (srt_of a3 (pn.nodup_iff.mpr nd) fun k => pn.mem_iff)⟩
  have q := k1 b u e
  have lt := Heap.lt_size q
  show (sortedHeap (s1.heap.push (seqObj "list" vs.toArray 0)) s1.heap.objs.size vs _).get? b = some u
  rw [sortedHeap_old (Nat.ne_of_lt lt) (by rw [size_push']; exact Nat.lt_succ_of_lt lt)]
  exact Heap.get?_push_of_some _ q
end
/-! ### over the layer -/
def SetSO (P : Program) (w : World) (a : Addr) (l : List Str) : HO := .ext fun h => SetS P w h a l
theorem setSO_new {P : Program} {w : World} {H : Hp} {h : Heap} {a : Addr} {l : List Str} (R : SetS P w h a l) : ObjOk P w H h a (SetSO P w a l) := by
  have ⟨D, ho, _⟩ := R
  exact ⟨R, ⟨_, ho⟩, fun h1 h2 p k => SetS.at p k⟩
theorem strsAre_vals : ∀ {ys : List Str} {us : List Value}, Vals (ys.map V.str) us → StrsAre us ys
  | [], _, .nil => .nil
  | y :: ys, _, .cons ⟨t, e⟩ r => by
    subst e
    exact .cons y t (strsAre_vals r)
theorem vals_strsAre : ∀ {ys : List Str} {us : List Value}, StrsAre us ys → Vals (ys.map V.str) us
  | _, _, .nil => .nil
  | _, _, .cons y t r => .cons ⟨t, rfl⟩ (vals_strsAre r)
section
variable {X : Cx}
/-- set(a list of texts) -/
def rSetS (K : PySem.W.Frag) (P : Program) (w : World) : List V → Hp → VK → Prop := fun vs H Q => ∃ (l : Addr) (xs : List Str), vs = [.ref l] ∧ SqL K H l (xs.map V.str) ∧ xs.length ≤ 1000 ∧
  ∀ p, H p = none → Q (.ref p) (upd H p (SetSO P w p (dedup [] xs)))
theorem cr_setS (hc : X.calm = true) : CallR X (.type "set") (rSetS X.K X.prog X.w) := by
  intro pins s σ H vs us Q I r h
  obtain ⟨l, xs, rfl, hl, hz, q⟩ := h
  rw [Vals.ref1 r]
  obtain ⟨its, rv, pl, _⟩ := I.list hl
  have hn : H s.heap.objs.size = none := I.hok.fresh (Nat.le_refl _)
  refine call_set_strs (P := X.prog) (w := X.w) xs (I.ok.hd hc) pl.isList (by simpa using strsAre_vals rv) (by unfold scanBound; omega) fun h' tk R k => ?_
  exact ⟨.ref s.heap.objs.size, _, I.laid (t' := tk) k (Nat.le_refl _) (setSO_new R), rfl, q _ hn⟩
/-- sorted(such a set) -/
def rSortS (P : Program) (w : World) : List V → Hp → VK → Prop := fun vs H Q => ∃ (a : Addr) (l : List Str), vs = [.ref a] ∧ H a = some (SetSO P w a l) ∧ l.length < 64 ∧
  ∀ (ss : List Str) (p : Addr), Srt l ss → H p = none → Q (.ref p) (upd H p (.lst (ss.map V.str)))
theorem cr_sortS (hc : X.calm = true) : CallR X (.builtin "sorted") (rSortS X.prog X.w) := by
  intro pins s σ H vs us Q I r h
  obtain ⟨a, l, rfl, ha, h64, q⟩ := h
  have R : SetS X.prog X.w s.heap a l := (I.hok a _ ha).1
  rw [Vals.ref1 r]
  refine sorted_setS R (I.ok.hd hc) h64 fun s' p out c ss k g o hp hg hS hR => ?_
  have lss : ss.length ≤ l.length := nd_len hR.nodup fun k hk => (hR.mem k).1 hk
  have hlen : (ss.map V.str).length ≤ sizeLine := by rw [List.length_map, sizeLine_eq]; omega
  have hn : H p = none := I.hok.fresh hp
  have J : Inv X pins σ (upd H p (.lst (ss.map V.str))) { s with heap := s'.heap, gens := s'.gens, drawn := s'.drawn, toks := s'.toks } :=
    I.call (ch := []) (Un.laid k hp hn) (I.hok.laid k hp ⟨hlen, out.toList, c, vals_strsAre hS, hg⟩) (by rw [g]; exact I.bare) (fun _ z => nomatch z)
  have e : s' = { s with heap := s'.heap, gens := s'.gens, drawn := s'.drawn, toks := s'.toks } := by
    cases s'
    cases s
    cases o
    rfl
  rw [e]
  exact ⟨.ref p, _, J, rfl, q ss p hR hn⟩
/-- both in one: sorted(set(e)) -/
theorem Srt.of_dedup {xs ss : List Str} (h : Srt (dedup [] xs) ss) : Srt xs ss := h.same fun k => by
  rw [mem_dedup]
  simp
end
end Ww

namespace Ww
open PySem PySem.Spec PyProof.Rows L2
theorem hu64 {A : Around} {k : Nat} (hr : Room k A) : A.units + 64 < cLine := by
  have := hr.un
  omega
theorem fn_none {P : Program} {w : World} {K : PySem.W.Frag} {mg : Str → Option Value} {base : Heap} {CX : CXT} {k : Nat} {f : Addr} {fd : FuncData} {ps : List Str} {sp : Sp} (h : ∀ vs H Q E, sp vs H Q E → False) :
    FnOk P w K mg base CX k f fd ps sp :=
  ⟨fun vs H Q E q => (h vs H Q E q).elim, fun A outer s H args us vs Q E _ _ _ _ q => (h vs H Q E q).elim⟩
theorem sz1 {n : Nat} (h : n ≤ 1000000) : n ≤ sizeLine := Nat.le_trans h (by decide)
theorem sz2 {n : Nat} (h : n < 1000000) : n < sizeLine := Nat.lt_of_lt_of_le h (by decide)
theorem bt {A B : Prop} {c : Bool} (hc : c = true) (h : A) : if c = true then A else B := by
  rw [if_pos hc]
  exact h
theorem bf {A B : Prop} {c : Bool} (hc : c = false) (h : B) : if c = true then A else B := by
  rw [if_neg (by rw [hc]; exact Bool.false_ne_true)]
  exact h
theorem bb {A B : Prop} {c : Bool} (h1 : c = true → A) (h2 : c = false → B) : if c = true then A else B := by
  cases c with
  | true => exact h1 rfl
  | false => exact h2 rfl
/-! ### letters -/
def isLet (s : Str) : Bool := match s.cps.toList with
  | [c] => decide (97 ≤ c ∧ c ≤ 122)
  | _ => false
theorem abc_mem (c : Nat) : (c ∈ (Str.ofString "abcdefghijklmnopqrstuvwxyz").cps.toList) ↔ (97 ≤ c ∧ c ≤ 122) := by
  have e : (Str.ofString "abcdefghijklmnopqrstuvwxyz").cps.toList = List.range' 97 26 := by decide +kernel
  rw [e, List.mem_range'_1]
  omega
theorem str_one {s : Str} (h : s.length = 1) : ∃ c, s = ⟨#[c]⟩ := by
  obtain ⟨a⟩ := s
  obtain ⟨l⟩ := a
  match l, h with
  | [c], _ => exact ⟨c, rfl⟩
theorem isLet_iff {s : Str} : isLet s = true ↔ Let s := by
  constructor
  · intro h
    obtain ⟨⟨l⟩⟩ := s
    match l, h with
    | [c], h =>
      have h' : decide (97 ≤ c ∧ c ≤ 122) = true := h
      have := of_decide_eq_true h'
      exact ⟨c, rfl, this.1, this.2⟩
  · rintro ⟨c, rfl, h1, h2⟩
    exact decide_eq_true ⟨h1, h2⟩
theorem isLet_one (c : Nat) : isLet ⟨#[c]⟩ = decide (97 ≤ c ∧ c ≤ 122) := rfl
theorem isLet_many {s : Str} (h : s.length ≠ 1) : isLet s = false := by
  obtain ⟨⟨l⟩⟩ := s
  match l, h with
  | [], _ => rfl
  | [c], h => exact absurd rfl h
  | _ :: _ :: _, _ => rfl
theorem plain_ne : ∀ {f : Str}, Form f → decide (V.str f = V.str "plain") = false := by
  rintro f (rfl | rfl | rfl) <;> decide +kernel
/-! ### the heap at a tuple -/
theorem at0 {x : V} {r : List V} : atI (x :: r) 0 = some x := by
  have := atI_nat (xs := x :: r) (j := 0) (v := x) rfl
  exact this
theorem at1 {x y : V} {r : List V} : atI (x :: y :: r) 1 = some y := by
  have := atI_nat (xs := x :: y :: r) (j := 1) (v := y) rfl
  exact this
theorem at2 {x y z : V} {r : List V} : atI (x :: y :: z :: r) 2 = some z := by
  have := atI_nat (xs := x :: y :: z :: r) (j := 2) (v := z) rfl
  exact this
theorem at3 {x y z u : V} {r : List V} : atI (x :: y :: z :: u :: r) 3 = some u := by
  have := atI_nat (xs := x :: y :: z :: u :: r) (j := 3) (v := u) rfl
  exact this
theorem at4 {x y z u t : V} {r : List V} : atI (x :: y :: z :: u :: t :: r) 4 = some t := by
  have := atI_nat (xs := x :: y :: z :: u :: t :: r) (j := 4) (v := t) rfl
  exact this
theorem ati {ns : List Int} {i : Nat} (h : i < ns.length) : ∃ x : Int, atI (ns.map V.int) ((0 : Int) + (i : Int)) = some (.int x) ∧ ns[i]? = some x := by
  refine ⟨ns[i], ?_, List.getElem?_eq_getElem h⟩
  rw [Int.zero_add]
  refine atI_nat ?_
  rw [List.getElem?_map, List.getElem?_eq_getElem h]
  rfl
theorem same_mut {H H' : Hp} {p : Addr} (e : Same H H') (h : H p = none) (o : HO) : Same H (upd H' p o) := fun a u q => by
  rw [upd_ne (ne_of_none q h)]
  exact e a u q
theorem Let.len {s : Str} (h : Let s) : s.length = 1 := by
  obtain ⟨c, rfl, _⟩ := h
  rfl
theorem Let.small {s : Str} (h : Let s) : s.length ≤ 1000000 := by
  rw [h.len]
  decide
theorem Kd.let_of : ∀ {k : Kd}, k.ok → ∀ s ∈ k.letters, Let s
  | .pl t, h, s, hs => by
    have e : s = t := by simpa [Kd.letters] using hs
    rw [e]
    exact h
  | .nd f a b, ⟨_, h1, h2⟩, s, hs => by
    rcases List.mem_append.mp (show s ∈ a.letters ++ b.letters from hs) with z | z
    · exact Kd.let_of h1 s z
    · exact Kd.let_of h2 s z
theorem sum_one : ∀ {l : List Str}, (∀ s ∈ l, s.length = 1) → (l.map (·.length)).sum = l.length
  | [], _ => rfl
  | x :: l, h => by
    rw [List.map_cons, List.sum_cons, h x List.mem_cons_self, sum_one fun s hs => h s (List.mem_cons_of_mem _ hs), List.length_cons]
    omega
theorem join_small {k : Kd} {ss : List Str} (h : Srt k.letters ss) (ok : k.ok) (hz : k.letters.length ≤ 40) : (ss.map (·.length)).sum + ss.length * (Str.ofString "").length ≤ 16777216 := by
  have e : (Str.ofString "").length = 0 := by decide +kernel
  have l1 : ss.length ≤ k.letters.length := nd_len h.nodup fun x hx => (h.mem x).1 hx
  rw [e, sum_one fun s hs => (k.let_of ok s ((h.mem s).1 hs)).len]
  omega
end Ww

namespace Ww
open PySem PySem.Spec PyProof.Rows L2
/-! ### types of data -/
theorem tyL {K : PySem.W.Frag} {H : Hp} {a : Addr} {xs : List V} (h : SqL K H a xs) : TyX K H (.ref a) (.type "list") := by
  rcases h with (h | ⟨o, h⟩) | ⟨o, its, n, hk, hc, _⟩
  · exact .base (.lst h)
  · exact .base (.frz h)
  · exact .kList hk hc
theorem tyT {K : PySem.W.Frag} {H : Hp} {a : Addr} {xs : List V} (h : SqT K H a xs) : TyX K H (.ref a) (.type "tuple") := by
  rcases h with (h | ⟨o, h⟩) | ⟨o, its, n, hk, hc, _⟩
  · exact .base (.tup h)
  · exact .fTuple h
  · exact .kTuple hk hc
/-- data of nesting below n, its lists short -/
def Gd : Nat → PyData → Prop
  | 0, _ => False
  | _ + 1, .none => True
  | _ + 1, .bool _ => True
  | _ + 1, .int _ => True
  | _ + 1, .str _ => True
  | n + 1, .list ds => ds.length ≤ 100000 ∧ ∀ d ∈ ds, Gd n d
  | n + 1, .tuple ds => ds.length ≤ 100000 ∧ ∀ d ∈ ds, Gd n d
  | _ + 1, .dict _ => False
theorem Gd.mono : ∀ {n m : Nat} {d : PyData}, Gd n d → n ≤ m → Gd m d
  | 0, _, _, h, _ => h.elim
  | n + 1, 0, _, _, l => absurd l (by omega)
  | n + 1, m + 1, .none, h, l => trivial
  | n + 1, m + 1, .bool _, h, l => trivial
  | n + 1, m + 1, .int _, h, l => trivial
  | n + 1, m + 1, .str _, h, l => trivial
  | n + 1, m + 1, .list ds, ⟨h1, h2⟩, l => ⟨h1, fun d hd => (h2 d hd).mono (by omega)⟩
  | n + 1, m + 1, .tuple ds, ⟨h1, h2⟩, l => ⟨h1, fun d hd => (h2 d hd).mono (by omega)⟩
  | n + 1, m + 1, .dict _, h, l => h
theorem dps_len {K : PySem.W.Frag} {H : Hp} : ∀ {ds : List PyData} {vs : List V}, DpAll K H vs ds → vs.length = ds.length
  | [], _, h => by
    cases h
    rfl
  | d :: ds, _, h => by
    cases h with
    | cons _ h2 => rw [List.length_cons, List.length_cons, dps_len h2]
theorem dps_at {K : PySem.W.Frag} {H : Hp} : ∀ {ds : List PyData} {vs : List V} {i : Nat} {v : V}, DpAll K H vs ds → vs[i]? = some v → ∃ d, ds[i]? = some d ∧ Dp K H v d
  | [], _, i, v, h, e => by
    cases h
    simp at e
  | d :: ds, _, 0, v, h, e => by
    cases h with
    | cons h1 _ =>
      have e' := Option.some.inj (show some _ = some v by simpa using e)
      rw [← e']
      exact ⟨d, rfl, h1⟩
  | d :: ds, _, i + 1, v, h, e => by
    cases h with
    | cons _ h2 =>
      obtain ⟨d', a, b⟩ := dps_at h2 (by simpa using e)
      exact ⟨d', by simpa using a, b⟩
theorem Gd.kd : ∀ {k : Kd}, Gd (k.deep + 1) k.dat
  | .pl s => ⟨(show 2 ≤ 100000 by decide), fun d hd => by
    have : d = .str "plain" ∨ d = .str s := by simpa using hd
    rcases this with rfl | rfl <;> trivial⟩
  | .nd f a b => ⟨(show 3 ≤ 100000 by decide), fun d hd => by
    have : d = .str f ∨ d = a.dat ∨ d = b.dat := by simpa using hd
    show Gd (1 + max a.deep b.deep) d
    rcases this with rfl | rfl | rfl
    · exact Gd.mono (n := 1) trivial (by omega)
    · exact Gd.kd.mono (by omega)
    · exact Gd.kd.mono (by omega)⟩
/-! ### answers of isinstance -/
section
variable {K : PySem.W.Frag} {H : Hp}
theorem kLT {t : String} {b c : Bool} (h1 : kitB t "list" = some b) (h2 : kitB t "tuple" = some c) : PySem.W.kitAny K (.type t) [.type "list", .type "tuple"] = some (b || c) := by
  refine kitAny_cons (kit_ty h1) (fun hb => ?_) (fun hb => by rw [hb]; rfl)
  rw [hb]
  refine kitAny_cons (kit_ty h2) (fun hc => by rw [hc]; rfl) (fun hc => by rw [hc]; rfl)
theorem kLT0 {t : String} (h1 : kitB t "list" = some false) (h2 : kitB t "tuple" = some false) : PySem.W.kitAny K (.type t) [.type "list", .type "tuple"] = some false := kLT h1 h2
theorem clsLT : Paired ClsV [V.ty "list", V.ty "tuple"] [Value.type "list", Value.type "tuple"] := .cons (.ty _) (.cons (.ty _) .nil)
end
end Ww

namespace Ww
open PySem PySem.Spec PyProof.Rows L2
theorem empty_cps : (Str.ofString "").cps.toList = [] := by decide +kernel
theorem join_cps : ∀ ys : List Str, (Txt.join (Str.ofString "") ys).cps.toList = ys.flatMap fun y => y.cps.toList := by
  have go : ∀ ys : List Str, (Str.join (Str.ofString "") ys).cps.toList = ys.flatMap fun y => y.cps.toList := by
    intro ys
    induction ys with
    | nil => rfl
    | cons x r ih =>
      cases r with
      | nil =>
        show x.cps.toList = _
        simp
      | cons y r =>
        show (x ++ Str.ofString "" ++ Str.join (Str.ofString "") (y :: r)).cps.toList = _
        rw [PySem.W.KT.app_list, PySem.W.KT.app_list, empty_cps, List.append_nil, ih]
        rfl
  intro ys
  show (Builtin.Str.glued _ _).cps.toList = _
  rw [StrLaws.glued_eq_join]
  exact go ys
/-- a text of letters -/
def AllLet (t : Str) : Prop := ∀ c ∈ t.cps.toList, 97 ≤ c ∧ c ≤ 122
theorem len_cps (t : Str) : t.length = t.cps.toList.length := (Array.length_toList).symm
theorem AllLet.at {t : Str} (h : AllLet t) {r : Int} (r0 : 0 ≤ r) (r1 : r < (t.length : Int)) : ∃ c, t.cps[r.toNat]? = some c ∧ Let ⟨#[c]⟩ := by
  have hr : r.toNat < t.cps.size := by
    have : t.length = t.cps.size := rfl
    omega
  refine ⟨t.cps[r.toNat], Array.getElem?_eq_getElem hr, _, rfl, ?_⟩
  exact h _ (by simp)
theorem abc_all : AllLet (Str.ofString "abcdefghijklmnopqrstuvwxyz") := fun c hc => (abc_mem c).1 hc
theorem abc_len : (Str.ofString "abcdefghijklmnopqrstuvwxyz").length = 26 := by decide +kernel
theorem join_len {ys : List Str} (h : ∀ y ∈ ys, Let y) : (Txt.join (Str.ofString "") ys).length = ys.length := by
  rw [len_cps, join_cps]
  induction ys with
  | nil => rfl
  | cons x r ih =>
    have hx := (h x List.mem_cons_self).len
    rw [len_cps] at hx
    rw [List.flatMap_cons, List.length_append, hx, ih fun y hy => h y (List.mem_cons_of_mem _ hy), List.length_cons]
    omega
theorem join_all {ys : List Str} (h : ∀ y ∈ ys, Let y) : AllLet (Txt.join (Str.ofString "") ys) := fun c hc => by
  rw [join_cps] at hc
  obtain ⟨y, hy, q⟩ := List.mem_flatMap.mp hc
  obtain ⟨d, rfl, h1, h2⟩ := h y hy
  have e : c = d := by simpa using q
  rw [e]
  exact ⟨h1, h2⟩
theorem let_small {ys : List Str} (h : ∀ y ∈ ys, Let y) (l : ys.length ≤ 1000) : (ys.map (·.length)).sum + ys.length * (Str.ofString "").length ≤ 16777216 := by
  have e : (Str.ofString "").length = 0 := by decide +kernel
  rw [e, sum_one fun s hs => (h s hs).len]
  omega
/-! ### an item at a drawn place -/
theorem atI_of {α : Type} {xs : List α} {r : Int} (r0 : 0 ≤ r) (r1 : r < (xs.length : Int)) : ∃ v, atI xs r = some v ∧ xs[r.toNat]? = some v := by
  have h : r.toNat < xs.length := by omega
  have e : ((r.toNat : Nat) : Int) = r := by omega
  obtain ⟨v, hv⟩ : ∃ v, xs[r.toNat]? = some v := ⟨_, List.getElem?_eq_getElem h⟩
  have q := atI_nat hv
  rw [e] at q
  exact ⟨v, q, hv⟩
theorem atI_mem {α : Type} {xs : List α} {r : Int} (r0 : 0 ≤ r) (r1 : r < (xs.length : Int)) : ∃ v, atI xs r = some v ∧ v ∈ xs := by
  obtain ⟨v, h1, h2⟩ := atI_of r0 r1
  exact ⟨v, h1, List.mem_of_getElem? h2⟩
theorem but_mut {a p : Addr} {H H' : Hp} (e : But a H H') (h : H p = none) (o : HO) : But a H (upd H' p o) := fun b u n q => by
  rw [upd_ne (ne_of_none q h)]
  exact e b u n q
theorem But.same {a : Addr} {H H1 H2 : Hp} (e : But a H H1) (k : Same H1 H2) : But a H H2 := fun b o n h => k b o (e b o n h)
/-- fresh in a later heap is fresh in an earlier one -/
theorem But.free {a p : Addr} {H H' : Hp} {o : HO} (e : But a H H') (ha : H' a = some o) (h : H' p = none) : H p = none := by
  cases q : H p with
  | none => rfl
  | some u =>
    have n : p ≠ a := fun z => by
      rw [z, ha] at h
      cases h
    rw [e p u n q] at h
    cases h
theorem But.at {a b : Addr} {H H' : Hp} {o : HO} (e : But a H H') (n : b ≠ a) (h : H b = some o) : H' b = some o := e b o n h
theorem But.sqL {K : PySem.W.Frag} {a b : Addr} {H H' : Hp} {xs : List V} (e : But a H H') (n : b ≠ a) (h : H b = some (.lst xs)) : SqL K H' b xs := SqL.of (e b _ n h)
theorem lc_yes {σ : L2.St} {H : Hp} {t e : Hp → Prop} (h : t H) : tYes σ H (fun b H3 => if b = true then t H3 else e H3) := h
end Ww

namespace Ww
open PySem PySem.Spec PyProof.Rows L2
/-! ### two lists side by side -/
def All2 {α β : Type} (R : α → β → Prop) : List α → List β → Prop
  | [], [] => True
  | x :: xs, y :: ys => R x y ∧ All2 R xs ys
  | _, _ => False
theorem All2.mono {α β : Type} {R S : α → β → Prop} (e : ∀ x y, R x y → S x y) : ∀ {xs : List α} {ys : List β}, All2 R xs ys → All2 S xs ys
  | [], [], _ => trivial
  | _ :: _, _ :: _, h => ⟨e _ _ h.1, All2.mono e h.2⟩
  | [], _ :: _, h => h.elim
  | _ :: _, [], h => h.elim
theorem All2.len {α β : Type} {R : α → β → Prop} : ∀ {xs : List α} {ys : List β}, All2 R xs ys → xs.length = ys.length
  | [], [], _ => rfl
  | _ :: _, _ :: _, h => by rw [List.length_cons, List.length_cons, All2.len h.2]
  | [], _ :: _, h => h.elim
  | _ :: _, [], h => h.elim
theorem All2.snoc {α β : Type} {R : α → β → Prop} {x : α} {y : β} (r : R x y) : ∀ {xs : List α} {ys : List β}, All2 R xs ys → All2 R (xs ++ [x]) (ys ++ [y])
  | [], [], _ => ⟨r, trivial⟩
  | _ :: _, _ :: _, h => ⟨h.1, All2.snoc r h.2⟩
  | [], _ :: _, h => h.elim
  | _ :: _, [], h => h.elim
theorem All2.app {α β : Type} {R : α → β → Prop} {zs : List α} {us : List β} (r : All2 R zs us) : ∀ {xs : List α} {ys : List β}, All2 R xs ys → All2 R (xs ++ zs) (ys ++ us)
  | [], [], _ => r
  | _ :: _, _ :: _, h => ⟨h.1, All2.app r h.2⟩
  | [], _ :: _, h => h.elim
  | _ :: _, [], h => h.elim
theorem All2.get {α β : Type} {R : α → β → Prop} : ∀ {xs : List α} {ys : List β} {i : Nat} {x : α}, All2 R xs ys → xs[i]? = some x → ∃ y, ys[i]? = some y ∧ R x y
  | [], [], _, _, _, e => by simp at e
  | x :: _, y :: _, 0, z, h, e => by
    have e' : x = z := by simpa using e
    subst e'
    exact ⟨y, rfl, h.1⟩
  | _ :: _, _ :: _, i + 1, _, h, e => by
    obtain ⟨y, a, b⟩ := All2.get h.2 (by simpa using e)
    exact ⟨y, by simpa using a, b⟩
  | [], _ :: _, _, _, h, _ => h.elim
  | _ :: _, [], _, _, h, _ => h.elim
theorem All2.mem {α β : Type} {R : α → β → Prop} {xs : List α} {ys : List β} (h : All2 R xs ys) {x : α} (m : x ∈ xs) : ∃ y, y ∈ ys ∧ R x y := by
  obtain ⟨i, hi⟩ := List.getElem?_of_mem m
  obtain ⟨y, a, b⟩ := h.get hi
  exact ⟨y, List.mem_of_getElem? a, b⟩
/-! ### data that == reads -/
def Lk (K : PySem.W.Frag) (H : Hp) (v : V) : Prop := ∃ d, Dp K H v d ∧ d.canLay0 = true ∧ d.depth ≤ 60
theorem lks {K : PySem.W.Frag} {H : Hp} : ∀ {xs : List V}, (∀ v ∈ xs, Lk K H v) → ∃ ds, DpAll K H xs ds ∧ ds.length = xs.length ∧ PyData.canLayAll0 ds = true ∧ PyData.depthAll ds ≤ 60
  | [], _ => ⟨[], .nil, rfl, rfl, by decide⟩
  | x :: xs, h => by
    obtain ⟨d, h1, h2, h3⟩ := h x List.mem_cons_self
    obtain ⟨ds, g1, g2, g3, g4⟩ := lks fun v hv => h v (List.mem_cons_of_mem _ hv)
    refine ⟨d :: ds, .cons h1 g1, by rw [List.length_cons, List.length_cons, g2], ?_, ?_⟩
    · show (d.canLay0 && PyData.canLayAll0 ds) = true
      rw [h2, g3]
      rfl
    · show max d.depth (PyData.depthAll ds) ≤ 60
      omega
theorem shaped_list {ds : List PyData} (h1 : PyData.canLayAll0 ds = true) (h2 : PyData.depthAll ds ≤ 60) : SeqAt.shaped (.list ds) = true := by
  show (PyData.canLayAll0 ds && decide (PyData.depthAll ds + 1 ≤ 64)) = true
  rw [h1, decide_eq_true (by omega)]
  rfl
theorem eqv_nil : ∀ ds : List PyData, PyData.eqv (.list ds) (.list []) = ds.isEmpty
  | [] => rfl
  | _ :: _ => rfl
theorem ne_nil {K : PySem.W.Frag} {H : Hp} {a p : Addr} {xs : List V} {Q : VK} (h : H a = some (.lst xs)) (hp : H p = some (.lst [])) (l : ∀ v ∈ xs, Lk K H v) (q : Q (.bl (!xs.isEmpty)) H) : rNeD K (.ref a) (.ref p) H Q := by
  obtain ⟨ds, g1, g2, g3, g4⟩ := lks l
  refine ⟨.list ds, .list [], .lst (SqL.of h) g1, .lst (SqL.of hp) .nil, shaped_list g3 g4, by decide, ?_⟩
  rw [eqv_nil]
  have e : ds.isEmpty = xs.isEmpty := by
    cases ds <;> cases xs <;> first | rfl | cases g2
  rw [e]
  exact q
theorem let_ok {s : Str} (h : Let s) : PyData.strOk s = true := by
  obtain ⟨c, rfl, h1, h2⟩ := h
  simp [PyData.strOk]
  omega
theorem form_ok {f : Str} (h : Form f) : PyData.strOk f = true := by
  rcases h with rfl | rfl | rfl <;> decide +kernel
theorem Kd.lay : ∀ {k : Kd}, k.ok → k.dat.canLay0 = true
  | .pl s, h => by
    show (PyData.strOk "plain" && (PyData.strOk s && true)) = true
    rw [let_ok h]
    decide +kernel
  | .nd f a b, ⟨h, h1, h2⟩ => by
    show (PyData.strOk f && (a.dat.canLay0 && (b.dat.canLay0 && true))) = true
    rw [form_ok h, Kd.lay h1, Kd.lay h2]
    rfl
theorem Kd.dat_depth : ∀ k : Kd, k.dat.depth = k.deep
  | .pl s => rfl
  | .nd f a b => by
    show max 0 (max a.dat.depth (max b.dat.depth 0)) + 1 = 1 + max a.deep b.deep
    rw [Kd.dat_depth a, Kd.dat_depth b]
    omega
theorem KAt.lk {K : PySem.W.Frag} {H : Hp} {v : V} {k : Kd} (h : KAt H v k) (ok : k.ok) (d : k.deep ≤ 60) : Lk K H v := ⟨k.dat, h.dp, k.lay ok, by rw [k.dat_depth]; exact d⟩
/-! ### the places of a kind's letters -/
def Kd.places : Kd → Int → List (Str × Int)
  | .pl s, d => [(s, d)]
  | .nd _ a b, d => a.places (d + 1) ++ b.places (d + 1)
def Kd.wt : Kd → Nat
  | .pl _ => 1
  | .nd _ a b => 1 + a.wt + b.wt
theorem Kd.places_fst : ∀ (k : Kd) (d : Int), (k.places d).map (·.1) = k.letters
  | .pl s, d => rfl
  | .nd f a b, d => by
    show (a.places (d + 1) ++ b.places (d + 1)).map (·.1) = a.letters ++ b.letters
    rw [List.map_append, Kd.places_fst a, Kd.places_fst b]
theorem Kd.places_len (k : Kd) (d : Int) : (k.places d).length = k.letters.length := by
  rw [← k.places_fst d, List.length_map]
theorem Kd.places_le : ∀ (k : Kd) (d : Int), ∀ x ∈ k.places d, x.2 ≤ d + (k.deep : Int) - 1
  | .pl s, d, x, h => by
    have e : x = (s, d) := by simpa [Kd.places] using h
    rw [e]
    show d ≤ d + (1 : Nat) - 1
    omega
  | .nd f a b, d, x, h => by
    show x.2 ≤ d + ((1 + max a.deep b.deep : Nat) : Int) - 1
    rcases List.mem_append.mp (show x ∈ a.places (d + 1) ++ b.places (d + 1) from h) with z | z
    · have := Kd.places_le a _ x z
      omega
    · have := Kd.places_le b _ x z
      omega
theorem Kd.places_max : ∀ (k : Kd) (d : Int), ∃ x ∈ k.places d, x.2 = d + (k.deep : Int) - 1
  | .pl s, d => ⟨(s, d), by simp [Kd.places], by show d = d + (1 : Nat) - 1; omega⟩
  | .nd f a b, d => by
    show ∃ x ∈ a.places (d + 1) ++ b.places (d + 1), x.2 = d + ((1 + max a.deep b.deep : Nat) : Int) - 1
    by_cases c : b.deep ≤ a.deep
    · obtain ⟨x, m, e⟩ := Kd.places_max a (d + 1)
      exact ⟨x, List.mem_append_left _ m, by omega⟩
    · obtain ⟨x, m, e⟩ := Kd.places_max b (d + 1)
      exact ⟨x, List.mem_append_right _ m, by omega⟩
theorem places_flat : ∀ st : List (Kd × Int), st.length ≤ (st.flatMap fun x => x.1.places x.2).length
  | [] => Nat.le_refl 0
  | x :: st => by
    rw [List.flatMap_cons, List.length_append, List.length_cons, x.1.places_len]
    have := places_flat st
    have := x.1.letters_pos
    omega
theorem at5 {a b c d e f : V} {r : List V} : atI (a :: b :: c :: d :: e :: f :: r) 5 = some f := by
  have := atI_nat (xs := a :: b :: c :: d :: e :: f :: r) (j := 5) (v := f) rfl
  exact this
theorem at6 {a b c d e f g : V} {r : List V} : atI (a :: b :: c :: d :: e :: f :: g :: r) 6 = some g := by
  have := atI_nat (xs := a :: b :: c :: d :: e :: f :: g :: r) (j := 6) (v := g) rfl
  exact this
end Ww

namespace Ww
open PySem PySem.Spec PyProof.Rows L2
theorem hu1 {A : Around} {k : Nat} (hr : Room k A) : A.units + 1 < cLine := by
  have := hr.un
  omega
/-- a walk over a list, whatever a turn asks -/
theorem walk_list {K : PySem.W.Frag} {a : Addr} {xs : List V} {H0 : Hp} {Qd : Hp → Prop} {B : (Hp → Prop) → V → Hp → Prop} (Pv : Nat → Hp → Prop) (h0 : Pv 0 H0) (hl : ∀ i H, i ≤ xs.length → Pv i H → SqL K H a xs)
    (hs : ∀ i x H, xs[i]? = some x → Pv i H → B (Pv (i + 1)) x H) (hd : ∀ H, Pv xs.length H → Qd H) :
    ∃ W : Nat → Nat → Hp → Prop, (∃ m, W 0 m H0) ∧ ∀ i m H, W i m H →
      ((Itl K a).stop i H ∧ Qd H) ∨ ((Itl K a).go i H ∧ ∃ Nx : Hp → Prop, (∀ H', Nx H' → ∃ m', m' < m ∧ W (i + 1) m' H') ∧ ∀ x H', (Itl K a).yld i H x H' → B Nx x H') := by
  refine ⟨fun i m H => m = xs.length - i ∧ i ≤ xs.length ∧ Pv i H, ⟨xs.length, by simp, Nat.zero_le _, h0⟩, ?_⟩
  rintro i m H ⟨rfl, hi, p⟩
  have q := hl i H hi p
  by_cases hlt : i < xs.length
  · refine .inr ⟨⟨xs, xs[i], q, by simp [hlt]⟩, Pv (i + 1), fun H' p' => ⟨xs.length - (i + 1), by omega, rfl, hlt, p'⟩, fun x H' y => ?_⟩
    obtain ⟨e, y⟩ := y
    subst e
    exact hs i x _ (y xs q) p
  · have e : i = xs.length := by omega
    subst e
    exact .inl ⟨⟨xs, q, Nat.le_refl _⟩, hd H p⟩
theorem eq_nil {K : PySem.W.Frag} {H : Hp} {a p : Addr} {xs : List V} {Q : VK} (h : H a = some (.lst xs)) (hp : H p = some (.lst [])) (l : ∀ v ∈ xs, Lk K H v) (q : Q (.bl xs.isEmpty) H) : rEqD K (.ref a) (.ref p) H Q := by
  obtain ⟨ds, g1, g2, g3, g4⟩ := lks l
  refine ⟨.list ds, .list [], .lst (SqL.of h) g1, .lst (SqL.of hp) .nil, shaped_list g3 g4, by decide, ?_⟩
  rw [eqv_nil]
  have e : ds.isEmpty = xs.isEmpty := by
    cases ds <;> cases xs <;> first | rfl | cases g2
  rw [e]
  exact q
/-! ### pairs and rows in the heap -/
def RowAt (H : Hp) (v : V) (x : Str × Int) : Prop := ∃ p, v = .ref p ∧ H p = some (.tup [.str x.1, .int x.2])
def PairAt (H : Hp) (v : V) (x : Kd × Int) : Prop := ∃ p u, v = .ref p ∧ H p = some (.tup [u, .int x.2]) ∧ KAt H u x.1
theorem RowAt.mono {H H' : Hp} (e : Tps H H') (v : V) (x : Str × Int) (h : RowAt H v x) : RowAt H' v x := by
  obtain ⟨p, q, h⟩ := h
  exact ⟨p, q, e _ _ h⟩
theorem PairAt.mono {H H' : Hp} (e : Tps H H') (v : V) (x : Kd × Int) (h : PairAt H v x) : PairAt H' v x := by
  obtain ⟨p, u, q, h, k⟩ := h
  exact ⟨p, u, q, e _ _ h, k.mono e⟩
theorem PairAt.lk {K : PySem.W.Frag} {H : Hp} {v : V} {x : Kd × Int} (h : PairAt H v x) (ok : x.1.ok) (d : x.1.deep ≤ 8) : Lk K H v := by
  obtain ⟨p, u, rfl, h, k⟩ := h
  refine ⟨.tuple [x.1.dat, .int x.2], .tup (SqT.of h) (.cons k.dp (.cons (.int _) .nil)), ?_, ?_⟩
  · show (x.1.dat.canLay0 && (true && true)) = true
    rw [x.1.lay ok]
    rfl
  · show max x.1.dat.depth (max 0 0) + 1 ≤ 60
    rw [x.1.dat_depth]
    omega
theorem RowAt.lk {K : PySem.W.Frag} {H : Hp} {v : V} {x : Str × Int} (h : RowAt H v x) (ok : Let x.1) : Lk K H v := by
  obtain ⟨p, rfl, h⟩ := h
  refine ⟨.tuple [.str x.1, .int x.2], .tup (SqT.of h) (.cons (.str _) (.cons (.int _) .nil)), ?_, by show 1 ≤ 60; decide⟩
  show (PyData.strOk x.1 && (true && true)) = true
  rw [let_ok ok]
  rfl
def rowDat (x : Str × Int) : PyData := .tuple [.str x.1, .int x.2]
theorem RowAt.dp {K : PySem.W.Frag} {H : Hp} {v : V} {x : Str × Int} (h : RowAt H v x) : Dp K H v (rowDat x) := by
  obtain ⟨p, rfl, h⟩ := h
  exact .tup (SqT.of h) (.cons (.str _) (.cons (.int _) .nil))
theorem row_shaped {x : Str × Int} (ok : Let x.1) : SeqAt.shaped (rowDat x) = true := by
  show ((PyData.strOk x.1 && (true && true)) && decide (1 ≤ 64)) = true
  rw [let_ok ok]
  rfl
theorem row_eqv (x y : Str × Int) : PyData.eqv (rowDat x) (rowDat y) = decide (x = y) := by
  obtain ⟨a, i⟩ := x
  obtain ⟨b, j⟩ := y
  show ((a == b) && ((i == j) && true)) = decide ((a, i) = (b, j))
  rw [Bool.and_true, Bool.eq_iff_iff, Bool.and_eq_true, beq_iff_eq, beq_iff_eq, decide_eq_true_iff, Prod.mk.injEq]
theorem dps_of {α : Type} {K : PySem.W.Frag} {H : Hp} {R : V → α → Prop} (f : α → PyData) (e : ∀ v x, R v x → Dp K H v (f x)) : ∀ {vs : List V} {xs : List α}, All2 R vs xs → DpAll K H vs (xs.map f)
  | [], [], _ => .nil
  | _ :: _, _ :: _, h => .cons (e _ _ h.1) (dps_of f e h.2)
  | [], _ :: _, h => h.elim
  | _ :: _, [], h => h.elim
/-! ### a list of kinds -/
def KB (k : Kd) : Prop := k.ok ∧ k.deep ≤ 8 ∧ k.letters.length ≤ 40
theorem ks_lk {K : PySem.W.Frag} {H : Hp} {vs : List V} {ks : List Kd} (h : All2 (KAt H) vs ks) (b : ∀ k ∈ ks, KB k) : ∀ v ∈ vs, Lk K H v := fun v hv => by
  obtain ⟨k, m, r⟩ := h.mem hv
  exact r.lk (b k m).1 (by have := (b k m).2.1; omega)
theorem ks_dp {K : PySem.W.Frag} {H : Hp} {vs : List V} {ks : List Kd} (h : All2 (KAt H) vs ks) : DpAll K H vs (ks.map Kd.dat) := dps_of (R := KAt H) Kd.dat (fun _ _ h => h.dp) h
theorem ks_gd {ks : List Kd} (b : ∀ k ∈ ks, k.deep ≤ 8) (l : ks.length ≤ 100000) {n : Nat} (hn : 10 ≤ n) : Gd n (.list (ks.map Kd.dat)) := by
  obtain ⟨m, rfl⟩ : ∃ m, n = m + 1 := ⟨n - 1, by omega⟩
  refine ⟨by rw [List.length_map]; exact l, fun d hd => ?_⟩
  obtain ⟨k, hk, rfl⟩ := List.mem_map.mp hd
  exact Gd.kd.mono (by have := b k hk; omega)
theorem rows_gd {ps : List (Str × Int)} (l : ps.length ≤ 100000) {n : Nat} (hn : 3 ≤ n) : Gd n (.list (ps.map rowDat)) := by
  obtain ⟨m, rfl⟩ : ∃ m, n = m + 3 := ⟨n - 3, by omega⟩
  refine ⟨by rw [List.length_map]; exact l, fun d hd => ?_⟩
  obtain ⟨k, hk, rfl⟩ := List.mem_map.mp hd
  refine ⟨by show 2 ≤ 100000; decide, fun d hd => ?_⟩
  simp only [List.mem_cons, List.not_mem_nil, or_false] at hd
  rcases hd with rfl | rfl <;> exact trivial
theorem All2.rev {α β : Type} {R : α → β → Prop} : ∀ {xs : List α} {ys : List β}, All2 R xs ys → All2 R xs.reverse ys.reverse
  | [], [], _ => trivial
  | x :: xs, y :: ys, h => by
    rw [List.reverse_cons, List.reverse_cons]
    exact All2.snoc h.1 (All2.rev h.2)
  | [], _ :: _, h => h.elim
  | _ :: _, [], h => h.elim
/-! ### turned -/
def turnF (f : Str) : Str := if f = "behind" then "ahead" else if f = "ahead" then "behind" else f
theorem behind_ahead : ¬ (Str.ofString "behind" = Str.ofString "ahead") := by decide +kernel
theorem ahead_behind : ¬ (Str.ofString "ahead" = Str.ofString "behind") := by decide +kernel
theorem with_behind : ¬ (Str.ofString "with" = Str.ofString "behind") := by decide +kernel
theorem with_ahead : ¬ (Str.ofString "with" = Str.ofString "ahead") := by decide +kernel
theorem behind_with : ¬ (Str.ofString "behind" = Str.ofString "with") := by decide +kernel
theorem ahead_with : ¬ (Str.ofString "ahead" = Str.ofString "with") := by decide +kernel
theorem turnF_b : turnF "behind" = "ahead" := if_pos rfl
theorem turnF_a : turnF "ahead" = "behind" := by
  show (if Str.ofString "ahead" = Str.ofString "behind" then _ else _) = _
  rw [if_neg ahead_behind]
  exact if_pos rfl
theorem turnF_w : turnF "with" = "with" := by
  show (if Str.ofString "with" = Str.ofString "behind" then _ else _) = _
  rw [if_neg with_behind]
  exact if_neg with_ahead
def Kd.turn : Kd → Kd
  | .pl s => .pl s
  | .nd f a b => .nd (turnF f) b.turn a.turn
theorem turnF_form {f : Str} (h : Form f) : Form (turnF f) := by
  rcases h with rfl | rfl | rfl
  · exact .inr (.inl turnF_b)
  · exact .inl turnF_a
  · exact .inr (.inr turnF_w)
theorem turnF_twice {f : Str} (h : Form f) : turnF (turnF f) = f := by
  rcases h with rfl | rfl | rfl
  · rw [turnF_b, turnF_a]
  · rw [turnF_a, turnF_b]
  · rw [turnF_w, turnF_w]
theorem Kd.turn_ok : ∀ {k : Kd}, k.ok → k.turn.ok
  | .pl _, h => h
  | .nd _ _ _, ⟨h, a, b⟩ => ⟨turnF_form h, Kd.turn_ok b, Kd.turn_ok a⟩
theorem Kd.turn_deep : ∀ k : Kd, k.turn.deep = k.deep
  | .pl _ => rfl
  | .nd f a b => by
    show 1 + max b.turn.deep a.turn.deep = 1 + max a.deep b.deep
    rw [Kd.turn_deep a, Kd.turn_deep b]
    omega
theorem Kd.turn_turn : ∀ {k : Kd}, k.ok → k.turn.turn = k
  | .pl _, _ => rfl
  | .nd f a b, ⟨h, x, y⟩ => by
    show Kd.nd (turnF (turnF f)) a.turn.turn b.turn.turn = _
    rw [turnF_twice h, Kd.turn_turn x, Kd.turn_turn y]
theorem Kd.turn_letters : ∀ k : Kd, k.turn.letters = k.letters.reverse
  | .pl _ => rfl
  | .nd f a b => by
    show b.turn.letters ++ a.turn.letters = (a.letters ++ b.letters).reverse
    rw [Kd.turn_letters a, Kd.turn_letters b, List.reverse_append]
theorem Kd.turn_single : ∀ {k : Kd}, k.ok → k.turn.single = k.single
  | .pl _, _ => rfl
  | .nd f a b, ⟨h, x, y⟩ => by
    show (!decide (turnF f = "with") && (b.turn.single && a.turn.single)) = (!decide (f = "with") && (a.single && b.single))
    rw [Kd.turn_single x, Kd.turn_single y, Bool.and_comm b.single]
    rcases h with rfl | rfl | rfl
    · rw [turnF_b, decide_eq_false behind_with, decide_eq_false ahead_with]
    · rw [turnF_a, decide_eq_false behind_with, decide_eq_false ahead_with]
    · rw [turnF_w]
theorem Kd.turn_kb {k : Kd} (h : KB k) : KB k.turn := by
  refine ⟨Kd.turn_ok h.1, ?_, ?_⟩
  · rw [k.turn_deep]
    exact h.2.1
  · rw [k.turn_letters, List.length_reverse]
    exact h.2.2
/-! ### the signed letters of a kind -/
def Kd.sgn : Kd → Int → List (Str × Int)
  | .pl x, s => [(x, s)]
  | .nd f a b, s => if s = 1 then a.sgn (if f = "ahead" then -s else s) ++ b.sgn (if f = "behind" then -s else s) else b.sgn (if f = "behind" then -s else s) ++ a.sgn (if f = "ahead" then -s else s)
theorem Kd.sgn_len : ∀ (k : Kd) (s : Int), (k.sgn s).length = k.letters.length
  | .pl _, _ => rfl
  | .nd f a b, s => by
    show (if s = 1 then _ else _ : List (Str × Int)).length = (a.letters ++ b.letters).length
    by_cases h : s = 1
    · rw [if_pos h, List.length_append, List.length_append, Kd.sgn_len, Kd.sgn_len]
    · rw [if_neg h, List.length_append, List.length_append, Kd.sgn_len, Kd.sgn_len]
      omega
theorem Kd.sgn_mem : ∀ (k : Kd) (s : Int) (x : Str), x ∈ (k.sgn s).map (·.1) ↔ x ∈ k.letters
  | .pl y, s, x => by simp [Kd.sgn, Kd.letters]
  | .nd f a b, s, x => by
    show x ∈ (if s = 1 then _ else _ : List (Str × Int)).map (·.1) ↔ x ∈ a.letters ++ b.letters
    by_cases h : s = 1
    · rw [if_pos h, List.map_append, List.mem_append, List.mem_append, Kd.sgn_mem, Kd.sgn_mem]
    · rw [if_neg h, List.map_append, List.mem_append, List.mem_append, Kd.sgn_mem, Kd.sgn_mem]
      exact Or.comm
theorem Kd.sgn_turn : ∀ {k : Kd} (s : Int), k.ok → k.turn.sgn s = (k.sgn s).reverse
  | .pl _, _, _ => rfl
  | .nd f a b, s, ⟨h, x, y⟩ => by
    show (if s = 1 then b.turn.sgn (if turnF f = "ahead" then -s else s) ++ a.turn.sgn (if turnF f = "behind" then -s else s) else a.turn.sgn (if turnF f = "behind" then -s else s) ++ b.turn.sgn (if turnF f = "ahead" then -s else s)) = (if s = 1 then _ else _ : List (Str × Int)).reverse
    have e1 : (turnF f = "ahead") ↔ (f = "behind") := by
      rcases h with rfl | rfl | rfl
      · rw [turnF_b]
        exact ⟨fun _ => rfl, fun _ => rfl⟩
      · rw [turnF_a]
        exact ⟨fun z => (behind_ahead z).elim, fun z => (ahead_behind z).elim⟩
      · rw [turnF_w]
        exact ⟨fun z => (with_ahead z).elim, fun z => (with_behind z).elim⟩
    have e2 : (turnF f = "behind") ↔ (f = "ahead") := by
      rcases h with rfl | rfl | rfl
      · rw [turnF_b]
        exact ⟨fun z => (ahead_behind z).elim, fun z => (behind_ahead z).elim⟩
      · rw [turnF_a]
        exact ⟨fun _ => rfl, fun _ => rfl⟩
      · rw [turnF_w]
        exact ⟨fun z => (with_behind z).elim, fun z => (with_ahead z).elim⟩
    simp only [e1, e2]
    rw [Kd.sgn_turn _ x, Kd.sgn_turn _ y]
    by_cases c : s = 1
    · rw [if_pos c, if_pos c, List.reverse_append]
    · rw [if_neg c, if_neg c, List.reverse_append]
def rowSgn (ks : List Kd) : List (Str × Int) := ks.flatMap fun k => k.sgn 1
theorem rowSgn_turn : ∀ {ks : List Kd}, (∀ k ∈ ks, k.ok) → rowSgn (ks.reverse.map Kd.turn) = (rowSgn ks).reverse
  | [], _ => rfl
  | k :: ks, h => by
    have ih := rowSgn_turn fun x hx => h x (List.mem_cons_of_mem _ hx)
    have hk := h k List.mem_cons_self
    unfold rowSgn at ih ⊢
    rw [List.reverse_cons, List.map_append, List.flatMap_append, ih, List.flatMap_cons, List.reverse_append, List.map_cons, List.map_nil, List.flatMap_cons, List.flatMap_nil, List.append_nil, Kd.sgn_turn _ hk]
/-! ### what is left when all that cancels is taken out -/
def inv (p : Str × Int) : Str × Int := (p.1, -p.2)
theorem inv_inv (p : Str × Int) : inv (inv p) = p := by
  obtain ⟨a, i⟩ := p
  show (a, - -i) = (a, i)
  rw [Int.neg_neg]
theorem inv_sym {p q : Str × Int} (h : q = inv p) : p = inv q := by rw [h, inv_inv]
def rstep (st : List (Str × Int)) (p : Str × Int) : List (Str × Int) := match st with
  | [] => [p]
  | q :: r => if q = inv p then r else p :: q :: r
def fold (st ps : List (Str × Int)) : List (Str × Int) := ps.foldl rstep st
def red (ps : List (Str × Int)) : List (Str × Int) := (fold [] ps).reverse
def Rd0 : List (Str × Int) → Prop
  | [] => True
  | [_] => True
  | p :: q :: r => q ≠ inv p ∧ Rd0 (q :: r)
theorem Rd0.tail {p : Str × Int} : ∀ {r : List (Str × Int)}, Rd0 (p :: r) → Rd0 r
  | [], _ => trivial
  | _ :: _, h => h.2
theorem rstep_rd {st : List (Str × Int)} {p : Str × Int} (h : Rd0 st) : Rd0 (rstep st p) := by
  cases st with
  | nil => exact trivial
  | cons q r =>
    show Rd0 (if q = inv p then r else p :: q :: r)
    by_cases c : q = inv p
    · rw [if_pos c]
      exact h.tail
    · rw [if_neg c]
      exact ⟨c, h⟩
theorem fold_rd : ∀ {ps st : List (Str × Int)}, Rd0 st → Rd0 (fold st ps)
  | [], _, h => h
  | _ :: ps, _, h => fold_rd (ps := ps) (rstep_rd h)
theorem rstep_back {st : List (Str × Int)} {p : Str × Int} (h : Rd0 st) : rstep (rstep st p) (inv p) = st := by
  cases st with
  | nil =>
    show (if p = inv (inv p) then [] else _) = []
    rw [if_pos (inv_inv p).symm]
  | cons q r =>
    show rstep (if q = inv p then r else p :: q :: r) (inv p) = q :: r
    by_cases c : q = inv p
    · rw [if_pos c]
      cases r with
      | nil => rw [c]; rfl
      | cons q2 r2 =>
        show (if q2 = inv (inv p) then r2 else inv p :: q2 :: r2) = _
        have n : ¬ q2 = inv (inv p) := fun z => h.1 (by rw [z, c])
        rw [if_neg n, c]
    · rw [if_neg c]
      show (if p = inv (inv p) then q :: r else _) = q :: r
      rw [if_pos (inv_inv p).symm]
theorem fold_app (st a b : List (Str × Int)) : fold st (a ++ b) = fold (fold st a) b := List.foldl_append
theorem snoc_ind {α : Type} {P : List α → Prop} (h0 : P []) (hs : ∀ l x, P l → P (l ++ [x])) (l : List α) : P l := by
  have g : ∀ m : List α, P m.reverse := by
    intro m
    induction m with
    | nil => exact h0
    | cons x m ih =>
      rw [List.reverse_cons]
      exact hs _ _ ih
  have := g l.reverse
  rw [List.reverse_reverse] at this
  exact this
theorem fold_red (l : List (Str × Int)) : ∀ st, Rd0 st → fold st l = fold st (red l) := by
  refine snoc_ind (P := fun l => ∀ st, Rd0 st → fold st l = fold st (red l)) (fun _ _ => rfl) (fun l p ih st hst => ?_) l
  have e : fold [] (l ++ [p]) = rstep (fold [] l) p := fold_app [] l [p]
  unfold red at ih ⊢
  rw [e, fold_app st l [p], ih st hst]
  have hr : Rd0 (fold [] l) := fold_rd trivial
  revert hr
  cases fold [] l with
  | nil => intro _; rfl
  | cons q r =>
    intro hr
    show rstep (fold st (q :: r).reverse) p = fold st (if q = inv p then r else p :: q :: r).reverse
    by_cases c : q = inv p
    · rw [if_pos c, List.reverse_cons, fold_app, inv_sym c]
      exact rstep_back (fold_rd hst)
    · rw [if_neg c, List.reverse_cons (a := p), fold_app st _ [p]]
      rfl
theorem fold_rev (l : List (Str × Int)) : ∀ st, Rd0 st → fold st l.reverse = fold st (fold [] l) := by
  refine snoc_ind (P := fun l => ∀ st, Rd0 st → fold st l.reverse = fold st (fold [] l)) (fun _ _ => rfl) (fun l p ih st hst => ?_) l
  have e : fold [] (l ++ [p]) = rstep (fold [] l) p := fold_app [] l [p]
  rw [e, List.reverse_append]
  show fold (rstep st p) l.reverse = _
  rw [ih _ (rstep_rd hst)]
  cases fold [] l with
  | nil => rfl
  | cons q r =>
    show fold (rstep (rstep st p) q) r = fold st (if q = inv p then r else p :: q :: r)
    by_cases c : q = inv p
    · rw [if_pos c, c, rstep_back hst]
    · rw [if_neg c]
      rfl
theorem fold_of_rd : ∀ {w acc : List (Str × Int)}, Rd0 w → (∀ p r q s, w = p :: r → acc = q :: s → q ≠ inv p) → fold acc w = w.reverse ++ acc
  | [], _, _, _ => rfl
  | p :: r, acc, h, c => by
    have e : rstep acc p = p :: acc := by
      cases acc with
      | nil => rfl
      | cons q s => exact if_neg (c p r q s rfl rfl)
    show fold (rstep acc p) r = (p :: r).reverse ++ acc
    rw [e, fold_of_rd h.tail (fun p2 r2 q s e1 e2 => by
      subst e1
      obtain ⟨e3, _⟩ := List.cons.inj e2
      subst e3
      exact fun z => h.1 (inv_sym z)), List.reverse_cons, List.append_assoc]
    rfl
theorem red_rev (l : List (Str × Int)) : red l.reverse = (red l).reverse := by
  unfold red
  have h : Rd0 (fold [] l) := fold_rd (st := []) trivial
  rw [fold_rev l [] trivial, fold_of_rd h (fun _ _ _ _ _ z => by cases z), List.append_nil]
theorem red_mem (l : List (Str × Int)) : ∀ x ∈ red l, x ∈ l := by
  refine snoc_ind (P := fun l => ∀ x ∈ red l, x ∈ l) (fun _ z => nomatch z) (fun l p ih x hx => ?_) l
  have e : fold [] (l ++ [p]) = rstep (fold [] l) p := fold_app [] l [p]
  unfold red at ih hx
  rw [e, List.mem_reverse] at hx
  have ih' : ∀ y ∈ fold [] l, y ∈ l := fun y hy => ih y (List.mem_reverse.mpr hy)
  revert hx ih'
  cases fold [] l with
  | nil =>
    intro hx _
    exact List.mem_append_right _ hx
  | cons q r =>
    intro hx ih'
    have hx' : x ∈ (if q = inv p then r else p :: q :: r) := hx
    by_cases c : q = inv p
    · rw [if_pos c] at hx'
      exact List.mem_append_left _ (ih' x (List.mem_cons_of_mem _ hx'))
    · rw [if_neg c] at hx'
      rcases List.mem_cons.mp hx' with rfl | h
      · exact List.mem_append_right _ (List.mem_singleton.mpr rfl)
      · exact List.mem_append_left _ (ih' x h)
theorem fold_len : ∀ (ps st : List (Str × Int)), (fold st ps).length ≤ st.length + ps.length
  | [], st => Nat.le_refl _
  | p :: ps, st => by
    have h := fold_len ps (rstep st p)
    have e : (rstep st p).length ≤ st.length + 1 := by
      cases st with
      | nil => exact Nat.le_refl _
      | cons q r =>
        show (if q = inv p then r else p :: q :: r).length ≤ _
        by_cases c : q = inv p
        · rw [if_pos c, List.length_cons]
          omega
        · rw [if_neg c]
          exact Nat.le_refl _
    show (fold (rstep st p) ps).length ≤ st.length + (ps.length + 1)
    omega
/-! ### the balance -/
def cnt : List (Str × Int) → Str → Int
  | [], _ => 0
  | p :: ps, s => (if p.1 = s then p.2 else 0) + cnt ps s
theorem cnt_app (s : Str) : ∀ a b : List (Str × Int), cnt (a ++ b) s = cnt a s + cnt b s
  | [], b => by
    show cnt b s = 0 + cnt b s
    omega
  | p :: a, b => by
    show _ + cnt (a ++ b) s = _ + cnt a s + cnt b s
    rw [cnt_app s a b]
    omega
theorem cnt_rev (s : Str) : ∀ a : List (Str × Int), cnt a.reverse s = cnt a s
  | [] => rfl
  | p :: a => by
    rw [List.reverse_cons, cnt_app, cnt_rev s a]
    show _ + (_ + 0) = _ + _
    omega
def bal (ps : List (Str × Int)) (ss : List Str) : List (Str × Int) := (ss.map fun s => (s, cnt ps s)).filter fun x => decide (x.2 ≠ 0)
/-- a dict of counts -/
def DC (kvs : List (L2.Key × V)) (ps : List (Str × Int)) : Prop := ∃ ks : List Str, kvs.map (·.1) = ks.map Sum.inr ∧ ks.Nodup ∧ (∀ s, s ∈ ks ↔ s ∈ ps.map (·.1)) ∧ ∀ s, valV kvs (.inr s) = if s ∈ ks then some (.int (cnt ps s)) else none
theorem DC.nil : DC [] [] := ⟨[], rfl, List.nodup_nil, fun _ => Iff.rfl, fun s => by rw [if_neg (by simp)]; rfl⟩
theorem cnt_out {s : Str} : ∀ {ps : List (Str × Int)}, s ∉ ps.map (·.1) → cnt ps s = 0
  | [], _ => rfl
  | p :: ps, h => by
    rw [List.map_cons, List.mem_cons, not_or] at h
    show (if p.1 = s then p.2 else 0) + cnt ps s = 0
    rw [if_neg (fun z => h.1 z.symm), cnt_out h.2]
    rfl
theorem DC.get {kvs : List (L2.Key × V)} {ps : List (Str × Int)} (h : DC kvs ps) (s : Str) : (valV kvs (.inr s)).getD (.int 0) = .int (cnt ps s) := by
  obtain ⟨ks, h1, h2, h3, h4⟩ := h
  rw [h4]
  by_cases c : s ∈ ks
  · rw [if_pos c]
    rfl
  · rw [if_neg c, cnt_out fun z => c ((h3 s).2 z)]
    rfl
theorem putK_keys {kvs : List (L2.Key × V)} {k : L2.Key} {y : V} (h : k ∈ kvs.map (·.1)) : (putK kvs k y).map (·.1) = kvs.map (·.1) := by
  unfold putK
  have a : (kvs.any fun kv => decide (kv.1 = k)) = true := by
    obtain ⟨x, m, e⟩ := List.mem_map.mp h
    exact List.any_eq_true.mpr ⟨x, m, decide_eq_true e⟩
  rw [if_pos a, List.map_map]
  refine List.map_congr_left fun x _ => ?_
  show (if x.1 = k then (x.1, y) else x).1 = x.1
  split <;> rfl
theorem DC.put {kvs : List (L2.Key × V)} {ps : List (Str × Int)} (h : DC kvs ps) (p : Str × Int) : DC (putK kvs (.inr p.1) (.int (cnt ps p.1 + p.2))) (ps ++ [p]) := by
  obtain ⟨ks, h1, h2, h3, h4⟩ := h
  have cs : ∀ s, cnt (ps ++ [p]) s = cnt ps s + (if p.1 = s then p.2 else 0) := fun s => by
    rw [cnt_app]
    show _ + (_ + 0) = _
    omega
  by_cases c : p.1 ∈ ks
  · refine ⟨ks, ?_, h2, fun s => ?_, fun s => ?_⟩
    · rw [putK_keys (by rw [h1]; exact List.mem_map_of_mem c), h1]
    · rw [List.map_append, List.mem_append, ← h3 s]
      refine ⟨.inl, fun z => z.elim id fun z => ?_⟩
      have e : s = p.1 := by simpa using z
      rw [e]
      exact c
    · rw [valV_put, h4, cs]
      by_cases e : s = p.1
      · subst e
        rw [if_pos rfl, if_pos c, if_pos rfl]
      · have e2 : ¬ p.1 = s := fun z => e z.symm
        have e3 : ¬ (Sum.inr s : L2.Key) = Sum.inr p.1 := fun z => e (Sum.inr.inj z)
        rw [if_neg e3, if_neg e2, Int.add_zero]
  · have nv : valV kvs (.inr p.1) = none := by rw [h4, if_neg c]
    refine ⟨ks ++ [p.1], ?_, ?_, fun s => ?_, fun s => ?_⟩
    · rw [putK_new _ nv, List.map_append, h1, List.map_append]
      rfl
    · rw [List.nodup_append]
      refine ⟨h2, by simp, fun a ha b hb z => ?_⟩
      rw [List.mem_singleton] at hb
      rw [z, hb] at ha
      exact c ha
    · rw [List.map_append, List.mem_append, List.mem_append, h3 s]
      rfl
    · rw [valV_put, h4, cs]
      by_cases e : s = p.1
      · subst e
        rw [if_pos rfl, if_pos (List.mem_append_right _ (List.mem_singleton.mpr rfl)), if_pos rfl]
      · have e2 : ¬ p.1 = s := fun z => e z.symm
        have e3 : ¬ (Sum.inr s : L2.Key) = Sum.inr p.1 := fun z => e (Sum.inr.inj z)
        rw [if_neg e3, if_neg e2, Int.add_zero]
        by_cases c2 : s ∈ ks
        · rw [if_pos c2, if_pos (List.mem_append_left _ c2)]
        · rw [if_neg c2, if_neg (fun z => (List.mem_append.mp z).elim c2 fun z => e (List.mem_singleton.mp z))]
end Ww

namespace Ww
open PySem PySem.Spec PyProof.Rows L2
theorem All2.kat {H H' : Hp} {xs : List V} {ks : List Kd} (e : Tps H H') (w : All2 (KAt H) xs ks) : All2 (KAt H') xs ks := w.mono fun _ _ h => h.mono e
theorem All2.row {H H' : Hp} {xs : List V} {ks : List (Str × Int)} (e : Tps H H') (w : All2 (RowAt H) xs ks) : All2 (RowAt H') xs ks := w.mono (RowAt.mono e)
/-- all but a and h stands -/
def Bt2 (a h : Addr) (H H' : Hp) : Prop := ∀ b o, b ≠ a → b ≠ h → H b = some o → H' b = some o
theorem Bt2.refl (a h : Addr) (H : Hp) : Bt2 a h H H := fun _ _ _ _ q => q
theorem Bt2.trans {a h : Addr} {H H1 H2 : Hp} (x : Bt2 a h H H1) (y : Bt2 a h H1 H2) : Bt2 a h H H2 := fun b o n m q => y b o n m (x b o n m q)
theorem Bt2.of {a h : Addr} {H H' : Hp} (e : Same H H') : Bt2 a h H H' := fun b o _ _ q => e b o q
theorem Bt2.but {a h : Addr} {H H' : Hp} (e : But a H H') : Bt2 a h H H' := fun b o n _ q => e b o n q
theorem Bt2.mut {a h p : Addr} {H H' : Hp} (e : Bt2 a h H H') (n : H p = none) (o : HO) : Bt2 a h H (upd H' p o) := fun b u x y q => by
  rw [upd_ne (ne_of_none q n)]
  exact e b u x y q
theorem Bt2.at2 {a h : Addr} {H H' : Hp} (e : Bt2 a h H H') (o : HO) : Bt2 a h H (upd H' h o) := fun b u x y q => by
  rw [upd_ne y]
  exact e b u x y q
theorem Bt2.tps {a h : Addr} {H H' : Hp} {xs ys : List V} (e : Bt2 a h H H') (ha : H a = some (.lst xs)) (hh : H h = some (.lst ys)) : Tps H H' := fun b zs q =>
  e b _ (ne_of q ha (fun z => by cases z)) (ne_of q hh (fun z => by cases z)) q
theorem str_app (x y : Str) : (x ++ y).cps.toList = x.cps.toList ++ y.cps.toList := PySem.W.KT.app_list x y
theorem str_len_app (x y : Str) : (x ++ y).length = x.length + y.length := by
  rw [len_cps, len_cps, len_cps, str_app, List.length_append]
theorem AllLet.app {x y : Str} (a : AllLet x) (b : AllLet y) : AllLet (x ++ y) := fun c hc => by
  rw [str_app] at hc
  rcases List.mem_append.mp hc with z | z
  · exact a c z
  · exact b c z
theorem rowSgn_snoc (ks : List Kd) (k : Kd) : (rowSgn (ks ++ [k])).length = (rowSgn ks).length + k.letters.length := by
  unfold rowSgn
  rw [List.flatMap_append, List.length_append]
  show _ + ([k].flatMap _).length = _
  rw [List.flatMap_cons, List.flatMap_nil, List.append_nil, k.sgn_len]
end Ww

namespace K02
open PySem PySem.Spec PyProof.Rows L2 Ww
def top (i : Nat) : Stmt := PySem.Challenge.pw_waitwords_k02_whole_turned_kinds.main.body.getD i (.Pass ⟨0, 0, 0, 0⟩)
abbrev s_is_letter : Stmt := top 9
abbrev N_is_letter : List Str := ["text"]
abbrev P_is_letter : List Str := ["text"]
theorem sc_is_letter : FnScope N_is_letter P_is_letter (defScope s_is_letter) := ⟨rfl, rfl, rfl, by decide +kernel, rfl, by decide +kernel, by decide +kernel⟩

abbrev s_wrong_part : Stmt := top 10
abbrev N_wrong_part : List Str := ["kind", "wrong"]
abbrev P_wrong_part : List Str := ["kind"]
theorem sc_wrong_part : FnScope N_wrong_part P_wrong_part (defScope s_wrong_part) := ⟨rfl, rfl, rfl, by decide +kernel, rfl, by decide +kernel, by decide +kernel⟩

abbrev s_checked_kind : Stmt := top 11
abbrev N_checked_kind : List Str := ["kind", "wrong"]
abbrev P_checked_kind : List Str := ["kind"]
theorem sc_checked_kind : FnScope N_checked_kind P_checked_kind (defScope s_checked_kind) := ⟨rfl, rfl, rfl, by decide +kernel, rfl, by decide +kernel, by decide +kernel⟩

abbrev s_checked_kinds : Stmt := top 12
abbrev N_checked_kinds : List Str := ["kinds", "kind"]
abbrev P_checked_kinds : List Str := ["kinds"]
theorem sc_checked_kinds : FnScope N_checked_kinds P_checked_kinds (defScope s_checked_kinds) := ⟨rfl, rfl, rfl, by decide +kernel, rfl, by decide +kernel, by decide +kernel⟩

abbrev s_checked_row : Stmt := top 13
abbrev N_checked_row : List Str := ["row"]
abbrev P_checked_row : List Str := ["row"]
theorem sc_checked_row : FnScope N_checked_row P_checked_row (defScope s_checked_row) := ⟨rfl, rfl, rfl, by decide +kernel, rfl, by decide +kernel, by decide +kernel⟩

abbrev s_single : Stmt := top 14
abbrev N_single : List Str := ["kind"]
abbrev P_single : List Str := ["kind"]
theorem sc_single : FnScope N_single P_single (defScope s_single) := ⟨rfl, rfl, rfl, by decide +kernel, rfl, by decide +kernel, by decide +kernel⟩

abbrev s_letters_of : Stmt := top 15
abbrev N_letters_of : List Str := ["kind"]
abbrev P_letters_of : List Str := ["kind"]
theorem sc_letters_of : FnScope N_letters_of P_letters_of (defScope s_letters_of) := ⟨rfl, rfl, rfl, by decide +kernel, rfl, by decide +kernel, by decide +kernel⟩

abbrev s_depth_of : Stmt := top 16
abbrev N_depth_of : List Str := ["kind"]
abbrev P_depth_of : List Str := ["kind"]
theorem sc_depth_of : FnScope N_depth_of P_depth_of (defScope s_depth_of) := ⟨rfl, rfl, rfl, by decide +kernel, rfl, by decide +kernel, by decide +kernel⟩

abbrev s_turned_kind : Stmt := top 17
abbrev N_turned_kind : List Str := ["kind"]
abbrev P_turned_kind : List Str := ["kind"]
theorem sc_turned_kind : FnScope N_turned_kind P_turned_kind (defScope s_turned_kind) := ⟨rfl, rfl, rfl, by decide +kernel, rfl, by decide +kernel, by decide +kernel⟩

abbrev s_signed : Stmt := top 18
abbrev N_signed : List Str := ["kind", "sign", "first", "second"]
abbrev P_signed : List Str := ["kind", "sign"]
theorem sc_signed : FnScope N_signed P_signed (defScope s_signed) := ⟨rfl, rfl, rfl, by decide +kernel, rfl, by decide +kernel, by decide +kernel⟩

abbrev s_row_signed : Stmt := top 19
abbrev N_row_signed : List Str := ["row", "kind", "pair"]
abbrev P_row_signed : List Str := ["row"]
theorem sc_row_signed : FnScope N_row_signed P_row_signed (defScope s_row_signed) := ⟨rfl, rfl, rfl, by decide +kernel, rfl, by decide +kernel, by decide +kernel⟩

abbrev s_cancelled : Stmt := top 20
abbrev N_cancelled : List Str := ["pairs", "found", "letter", "sign"]
abbrev P_cancelled : List Str := ["pairs"]
theorem sc_cancelled : FnScope N_cancelled P_cancelled (defScope s_cancelled) := ⟨rfl, rfl, rfl, by decide +kernel, rfl, by decide +kernel, by decide +kernel⟩

abbrev s_letters : Stmt := top 21
abbrev N_letters : List Str := ["kind"]
abbrev P_letters : List Str := ["kind"]
theorem sc_letters : FnScope N_letters P_letters (defScope s_letters) := ⟨rfl, rfl, rfl, by decide +kernel, rfl, by decide +kernel, by decide +kernel⟩

abbrev s_size : Stmt := top 22
abbrev N_size : List Str := ["kind"]
abbrev P_size : List Str := ["kind"]
theorem sc_size : FnScope N_size P_size (defScope s_size) := ⟨rfl, rfl, rfl, by decide +kernel, rfl, by decide +kernel, by decide +kernel⟩

abbrev s_depth : Stmt := top 23
abbrev N_depth : List Str := ["kind"]
abbrev P_depth : List Str := ["kind"]
theorem sc_depth : FnScope N_depth P_depth (defScope s_depth) := ⟨rfl, rfl, rfl, by decide +kernel, rfl, by decide +kernel, by decide +kernel⟩

abbrev s_is_single : Stmt := top 24
abbrev N_is_single : List Str := ["kind"]
abbrev P_is_single : List Str := ["kind"]
theorem sc_is_single : FnScope N_is_single P_is_single (defScope s_is_single) := ⟨rfl, rfl, rfl, by decide +kernel, rfl, by decide +kernel, by decide +kernel⟩

abbrev s_turned : Stmt := top 25
abbrev N_turned : List Str := ["kind"]
abbrev P_turned : List Str := ["kind"]
theorem sc_turned : FnScope N_turned P_turned (defScope s_turned) := ⟨rfl, rfl, rfl, by decide +kernel, rfl, by decide +kernel, by decide +kernel⟩

abbrev s_turned_row : Stmt := top 26
abbrev N_turned_row : List Str := ["row", "kind"]
abbrev P_turned_row : List Str := ["row"]
theorem sc_turned_row : FnScope N_turned_row P_turned_row (defScope s_turned_row) := ⟨rfl, rfl, rfl, by decide +kernel, rfl, by decide +kernel, by decide +kernel⟩

abbrev s_balance : Stmt := top 27
abbrev N_balance : List Str := ["row", "counts", "letter", "sign"]
abbrev P_balance : List Str := ["row"]
theorem sc_balance : FnScope N_balance P_balance (defScope s_balance) := ⟨rfl, rfl, rfl, by decide +kernel, rfl, by decide +kernel, by decide +kernel⟩

abbrev s_word : Stmt := top 28
abbrev N_word : List Str := ["row"]
abbrev P_word : List Str := ["row"]
theorem sc_word : FnScope N_word P_word (defScope s_word) := ⟨rfl, rfl, rfl, by decide +kernel, rfl, by decide +kernel, by decide +kernel⟩

abbrev s_begun : Stmt := top 30
abbrev N_begun : List Str := ["_law_script", "_law_great", "_law_number", "_law_k"]
abbrev P_begun : List Str := ["_law_script"]
theorem sc_begun : FnScope N_begun P_begun (defScope s_begun) := ⟨rfl, rfl, rfl, by decide +kernel, rfl, by decide +kernel, by decide +kernel⟩

abbrev s_pick : Stmt := top 31
abbrev N_pick : List Str := ["_law_source", "_law_many", "_law_found", "_law_stirred"]
abbrev P_pick : List Str := ["_law_source", "_law_many"]
theorem sc_pick : FnScope N_pick P_pick (defScope s_pick) := ⟨rfl, rfl, rfl, by decide +kernel, rfl, by decide +kernel, by decide +kernel⟩

abbrev s_alike : Stmt := top 32
abbrev N_alike : List Str := ["_law_found", "_law_due", "_law_one", "_law_other"]
abbrev P_alike : List Str := ["_law_found", "_law_due"]
theorem sc_alike : FnScope N_alike P_alike (defScope s_alike) := ⟨rfl, rfl, rfl, by decide +kernel, rfl, by decide +kernel, by decide +kernel⟩

abbrev s_pool : Stmt := top 33
abbrev N_pool : List Str := ["_law_source", "_law_signs", "_law_many", "_law_k"]
abbrev P_pool : List Str := ["_law_source"]
theorem sc_pool : FnScope N_pool P_pool (defScope s_pool) := ⟨rfl, rfl, rfl, by decide +kernel, rfl, by decide +kernel, by decide +kernel⟩

abbrev s_grown : Stmt := top 34
abbrev N_grown : List Str := ["_law_source", "_law_most", "_law_deep", "_law_forms", "_law_signs", "_law_form", "_law_first", "_law_one"]
abbrev P_grown : List Str := ["_law_source", "_law_most", "_law_deep", "_law_forms", "_law_signs"]
theorem sc_grown : FnScope N_grown P_grown (defScope s_grown) := ⟨rfl, rfl, rfl, by decide +kernel, rfl, by decide +kernel, by decide +kernel⟩

abbrev s_places : Stmt := top 35
abbrev N_places : List Str := ["_law_kind", "_law_found", "_law_left", "_law_part", "_law_deep"]
abbrev P_places : List Str := ["_law_kind"]
theorem sc_places : FnScope N_places P_places (defScope s_places) := ⟨rfl, rfl, rfl, by decide +kernel, rfl, by decide +kernel, by decide +kernel⟩

abbrev s_mirror : Stmt := top 36
abbrev N_mirror : List Str := ["_law_kind", "_law_form"]
abbrev P_mirror : List Str := ["_law_kind"]
theorem sc_mirror : FnScope N_mirror P_mirror (defScope s_mirror) := ⟨rfl, rfl, rfl, by decide +kernel, rfl, by decide +kernel, by decide +kernel⟩

abbrev s_row : Stmt := top 37
abbrev N_row : List Str := ["_law_source", "_law_signs", "_law_singles", "_law_left", "_law_forms", "_law_row_here", "_law_k"]
abbrev P_row : List Str := ["_law_source"]
theorem sc_row : FnScope N_row P_row (defScope s_row) := ⟨rfl, rfl, rfl, by decide +kernel, rfl, by decide +kernel, by decide +kernel⟩

abbrev s_of_kind : Stmt := top 38
abbrev N_of_kind : List Str := ["_law_kind", "_law_made", "_law_due"]
abbrev P_of_kind : List Str := ["_law_kind"]
theorem sc_of_kind : FnScope N_of_kind P_of_kind (defScope s_of_kind) := ⟨rfl, rfl, rfl, by decide +kernel, rfl, by decide +kernel, by decide +kernel⟩

abbrev s_law : Stmt := top 39
abbrev N_law : List Str := ["_law_script", "_law_source", "_law_held", "_law_k", "_law_row_here", "_law_due", "_law_kind", "_law_passed", "_law_made"]
abbrev P_law : List Str := ["_law_script"]
theorem sc_law : FnScope N_law P_law (defScope s_law) := ⟨rfl, rfl, rfl, by decide +kernel, rfl, by decide +kernel, by decide +kernel⟩

/-! ### promises -/
def spIsLetter : Sp := fun vs H Q _ => ∃ s : Str, vs = [.str s] ∧ s.length ≤ 1000000 ∧ Q (.bl (isLet s)) H
def spWrong (n : Nat) : Sp := fun vs H Q _ => ∃ (v : V) (k : Kd), vs = [v] ∧ KAt H v k ∧ k.ok ∧ k.deep ≤ n ∧ Q .non H
theorem spWrong_0 {vs : List V} {H : Hp} {Q : VK} {E : XK} (h : spWrong 0 vs H Q E) : False := by
  obtain ⟨v, k, _, _, _, hd, _⟩ := h
  have := k.deep_pos
  omega
def spChecked : Sp := fun vs H Q _ => ∃ (v : V) (k : Kd), vs = [v] ∧ KAt H v k ∧ k.ok ∧ k.deep ≤ 8 ∧ Q v H
def spSingle (n : Nat) : Sp := fun vs H Q _ => ∃ (v : V) (k : Kd), vs = [v] ∧ KAt H v k ∧ k.ok ∧ k.deep ≤ n ∧ Q (.bl k.single) H
theorem spSingle_0 {vs : List V} {H : Hp} {Q : VK} {E : XK} (h : spSingle 0 vs H Q E) : False := by
  obtain ⟨v, k, _, _, _, hd, _⟩ := h
  have := k.deep_pos
  omega
def spLettersOf (n : Nat) : Sp := fun vs H Q _ => ∃ (v : V) (k : Kd), vs = [v] ∧ KAt H v k ∧ k.ok ∧ k.deep ≤ n ∧ k.letters.length ≤ 1000 ∧
  ∀ p H', Same H H' → H' p = some (.lst (k.letters.map V.str)) → Q (.ref p) H'
theorem spLettersOf_0 {vs : List V} {H : Hp} {Q : VK} {E : XK} (h : spLettersOf 0 vs H Q E) : False := by
  obtain ⟨v, k, _, _, _, hd, _⟩ := h
  have := k.deep_pos
  omega
def spDepthOf (n : Nat) : Sp := fun vs H Q _ => ∃ (v : V) (k : Kd), vs = [v] ∧ KAt H v k ∧ k.ok ∧ k.deep ≤ n ∧ Q (.int (k.deep : Int)) H
theorem spDepthOf_0 {vs : List V} {H : Hp} {Q : VK} {E : XK} (h : spDepthOf 0 vs H Q E) : False := by
  obtain ⟨v, k, _, _, _, hd, _⟩ := h
  have := k.deep_pos
  omega
/-- a kind in the bounds of these laws -/
def KOk (H : Hp) (v : V) (k : Kd) : Prop := KAt H v k ∧ k.ok ∧ k.deep ≤ 8 ∧ k.letters.length ≤ 40
def spLetters : Sp := fun vs H Q _ => ∃ (v : V) (k : Kd), vs = [v] ∧ KOk H v k ∧ ∀ ss H', Same H H' → Srt k.letters ss → Q (.str (Txt.join "" ss)) H'
def spSize : Sp := fun vs H Q _ => ∃ (v : V) (k : Kd), vs = [v] ∧ KOk H v k ∧ ∀ H', Same H H' → Q (.int (k.letters.length : Int)) H'
def spDepth : Sp := fun vs H Q _ => ∃ (v : V) (k : Kd), vs = [v] ∧ KOk H v k ∧ Q (.int (k.deep : Int)) H
def spIsSingle : Sp := fun vs H Q _ => ∃ (v : V) (k : Kd), vs = [v] ∧ KOk H v k ∧ Q (.bl k.single) H
/-- the law's source of draws: the list at a, its great cells at g; at most n draws so far -/
def SrcAt (H : Hp) (a g : Addr) (n : Nat) : Prop := ∃ (gs : List Int) (i o m c : Int), a ≠ g ∧ H a = some (.lst [.ref g, .int i, .int o, .int m, .int c]) ∧ H g = some (.lst (gs.map V.int)) ∧
  gs.length ≤ 63 ∧ (∀ x ∈ gs, 0 ≤ x) ∧ 0 ≤ i ∧ i ≤ gs.length ∧ 0 ≤ o ∧ 0 ≤ m ∧ m < 10 ^ 18 ∧ 0 ≤ c ∧ c ≤ n
theorem SrcAt.mono {H H' : Hp} {a g : Addr} {n n' : Nat} (h : SrcAt H a g n) (e : Same H H') (l : n ≤ n') : SrcAt H' a g n' := by
  obtain ⟨gs, i, o, m, c, h1, h2, h3, h4, h5, h6, h7, h8, h9, h10, h11, h12⟩ := h
  exact ⟨gs, i, o, m, c, h1, e _ _ h2, e _ _ h3, h4, h5, h6, h7, h8, h9, h10, h11, by omega⟩
theorem SrcAt.le {H : Hp} {a g : Addr} {n n' : Nat} (h : SrcAt H a g n) (l : n ≤ n') : SrcAt H a g n' := h.mono (Same.refl H) l
theorem SrcAt.lst {H : Hp} {a g : Addr} {n : Nat} (h : SrcAt H a g n) : ∃ xs, H a = some (.lst xs) := by
  obtain ⟨gs, i, o, m, c, _, h2, _⟩ := h
  exact ⟨_, h2⟩
theorem SrcAt.ne {H : Hp} {a g p : Addr} {n : Nat} (h : SrcAt H a g n) (hp : H p = none) : p ≠ a ∧ p ≠ g := by
  obtain ⟨gs, i, o, m, c, _, h2, h3, _⟩ := h
  exact ⟨(ne_of_none h2 hp).symm, (ne_of_none h3 hp).symm⟩
theorem SrcAt.upd {H : Hp} {a g p : Addr} {n : Nat} {u : HO} (h : SrcAt H a g n) (na : p ≠ a ∧ p ≠ g) : SrcAt (upd H p u) a g n := by
  obtain ⟨gs, i, o, m, c, h1, h2, h3, rest⟩ := h
  refine ⟨gs, i, o, m, c, h1, ?_, ?_, rest⟩
  · rw [upd_ne na.1.symm]
    exact h2
  · rw [upd_ne na.2.symm]
    exact h3
theorem SrcAt.new {H : Hp} {a g p : Addr} {n : Nat} {u : HO} (h : SrcAt H a g n) (hp : H p = none) : SrcAt (L2.upd H p u) a g n := h.upd (h.ne hp)
def spBegun (K : PySem.W.Frag) : Sp := fun vs H Q _ => ∃ (s : Addr) (ns : List Int), vs = [.ref s] ∧ SqL K H s (ns.map V.int) ∧ ns.length ≤ 63 ∧
  ∀ a g H', Same H H' → H a = none → H g = none → SrcAt H' a g 0 → Q (.ref a) H'
def spPick : Sp := fun vs H Q _ => ∃ (a g : Addr) (m : Int) (n : Nat), vs = [.ref a, .int m] ∧ 0 < m ∧ m < 2 ^ 200 ∧ SrcAt H a g n ∧ n ≤ 1000000 ∧
  ∀ r H', 0 ≤ r → r < m → But a H H' → SrcAt H' a g (n + 1) → Q (.int r) H'
def spAlike (K : PySem.W.Frag) (n : Nat) : Sp := fun vs H Q _ => ∃ (x y : V) (d : PyData), vs = [x, y] ∧ Dp K H x d ∧ Dp K H y d ∧ Gd n d ∧ ∀ H', Same H H' → Q (.bl true) H'
theorem spAlike_0 {K : PySem.W.Frag} {vs : List V} {H : Hp} {Q : VK} {E : XK} (h : spAlike K 0 vs H Q E) : False := by
  obtain ⟨x, y, d, _, _, _, g, _⟩ := h
  exact g
/-- a pool of letters -/
def Pool (t : Str) : Prop := AllLet t ∧ 1 ≤ t.length ∧ t.length ≤ 14
def spPool : Sp := fun vs H Q _ => ∃ (a g : Addr) (n : Nat), vs = [.ref a] ∧ SrcAt H a g n ∧ n ≤ 900000 ∧ ∀ t H', But a H H' → SrcAt H' a g (n + 9) → AllLet t → 1 ≤ t.length → t.length ≤ 7 → Q (.str t) H'
/-- a list of forms -/
def Forms (fs : List Str) : Prop := fs ≠ [] ∧ fs.length ≤ 10 ∧ ∀ f ∈ fs, Form f
def spGrown (n : Nat) : Sp := fun vs H Q _ => ∃ (a g l : Addr) (most deep : Int) (fs : List Str) (t : Str) (c : Nat), vs = [.ref a, .int most, .int deep, .ref l, .str t] ∧ SrcAt H a g c ∧ c + 3 * most.toNat ≤ 900000 ∧ l ≠ a ∧ H l = some (.lst (fs.map V.str)) ∧ Forms fs ∧ Pool t ∧
  1 ≤ most ∧ most ≤ 20 ∧ 1 ≤ deep ∧ deep ≤ n ∧ ∀ v k H', But a H H' → SrcAt H' a g (c + 3 * most.toNat - 2) → KAt H' v k → k.ok → (k.deep : Int) ≤ deep → (k.letters.length : Int) ≤ most → Q v H'
theorem spGrown_0 {vs : List V} {H : Hp} {Q : VK} {E : XK} (h : spGrown 0 vs H Q E) : False := by
  obtain ⟨a, g, l, most, deep, fs, t, c, _, _, _, _, _, _, _, _, _, h1, h2, _⟩ := h
  omega
/-- a row of kinds -/
def RB (ks : List Kd) : Prop := (∀ k ∈ ks, KB k) ∧ (rowSgn ks).length ≤ 60 ∧ ks ≠ []
def spCheckedKinds : Sp := fun vs H Q _ => ∃ (l : Addr) (xs : List V) (ks : List Kd), vs = [.ref l] ∧ H l = some (.lst xs) ∧ All2 (KAt H) xs ks ∧ (∀ k ∈ ks, KB k) ∧ Q (.ref l) H
def spCheckedRow : Sp := fun vs H Q _ => ∃ (l : Addr) (xs : List V) (ks : List Kd), vs = [.ref l] ∧ H l = some (.lst xs) ∧ All2 (KAt H) xs ks ∧ RB ks ∧ ∀ H', Same H H' → Q (.ref l) H'
def spTurnedKind (n : Nat) : Sp := fun vs H Q _ => ∃ (v : V) (k : Kd), vs = [v] ∧ KAt H v k ∧ k.ok ∧ k.deep ≤ n ∧ ∀ v' H', Same H H' → KAt H' v' k.turn → Q v' H'
theorem spTurnedKind_0 {vs : List V} {H : Hp} {Q : VK} {E : XK} (h : spTurnedKind 0 vs H Q E) : False := by
  obtain ⟨v, k, _, _, _, hd, _⟩ := h
  have := k.deep_pos
  omega
def spSigned (n : Nat) : Sp := fun vs H Q _ => ∃ (v : V) (k : Kd) (s : Int), vs = [v, .int s] ∧ KAt H v k ∧ k.ok ∧ k.deep ≤ n ∧ k.letters.length ≤ 1000 ∧ ∀ l rows H', Same H H' → H l = none → H' l = some (.lst rows) → All2 (RowAt H') rows (k.sgn s) → Q (.ref l) H'
theorem spSigned_0 {vs : List V} {H : Hp} {Q : VK} {E : XK} (h : spSigned 0 vs H Q E) : False := by
  obtain ⟨v, k, s, _, _, _, hd, _⟩ := h
  have := k.deep_pos
  omega
def spRowSigned : Sp := fun vs H Q _ => ∃ (l : Addr) (xs : List V) (ks : List Kd), vs = [.ref l] ∧ H l = some (.lst xs) ∧ All2 (KAt H) xs ks ∧ RB ks ∧ ∀ r rows H', Same H H' → H' r = some (.lst rows) → All2 (RowAt H') rows (rowSgn ks) → Q (.ref r) H'
def spCancelled : Sp := fun vs H Q _ => ∃ (l : Addr) (rows : List V) (ps : List (Str × Int)), vs = [.ref l] ∧ H l = some (.lst rows) ∧ All2 (RowAt H) rows ps ∧ (∀ x ∈ ps, Let x.1) ∧ ps.length ≤ 1000 ∧ ∀ r rows' H', Same H H' → H r = none → H' r = some (.lst rows') → All2 (RowAt H') rows' (red ps) → Q (.ref r) H'
def spTurned : Sp := fun vs H Q _ => ∃ (v : V) (k : Kd), vs = [v] ∧ KOk H v k ∧ ∀ v' H', Same H H' → KAt H' v' k.turn → Q v' H'
def spTurnedRow : Sp := fun vs H Q _ => ∃ (l : Addr) (xs : List V) (ks : List Kd), vs = [.ref l] ∧ H l = some (.lst xs) ∧ All2 (KAt H) xs ks ∧ RB ks ∧ ∀ r xs' H', Same H H' → H r = none → H' r = some (.lst xs') → All2 (KAt H') xs' (ks.reverse.map Kd.turn) → Q (.ref r) H'
def spBalance : Sp := fun vs H Q _ => ∃ (l : Addr) (xs : List V) (ks : List Kd), vs = [.ref l] ∧ H l = some (.lst xs) ∧ All2 (KAt H) xs ks ∧ RB ks ∧
  ∀ r rows ss H', Same H H' → H r = none → H' r = some (.lst rows) → Srt ((rowSgn ks).map (·.1)) ss → All2 (RowAt H') rows (bal (rowSgn ks) ss) → Q (.ref r) H'
def spWord : Sp := fun vs H Q _ => ∃ (l : Addr) (xs : List V) (ks : List Kd), vs = [.ref l] ∧ H l = some (.lst xs) ∧ All2 (KAt H) xs ks ∧ RB ks ∧
  ∀ r rows H', Same H H' → H r = none → H' r = some (.lst rows) → All2 (RowAt H') rows (red (rowSgn ks)) → Q (.ref r) H'
theorem rb_len : ∀ ks : List Kd, ks.length ≤ (rowSgn ks).length
  | [] => Nat.le_refl 0
  | k :: ks => by
    have h := rb_len ks
    have p := k.letters_pos
    unfold rowSgn at h ⊢
    rw [List.flatMap_cons, List.length_append, k.sgn_len, List.length_cons]
    omega
theorem rb_let {ks : List Kd} (h : ∀ k ∈ ks, KB k) : ∀ x ∈ rowSgn ks, Let x.1 := fun x hx => by
  obtain ⟨k, hk, hx⟩ := List.mem_flatMap.mp hx
  exact k.let_of (h k hk).1 x.1 ((k.sgn_mem 1 x.1).1 (List.mem_map_of_mem hx))
theorem neg_if {c : Bool} {σ : L2.St} {H : Hp} {i : Nat} {s : Int} {Q : VK} (e : σ[i]? = some (some (.int s))) (h : Q (.int (if c = true then -s else s)) H) :
    if c = true then tUn (rU fun i => .int (-i)) (tVar i) σ H Q else tVar i σ H Q := by
  cases c with
  | true => exact ⟨_, e, _, rfl, h⟩
  | false => exact ⟨_, e, h⟩
theorem neg_eq (f g : Str) (s : Int) : (if decide (V.str f = V.str g) = true then -s else s) = (if f = g then -s else s) := by
  by_cases h : f = g
  · rw [if_pos (decide_eq_true (by rw [h])), if_pos h]
  · rw [if_neg (fun z => h (V.str.inj (of_decide_eq_true z))), if_neg h]
structure Txt (w : World) (K : PySem.W.Frag) (mg : Str → Option Value) where
  a_is_letter : Addr
  d_is_letter : FuncData
  F_is_letter : Fun K "is_letter" "is_letter" s_is_letter a_is_letter d_is_letter
  m_is_letter : mg "is_letter" = some (.ref a_is_letter)
  B_is_letter : Binds K d_is_letter P_is_letter []
  a_wrong_part : Addr
  d_wrong_part : FuncData
  F_wrong_part : Fun K "wrong_part" "wrong_part" s_wrong_part a_wrong_part d_wrong_part
  m_wrong_part : mg "wrong_part" = some (.ref a_wrong_part)
  B_wrong_part : Binds K d_wrong_part P_wrong_part []
  a_checked_kind : Addr
  d_checked_kind : FuncData
  F_checked_kind : Fun K "checked_kind" "checked_kind" s_checked_kind a_checked_kind d_checked_kind
  m_checked_kind : mg "checked_kind" = some (.ref a_checked_kind)
  B_checked_kind : Binds K d_checked_kind P_checked_kind []
  a_checked_kinds : Addr
  d_checked_kinds : FuncData
  F_checked_kinds : Fun K "checked_kinds" "checked_kinds" s_checked_kinds a_checked_kinds d_checked_kinds
  m_checked_kinds : mg "checked_kinds" = some (.ref a_checked_kinds)
  B_checked_kinds : Binds K d_checked_kinds P_checked_kinds []
  a_checked_row : Addr
  d_checked_row : FuncData
  F_checked_row : Fun K "checked_row" "checked_row" s_checked_row a_checked_row d_checked_row
  m_checked_row : mg "checked_row" = some (.ref a_checked_row)
  B_checked_row : Binds K d_checked_row P_checked_row []
  a_single : Addr
  d_single : FuncData
  F_single : Fun K "single" "single" s_single a_single d_single
  m_single : mg "single" = some (.ref a_single)
  B_single : Binds K d_single P_single []
  a_letters_of : Addr
  d_letters_of : FuncData
  F_letters_of : Fun K "letters_of" "letters_of" s_letters_of a_letters_of d_letters_of
  m_letters_of : mg "letters_of" = some (.ref a_letters_of)
  B_letters_of : Binds K d_letters_of P_letters_of []
  a_depth_of : Addr
  d_depth_of : FuncData
  F_depth_of : Fun K "depth_of" "depth_of" s_depth_of a_depth_of d_depth_of
  m_depth_of : mg "depth_of" = some (.ref a_depth_of)
  B_depth_of : Binds K d_depth_of P_depth_of []
  a_turned_kind : Addr
  d_turned_kind : FuncData
  F_turned_kind : Fun K "turned_kind" "turned_kind" s_turned_kind a_turned_kind d_turned_kind
  m_turned_kind : mg "turned_kind" = some (.ref a_turned_kind)
  B_turned_kind : Binds K d_turned_kind P_turned_kind []
  a_signed : Addr
  d_signed : FuncData
  F_signed : Fun K "signed" "signed" s_signed a_signed d_signed
  m_signed : mg "signed" = some (.ref a_signed)
  B_signed : Binds K d_signed P_signed []
  a_row_signed : Addr
  d_row_signed : FuncData
  F_row_signed : Fun K "row_signed" "row_signed" s_row_signed a_row_signed d_row_signed
  m_row_signed : mg "row_signed" = some (.ref a_row_signed)
  B_row_signed : Binds K d_row_signed P_row_signed []
  a_cancelled : Addr
  d_cancelled : FuncData
  F_cancelled : Fun K "cancelled" "cancelled" s_cancelled a_cancelled d_cancelled
  m_cancelled : mg "cancelled" = some (.ref a_cancelled)
  B_cancelled : Binds K d_cancelled P_cancelled []
  a_letters : Addr
  d_letters : FuncData
  F_letters : Fun K "letters" "letters" s_letters a_letters d_letters
  m_letters : mg "letters" = some (.ref a_letters)
  B_letters : Binds K d_letters P_letters []
  a_size : Addr
  d_size : FuncData
  F_size : Fun K "size" "size" s_size a_size d_size
  m_size : mg "size" = some (.ref a_size)
  B_size : Binds K d_size P_size []
  a_depth : Addr
  d_depth : FuncData
  F_depth : Fun K "depth" "depth" s_depth a_depth d_depth
  m_depth : mg "depth" = some (.ref a_depth)
  B_depth : Binds K d_depth P_depth []
  a_is_single : Addr
  d_is_single : FuncData
  F_is_single : Fun K "is_single" "is_single" s_is_single a_is_single d_is_single
  m_is_single : mg "is_single" = some (.ref a_is_single)
  B_is_single : Binds K d_is_single P_is_single []
  a_turned : Addr
  d_turned : FuncData
  F_turned : Fun K "turned" "turned" s_turned a_turned d_turned
  m_turned : mg "turned" = some (.ref a_turned)
  B_turned : Binds K d_turned P_turned []
  K_turned : KB0 K d_turned ["kind"] ["kind"] (fun ws => ws) (fun zs => zs)
  a_turned_row : Addr
  d_turned_row : FuncData
  F_turned_row : Fun K "turned_row" "turned_row" s_turned_row a_turned_row d_turned_row
  m_turned_row : mg "turned_row" = some (.ref a_turned_row)
  B_turned_row : Binds K d_turned_row P_turned_row []
  K_turned_row : KB0 K d_turned_row ["row"] ["row"] (fun ws => ws) (fun zs => zs)
  a_balance : Addr
  d_balance : FuncData
  F_balance : Fun K "balance" "balance" s_balance a_balance d_balance
  m_balance : mg "balance" = some (.ref a_balance)
  B_balance : Binds K d_balance P_balance []
  a_word : Addr
  d_word : FuncData
  F_word : Fun K "word" "word" s_word a_word d_word
  m_word : mg "word" = some (.ref a_word)
  B_word : Binds K d_word P_word []
  a_begun : Addr
  d_begun : FuncData
  F_begun : Fun K "_law_begun" "_law_begun" s_begun a_begun d_begun
  m_begun : mg "_law_begun" = some (.ref a_begun)
  B_begun : Binds K d_begun P_begun []
  a_pick : Addr
  d_pick : FuncData
  F_pick : Fun K "_law_pick" "_law_pick" s_pick a_pick d_pick
  m_pick : mg "_law_pick" = some (.ref a_pick)
  B_pick : Binds K d_pick P_pick []
  a_alike : Addr
  d_alike : FuncData
  F_alike : Fun K "_law_alike" "_law_alike" s_alike a_alike d_alike
  m_alike : mg "_law_alike" = some (.ref a_alike)
  B_alike : Binds K d_alike P_alike []
  a_pool : Addr
  d_pool : FuncData
  F_pool : Fun K "_law_pool" "_law_pool" s_pool a_pool d_pool
  m_pool : mg "_law_pool" = some (.ref a_pool)
  B_pool : Binds K d_pool P_pool []
  a_grown : Addr
  d_grown : FuncData
  F_grown : Fun K "_law_grown" "_law_grown" s_grown a_grown d_grown
  m_grown : mg "_law_grown" = some (.ref a_grown)
  B_grown : Binds K d_grown P_grown []
  a_places : Addr
  d_places : FuncData
  F_places : Fun K "_law_places" "_law_places" s_places a_places d_places
  m_places : mg "_law_places" = some (.ref a_places)
  B_places : Binds K d_places P_places []
  a_mirror : Addr
  d_mirror : FuncData
  F_mirror : Fun K "_law_mirror" "_law_mirror" s_mirror a_mirror d_mirror
  m_mirror : mg "_law_mirror" = some (.ref a_mirror)
  B_mirror : Binds K d_mirror P_mirror []
  a_row : Addr
  d_row : FuncData
  F_row : Fun K "_law_row" "_law_row" s_row a_row d_row
  m_row : mg "_law_row" = some (.ref a_row)
  B_row : Binds K d_row P_row []
  a_of_kind : Addr
  d_of_kind : FuncData
  F_of_kind : Fun K "_law_of_kind" "_law_of_kind" s_of_kind a_of_kind d_of_kind
  m_of_kind : mg "_law_of_kind" = some (.ref a_of_kind)
  B_of_kind : Binds K d_of_kind P_of_kind []
  a_law : Addr
  d_law : FuncData
  F_law : Fun K "law" "law" s_law a_law d_law
  m_law : mg "law" = some (.ref a_law)
  B_law : Binds K d_law P_law []
  b_bool : mg "bool" = none
  b_int : mg "int" = none
  b_isinstance : mg "isinstance" = none
  b_len : mg "len" = none
  b_list : mg "list" = none
  b_max : mg "max" = none
  b_min : mg "min" = none
  b_range : mg "range" = none
  b_set : mg "set" = none
  b_sorted : mg "sorted" = none
  b_str : mg "str" = none
  b_tuple : mg "tuple" = none
  b_zip : mg "zip" = none
  t_LETTERS : Tok
  g_LETTERS : mg "LETTERS" = some (.str "abcdefghijklmnopqrstuvwxyz" t_LETTERS)
  o_TURNS : Addr
  e_TURNS : Array DictEntry
  n_TURNS : Nat
  g_TURNS : mg "TURNS" = some (.ref o_TURNS)
  D_TURNS : KDict K w o_TURNS e_TURNS n_TURNS
  t0_TURNS : Tok
  v0_TURNS : PySem.W.nsIn K o_TURNS "behind" = some (some (.str "ahead" t0_TURNS))
  t1_TURNS : Tok
  v1_TURNS : PySem.W.nsIn K o_TURNS "ahead" = some (some (.str "behind" t1_TURNS))
  t2_TURNS : Tok
  v2_TURNS : PySem.W.nsIn K o_TURNS "with" = some (some (.str "with" t2_TURNS))
end K02

namespace K02
open PySem PySem.Spec PyProof.Rows L2 Ww
section
variable {P : Program} {w : World} {K : PySem.W.Frag} {mg : Str → Option Value} {base : Heap}
theorem ok_is_letter (T : Txt w K mg) : FnOk P w K mg base CX0 (1) T.a_is_letter T.d_is_letter P_is_letter (spIsLetter) := by
  refine T.F_is_letter.ok sc_is_letter (fun vs H Q E h => ?_) (fun cdv A outer s H vs Q E hr h => ⟨_, (pss_one (ps_ret (pe_and (pe_cmpR op_eq (pe_callB call_len_str rfl T.b_len PySem.boot_len (pa_cons (pv 0) pa_nil)) pe_int (nomark _)) (pe_one (pe_cmpR op_in_sign (pv 0) (pe_glob (v := .str _) rfl T.g_LETTERS ⟨_, rfl⟩) rfl))))), ?_⟩)
  · obtain ⟨s, rfl, _⟩ := h
    rfl
  · obtain ⟨s, rfl, hz, q⟩ := h
    refine ⟨_, rfl, s, rfl, sz1 hz, rfl, _, rfl, ?_⟩
    by_cases c : s.length = 1
    · obtain ⟨x, rfl⟩ := str_one c
      refine bt rfl ⟨_, rfl, x, _, rfl, rfl, ?_⟩
      have e : decide (x ∈ (Str.ofString "abcdefghijklmnopqrstuvwxyz").cps.toList) = isLet ⟨#[x]⟩ := by
        rw [isLet_one]
        exact decide_eq_decide.mpr (abc_mem x)
      rw [e]
      exact q
    · refine bf (decide_eq_false fun z => c ?_) ?_
      · have z2 : (s.length : Int) = 1 := V.int.inj z
        omega
      · rw [isLet_many c] at q
        exact q
end
end K02

namespace K02
open PySem PySem.Spec PyProof.Rows L2 Ww
section
variable {P : Program} {w : World} {K : PySem.W.Frag} {mg : Str → Option Value} {base : Heap}
theorem turns (T : Txt w K mg) : ∀ {f : Str}, Form f → ∃ u, PySem.W.nsIn K T.o_TURNS f = some (some u) := by
  rintro f (rfl | rfl | rfl)
  · exact ⟨_, T.v0_TURNS⟩
  · exact ⟨_, T.v1_TURNS⟩
  · exact ⟨_, T.v2_TURNS⟩
theorem ok_wrong_part (T : Txt w K mg) : ∀ n : Nat, FnOk P w K mg base CX0 (n + 1) T.a_wrong_part T.d_wrong_part P_wrong_part (spWrong n)
  | 0 => fn_none fun vs H Q E h => spWrong_0 h
  | n + 1 => by
    have IH := ok_wrong_part T n
    refine T.F_wrong_part.ok sc_wrong_part (fun vs H Q E h => ?_) (fun cdv A outer s H vs Q E hr h => ⟨_, (pss_cons (ps_if (pt_cmpR op_eq (pe_ix ix_tup (pv 0) pe_int (fun _ _ => rfl)) pe_str (nomark _))
    (pss_one (ps_ret (pe_ifExp (pt_val (pe_call (ok_is_letter T) (hr.mono (by first | decide | omega)) rfl T.m_is_letter T.F_is_letter.kp T.B_is_letter .nil pass0 (pa_cons (pe_ix ix_tup (pv 0) pe_int (fun _ _ => rfl)) pa_nil))) pe_non (pv 0))))
    pss_nil)
    (pss_cons (ps_if (pt_cmpR (op_notIn_kd T.D_TURNS) (pe_ix ix_tup (pv 0) pe_int (fun _ _ => rfl)) (pe_glob (v := .ref _) rfl T.g_TURNS rfl) rfl)
    (pss_one (ps_ret (pv 0)))
    pss_nil)
    (pss_cons (ps_set (i := 1) sc_wrong_part.nd rfl (Or.inl rfl) (pe_call IH (hr.mono (by first | decide | omega)) rfl T.m_wrong_part T.F_wrong_part.kp T.B_wrong_part .nil pass0 (pa_cons (pe_ix ix_tup (pv 0) pe_int (fun _ _ => rfl)) pa_nil)))
    (pss_one (ps_ret (pe_ifExp (pt_cmp (pc_isN (pv 1))) (pe_call IH (hr.mono (by first | decide | omega)) rfl T.m_wrong_part T.F_wrong_part.kp T.B_wrong_part .nil pass0 (pa_cons (pe_ix ix_tup (pv 0) pe_int (fun _ _ => rfl)) pa_nil)) (pv 1))))))), ?_⟩)
    · obtain ⟨v, k, rfl, _⟩ := h
      rfl
    · obtain ⟨v, k, rfl, hk, ok, hd, q⟩ := h
      cases k with
      | pl s =>
        obtain ⟨p, rfl, hp⟩ := hk
        refine ⟨_, rfl, p, _, _, _, rfl, rfl, SqT.of hp, at0, rfl, _, rfl, bt rfl ?_⟩
        exact ⟨_, rfl, p, _, _, _, rfl, rfl, SqT.of hp, at1, s, rfl, ok.small, _, rfl, bt (isLet_iff.mpr ok) q⟩
      | nd f a b =>
        obtain ⟨p, x, y, rfl, hp, ha, hb⟩ := hk
        obtain ⟨hf, oa, ob⟩ := ok
        have dm : 1 + max a.deep b.deep ≤ n + 1 := hd
        obtain ⟨u, hu⟩ := turns T hf
        refine ⟨_, rfl, p, _, _, _, rfl, rfl, SqT.of hp, at0, rfl, _, rfl, bf (plain_ne hf) ?_⟩
        refine ⟨_, rfl, p, _, _, _, rfl, rfl, SqT.of hp, at0, f, _, rfl, rfl, hu, _, rfl, bf rfl ?_⟩
        refine ⟨_, rfl, p, _, _, _, rfl, rfl, SqT.of hp, at1, x, a, rfl, ha, oa, by omega, ?_⟩
        refine ⟨_, rfl, _, rfl, bt (decide_eq_true rfl) ?_⟩
        exact ⟨_, rfl, p, _, _, _, rfl, rfl, SqT.of hp, at2, y, b, rfl, hb, ob, by omega, q⟩
end
end K02

namespace K02
open PySem PySem.Spec PyProof.Rows L2 Ww
section
variable {P : Program} {w : World} {K : PySem.W.Frag} {mg : Str → Option Value} {base : Heap}
theorem ok_checked_kind (T : Txt w K mg) : FnOk P w K mg base CX0 (10) T.a_checked_kind T.d_checked_kind P_checked_kind (spChecked) := by
  refine T.F_checked_kind.ok sc_checked_kind (fun vs H Q E h => ?_) (fun cdv A outer s H vs Q E hr h => ⟨_, (pss_cons (ps_set (i := 1) sc_checked_kind.nd rfl (Or.inl rfl) (pe_call (ok_wrong_part T 8) (hr.mono (by first | decide | omega)) rfl T.m_wrong_part T.F_wrong_part.kp T.B_wrong_part .nil pass0 (pa_cons (pv 0) pa_nil)))
    (pss_cons (ps_if (pt_cmp (pc_notN (pv 1)))
    (pss_one ps_never)
    pss_nil)
    (pss_one (ps_ret (pv 0))))), ?_⟩)
  · obtain ⟨v, k, rfl, _⟩ := h
    rfl
  · obtain ⟨v, k, rfl, hk, ok, hd, q⟩ := h
    refine ⟨_, rfl, v, k, rfl, hk, ok, hd, ?_⟩
    exact ⟨_, rfl, _, rfl, bf (by decide) ⟨_, rfl, q⟩⟩
end
end K02

namespace K02
open PySem PySem.Spec PyProof.Rows L2 Ww
section
variable {P : Program} {w : World} {K : PySem.W.Frag} {mg : Str → Option Value} {base : Heap}
theorem ok_checked_kinds (T : Txt w K mg) : FnOk P w K mg base CX0 (11) T.a_checked_kinds T.d_checked_kinds P_checked_kinds (spCheckedKinds) := by
  refine T.F_checked_kinds.ok sc_checked_kinds (fun vs H Q E h => ?_) (fun cdv A outer s H vs Q E hr h => ⟨_, (pss_cons (ps_for PassesOwn.never rfl (pi_list (pv 0)) (pg_name (i := 1) sc_checked_kinds.nd rfl (Or.inl rfl))
    (pss_one (ps_expr (pe_call (ok_checked_kind T) (hr.mono (by first | decide | omega)) rfl T.m_checked_kind T.F_checked_kind.kp T.B_checked_kind .nil pass0 (pa_cons (pv 1) pa_nil)))))
    (pss_one (ps_ret (pv 0)))), ?_⟩)
  · obtain ⟨l, xs, ks, rfl, _⟩ := h
    rfl
  · obtain ⟨l, xs, ks, rfl, hl, hks, hb, q⟩ := h
    refine ⟨_, rfl, l, rfl, ⟨xs, SqL.of hl⟩, for_list (xs := xs) (fun i σ H' => ∃ o, σ = [some (.ref l), o] ∧ H' = H) ⟨none, rfl, rfl⟩ (fun i σ H' _ ⟨_, _, e⟩ => by subst e; exact SqL.of hl) ?_ ?_⟩
    · rintro i x σ H' hx ⟨o, rfl, rfl⟩
      obtain ⟨k, hk, r⟩ := hks.get hx
      have b := hb k (List.mem_of_getElem? hk)
      exact ⟨_, rfl, x, k, rfl, r, b.1, b.2.1, _, rfl, rfl⟩
    · rintro σ H' ⟨o, rfl, rfl⟩
      exact ⟨_, rfl, q⟩
end
end K02

namespace K02
open PySem PySem.Spec PyProof.Rows L2 Ww
section
variable {P : Program} {w : World} {K : PySem.W.Frag} {mg : Str → Option Value} {base : Heap}
theorem ok_checked_row (T : Txt w K mg) : FnOk P w K mg base CX0 (12) T.a_checked_row T.d_checked_row P_checked_row (spCheckedRow) := by
  refine T.F_checked_row.ok sc_checked_row (fun vs H Q E h => ?_) (fun cdv A outer s H vs Q E hr h => ⟨_, (pss_cons (ps_if (pt_cmpR (op_eqD (hu64 hr)) (pe_call (ok_checked_kinds T) (hr.mono (by first | decide | omega)) rfl T.m_checked_kinds T.F_checked_kinds.kp T.B_checked_kinds .nil pass0 (pa_cons (pv 0) pa_nil)) (pe_lst pa_nil) (nomark _))
    (pss_one ps_never)
    pss_nil)
    (pss_one (ps_ret (pv 0)))), ?_⟩)
  · obtain ⟨l, xs, ks, rfl, _⟩ := h
    rfl
  · obtain ⟨l, xs, ks, rfl, hl, hks, hb, q⟩ := h
    refine ⟨_, rfl, l, xs, ks, rfl, hl, hks, hb.1, sz1 (by show 0 ≤ 1000000; decide), fun z nz => ?_⟩
    have e := same_new nz (.lst [])
    refine eq_nil (e _ _ hl) upd_same (ks_lk (hks.mono fun _ _ h => h.mono (.of e)) hb.1) ⟨_, rfl, bf ?_ ⟨_, rfl, q _ e⟩⟩
    have n := hb.2.2
    have ln := hks.len
    cases xs with
    | nil =>
      cases ks with
      | nil => exact (n rfl).elim
      | cons _ _ => cases ln
    | cons _ _ => rfl
end
end K02

namespace K02
open PySem PySem.Spec PyProof.Rows L2 Ww
section
variable {P : Program} {w : World} {K : PySem.W.Frag} {mg : Str → Option Value} {base : Heap}
theorem ok_single (T : Txt w K mg) : ∀ n : Nat, FnOk P w K mg base CX0 (n + 1) T.a_single T.d_single P_single (spSingle n)
  | 0 => fn_none fun vs H Q E h => spSingle_0 h
  | n + 1 => by
    have IH := ok_single T n
    refine T.F_single.ok sc_single (fun vs H Q E h => ?_) (fun cdv A outer s H vs Q E hr h => ⟨_, (pss_cons (ps_if (pt_cmpR op_eq (pe_ix ix_tup (pv 0) pe_int (fun _ _ => rfl)) pe_str (nomark _))
    (pss_one (ps_ret pe_bl))
    pss_nil)
    (pss_one (ps_ret (pe_and (pe_cmpR op_ne (pe_ix ix_tup (pv 0) pe_int (fun _ _ => rfl)) pe_str (nomark _)) (pe_and (pe_call IH (hr.mono (by first | decide | omega)) rfl T.m_single T.F_single.kp T.B_single .nil pass0 (pa_cons (pe_ix ix_tup (pv 0) pe_int (fun _ _ => rfl)) pa_nil)) (pe_one (pe_call IH (hr.mono (by first | decide | omega)) rfl T.m_single T.F_single.kp T.B_single .nil pass0 (pa_cons (pe_ix ix_tup (pv 0) pe_int (fun _ _ => rfl)) pa_nil)))))))), ?_⟩)
    · obtain ⟨v, k, rfl, _⟩ := h
      rfl
    · obtain ⟨v, k, rfl, hk, ok, hd, q⟩ := h
      cases k with
      | pl s =>
        obtain ⟨p, rfl, hp⟩ := hk
        exact ⟨_, rfl, p, _, _, _, rfl, rfl, SqT.of hp, at0, rfl, _, rfl, bt rfl q⟩
      | nd f a b =>
        obtain ⟨p, x, y, rfl, hp, ha, hb⟩ := hk
        obtain ⟨hf, oa, ob⟩ := ok
        have dm : 1 + max a.deep b.deep ≤ n + 1 := hd
        refine ⟨_, rfl, p, _, _, _, rfl, rfl, SqT.of hp, at0, rfl, _, rfl, bf (plain_ne hf) ?_⟩
        refine ⟨_, rfl, p, _, _, _, rfl, rfl, SqT.of hp, at0, rfl, _, rfl, ?_⟩
        have eq : decide (V.str f = V.str "with") = decide (f = "with") := by
          rw [decide_eq_decide]
          exact ⟨fun z => V.str.inj z, fun z => by rw [z]⟩
        have q' : Q (.bl (!decide (f = "with") && (a.single && b.single))) H := q
        refine bb (fun c => ?_) (fun c => ?_)
        · rw [eq] at c
          rw [c] at q'
          refine ⟨_, rfl, p, _, _, _, rfl, rfl, SqT.of hp, at1, x, a, rfl, ha, oa, by omega, _, rfl, ?_⟩
          refine bb (fun c2 => ?_) (fun c2 => ?_)
          · rw [c2] at q'
            exact ⟨_, rfl, p, _, _, _, rfl, rfl, SqT.of hp, at2, y, b, rfl, hb, ob, by omega, q'⟩
          · rw [c2] at q'
            exact q'
        · rw [eq] at c
          rw [c] at q'
          exact q'
end
end K02

namespace K02
open PySem PySem.Spec PyProof.Rows L2 Ww
section
variable {P : Program} {w : World} {K : PySem.W.Frag} {mg : Str → Option Value} {base : Heap}
theorem ok_letters_of (T : Txt w K mg) : ∀ n : Nat, FnOk P w K mg base CX0 (n + 1) T.a_letters_of T.d_letters_of P_letters_of (spLettersOf n)
  | 0 => fn_none fun vs H Q E h => spLettersOf_0 h
  | n + 1 => by
    have IH := ok_letters_of T n
    refine T.F_letters_of.ok sc_letters_of (fun vs H Q E h => ?_) (fun cdv A outer s H vs Q E hr h => ⟨_, (pss_one (ps_ret (pe_ifExp (pt_cmpR op_eq (pe_ix ix_tup (pv 0) pe_int (fun _ _ => rfl)) pe_str (nomark _)) (pe_lst (pa_cons (pe_ix ix_tup (pv 0) pe_int (fun _ _ => rfl)) pa_nil)) (pe_op op_cat (pe_call IH (hr.mono (by first | decide | omega)) rfl T.m_letters_of T.F_letters_of.kp T.B_letters_of .nil pass0 (pa_cons (pe_ix ix_tup (pv 0) pe_int (fun _ _ => rfl)) pa_nil)) (pe_call IH (hr.mono (by first | decide | omega)) rfl T.m_letters_of T.F_letters_of.kp T.B_letters_of .nil pass0 (pa_cons (pe_ix ix_tup (pv 0) pe_int (fun _ _ => rfl)) pa_nil)))))), ?_⟩)
    · obtain ⟨v, k, rfl, _⟩ := h
      rfl
    · obtain ⟨v, k, rfl, hk, ok, hd, hz, q⟩ := h
      cases k with
      | pl s =>
        obtain ⟨p, rfl, hp⟩ := hk
        refine ⟨_, rfl, p, _, _, _, rfl, rfl, SqT.of hp, at0, rfl, _, rfl, bt rfl ?_⟩
        exact ⟨_, rfl, p, _, _, _, rfl, rfl, SqT.of hp, at1, sz1 (by show 1 ≤ 1000000; decide), fun r hr' => q r _ (same_new hr' _) upd_same⟩
      | nd f a b =>
        obtain ⟨p, x, y, rfl, hp, ha, hb⟩ := hk
        obtain ⟨hf, oa, ob⟩ := ok
        have dm : 1 + max a.deep b.deep ≤ n + 1 := hd
        have lz : (a.letters ++ b.letters).length ≤ 1000 := hz
        rw [List.length_append] at lz
        refine ⟨_, rfl, p, _, _, _, rfl, rfl, SqT.of hp, at0, rfl, _, rfl, bf (plain_ne hf) ?_⟩
        refine ⟨_, rfl, p, _, _, _, rfl, rfl, SqT.of hp, at1, x, a, rfl, ha, oa, by omega, by omega, fun r1 H1 e1 h1 => ?_⟩
        refine ⟨_, rfl, p, _, _, _, rfl, rfl, SqT.of (e1 _ _ hp), at2, y, b, rfl, hb.mono (.of e1), ob, by omega, by omega, fun r2 H2 e2 h2 => ?_⟩
        refine ⟨r1, r2, _, _, rfl, rfl, e2 _ _ h1, h2, sz1 (by rw [List.length_map, List.length_map]; omega), fun t ht => ?_⟩
        refine q t _ (e1.trans (e2.trans (same_new ht _))) ?_
        rw [upd_same, ← List.map_append]
        rfl
end
end K02

namespace K02
open PySem PySem.Spec PyProof.Rows L2 Ww
section
variable {P : Program} {w : World} {K : PySem.W.Frag} {mg : Str → Option Value} {base : Heap}
theorem ok_depth_of (T : Txt w K mg) : ∀ n : Nat, FnOk P w K mg base CX0 (n + 1) T.a_depth_of T.d_depth_of P_depth_of (spDepthOf n)
  | 0 => fn_none fun vs H Q E h => spDepthOf_0 h
  | n + 1 => by
    have IH := ok_depth_of T n
    refine T.F_depth_of.ok sc_depth_of (fun vs H Q E h => ?_) (fun cdv A outer s H vs Q E hr h => ⟨_, (pss_one (ps_ret (pe_ifExp (pt_cmpR op_eq (pe_ix ix_tup (pv 0) pe_int (fun _ _ => rfl)) pe_str (nomark _)) pe_int (pe_op op_add pe_int (pe_callB (call_max2 rfl) rfl T.b_max (by decide +kernel) (pa_cons (pe_call IH (hr.mono (by first | decide | omega)) rfl T.m_depth_of T.F_depth_of.kp T.B_depth_of .nil pass0 (pa_cons (pe_ix ix_tup (pv 0) pe_int (fun _ _ => rfl)) pa_nil)) (pa_cons (pe_call IH (hr.mono (by first | decide | omega)) rfl T.m_depth_of T.F_depth_of.kp T.B_depth_of .nil pass0 (pa_cons (pe_ix ix_tup (pv 0) pe_int (fun _ _ => rfl)) pa_nil)) pa_nil))))))), ?_⟩)
    · obtain ⟨v, k, rfl, _⟩ := h
      rfl
    · obtain ⟨v, k, rfl, hk, ok, hd, q⟩ := h
      cases k with
      | pl s =>
        obtain ⟨p, rfl, hp⟩ := hk
        exact ⟨_, rfl, p, _, _, _, rfl, rfl, SqT.of hp, at0, rfl, _, rfl, bt rfl q⟩
      | nd f a b =>
        obtain ⟨p, x, y, rfl, hp, ha, hb⟩ := hk
        obtain ⟨hf, oa, ob⟩ := ok
        have dm : 1 + max a.deep b.deep ≤ n + 1 := hd
        refine ⟨_, rfl, p, _, _, _, rfl, rfl, SqT.of hp, at0, rfl, _, rfl, bf (plain_ne hf) ?_⟩
        refine ⟨_, rfl, p, _, _, _, rfl, rfl, SqT.of hp, at1, x, a, rfl, ha, oa, by omega, ?_⟩
        refine ⟨_, rfl, p, _, _, _, rfl, rfl, SqT.of hp, at2, y, b, rfl, hb, ob, by omega, ?_⟩
        refine ⟨_, _, rfl, _, _, rfl, rfl, ?_⟩
        have e : (1 : Int) + (if (b.deep : Int) > (a.deep : Int) then (b.deep : Int) else (a.deep : Int)) = ((1 + max a.deep b.deep : Nat) : Int) := by
          split <;> omega
        have q' : Q (.int ((1 + max a.deep b.deep : Nat) : Int)) H := q
        rw [← e] at q'
        exact q'
end
end K02

namespace K02
open PySem PySem.Spec PyProof.Rows L2 Ww
section
variable {P : Program} {w : World} {K : PySem.W.Frag} {mg : Str → Option Value} {base : Heap}
theorem turnsV (T : Txt w K mg) : ∀ {f : Str}, Form f → ∃ t : Tok, PySem.W.nsIn K T.o_TURNS f = some (some (.str (turnF f) t)) := by
  rintro f (rfl | rfl | rfl)
  · exact ⟨_, by rw [turnF_b]; exact T.v0_TURNS⟩
  · exact ⟨_, by rw [turnF_a]; exact T.v1_TURNS⟩
  · exact ⟨_, by rw [turnF_w]; exact T.v2_TURNS⟩
theorem ok_turned_kind (T : Txt w K mg) : ∀ n : Nat, FnOk P w K mg base CX0 (n + 1) T.a_turned_kind T.d_turned_kind P_turned_kind (spTurnedKind n)
  | 0 => fn_none fun vs H Q E h => spTurnedKind_0 h
  | n + 1 => by
    have IH := ok_turned_kind T n
    refine T.F_turned_kind.ok sc_turned_kind (fun vs H Q E h => ?_) (fun cdv A outer s H vs Q E hr h => ⟨_, (pss_cons (ps_if (pt_cmpR op_eq (pe_ix ix_tup (pv 0) pe_int (fun _ _ => rfl)) pe_str (nomark _))
    (pss_one (ps_ret (pv 0)))
    pss_nil)
    (pss_one (ps_ret (pe_tup (pa_cons (pe_ix ix_kdict (pe_glob (v := .ref _) rfl T.g_TURNS rfl) (pe_ix ix_tup (pv 0) pe_int (fun _ _ => rfl)) (fun _ _ => rfl)) (pa_cons (pe_call IH (hr.mono (by first | decide | omega)) rfl T.m_turned_kind T.F_turned_kind.kp T.B_turned_kind .nil pass0 (pa_cons (pe_ix ix_tup (pv 0) pe_int (fun _ _ => rfl)) pa_nil)) (pa_cons (pe_call IH (hr.mono (by first | decide | omega)) rfl T.m_turned_kind T.F_turned_kind.kp T.B_turned_kind .nil pass0 (pa_cons (pe_ix ix_tup (pv 0) pe_int (fun _ _ => rfl)) pa_nil)) pa_nil))))))), ?_⟩)
    · obtain ⟨v, k, rfl, _⟩ := h
      rfl
    · obtain ⟨v, k, rfl, hk, ok, hd, q⟩ := h
      cases k with
      | pl s =>
        obtain ⟨p, rfl, hp⟩ := hk
        exact ⟨_, rfl, p, _, _, _, rfl, rfl, SqT.of hp, at0, rfl, _, rfl, bt rfl ⟨_, rfl, q _ H (Same.refl H) ⟨p, rfl, hp⟩⟩⟩
      | nd f a b =>
        obtain ⟨p, x, y, rfl, hp, ha, hb⟩ := hk
        obtain ⟨hf, oa, ob⟩ := ok
        have dm : 1 + max a.deep b.deep ≤ n + 1 := hd
        obtain ⟨t, ht⟩ := turnsV T hf
        refine ⟨_, rfl, p, _, _, _, rfl, rfl, SqT.of hp, at0, rfl, _, rfl, bf (plain_ne hf) ?_⟩
        refine ⟨_, rfl, p, _, _, _, rfl, rfl, SqT.of hp, at0, T.o_TURNS, f, .str (turnF f), rfl, rfl, ⟨_, _, _, T.D_TURNS.at_, T.D_TURNS.lit, ht, ⟨_, rfl⟩⟩, ?_⟩
        refine ⟨_, rfl, p, _, _, _, rfl, rfl, SqT.of hp, at2, y, b, rfl, hb, ob, by omega, fun vb H1 e1 kb => ?_⟩
        refine ⟨_, rfl, p, _, _, _, rfl, rfl, SqT.of (e1 _ _ hp), at1, x, a, rfl, ha.mono (.of e1), oa, by omega, fun va H2 e2 ka => ?_⟩
        refine ⟨sz1 (by show 3 ≤ 1000000; decide), fun t nt => ?_⟩
        exact q _ _ (e1.trans (e2.trans (same_new nt _))) ⟨t, vb, va, rfl, upd_same, kb.mono (.of (e2.trans (same_new nt _))), ka.mono (.new nt)⟩
end
end K02

namespace K02
open PySem PySem.Spec PyProof.Rows L2 Ww
section
variable {P : Program} {w : World} {K : PySem.W.Frag} {mg : Str → Option Value} {base : Heap}
theorem ok_signed (T : Txt w K mg) : ∀ n : Nat, FnOk P w K mg base CX0 (n + 1) T.a_signed T.d_signed P_signed (spSigned n)
  | 0 => fn_none fun vs H Q E h => spSigned_0 h
  | n + 1 => by
    have IH := ok_signed T n
    refine T.F_signed.ok sc_signed (fun vs H Q E h => ?_) (fun cdv A outer s H vs Q E hr h => ⟨_, (pss_cons (ps_if (pt_cmpR op_eq (pe_ix ix_tup (pv 0) pe_int (fun _ _ => rfl)) pe_str (nomark _))
    (pss_one (ps_ret (pe_lst (pa_cons (pe_tup (pa_cons (pe_ix ix_tup (pv 0) pe_int (fun _ _ => rfl)) (pa_cons (pv 1) pa_nil))) pa_nil))))
    pss_nil)
    (pss_cons (ps_set (i := 2) sc_signed.nd rfl (Or.inl rfl) (pe_call IH (hr.mono (by first | decide | omega)) rfl T.m_signed T.F_signed.kp T.B_signed .nil pass0 (pa_cons (pe_ix ix_tup (pv 0) pe_int (fun _ _ => rfl)) (pa_cons (pe_ifExp (pt_cmpR op_eq (pe_ix ix_tup (pv 0) pe_int (fun _ _ => rfl)) pe_str (nomark _)) (pe_un un_neg (pv 1)) (pv 1)) pa_nil))))
    (pss_cons (ps_set (i := 3) sc_signed.nd rfl (Or.inl rfl) (pe_call IH (hr.mono (by first | decide | omega)) rfl T.m_signed T.F_signed.kp T.B_signed .nil pass0 (pa_cons (pe_ix ix_tup (pv 0) pe_int (fun _ _ => rfl)) (pa_cons (pe_ifExp (pt_cmpR op_eq (pe_ix ix_tup (pv 0) pe_int (fun _ _ => rfl)) pe_str (nomark _)) (pe_un un_neg (pv 1)) (pv 1)) pa_nil))))
    (pss_one (ps_ret (pe_ifExp (pt_cmpR op_eq (pv 1) pe_int (nomark _)) (pe_op op_cat (pv 2) (pv 3)) (pe_op op_cat (pv 3) (pv 2)))))))), ?_⟩)
    · obtain ⟨v, k, s, rfl, _⟩ := h
      rfl
    · obtain ⟨v, k, s, rfl, hk, ok, hd, hz, q⟩ := h
      cases k with
      | pl x =>
        obtain ⟨p, rfl, hp⟩ := hk
        refine ⟨_, rfl, p, _, _, _, rfl, rfl, SqT.of hp, at0, rfl, _, rfl, bt rfl ?_⟩
        refine ⟨_, rfl, p, _, _, _, rfl, rfl, SqT.of hp, at1, _, rfl, sz1 (by show 2 ≤ 1000000; decide), fun t nt => ⟨sz1 (by show 1 ≤ 1000000; decide), fun l nl => ?_⟩⟩
        exact q l _ _ ((same_new nt _).trans (same_new nl _)) ((same_new nt _).free nl) upd_same ⟨⟨t, rfl, same_new nl _ _ _ upd_same⟩, trivial⟩
      | nd f a b =>
        obtain ⟨p, x, y, rfl, hp, ha, hb⟩ := hk
        obtain ⟨hf, oa, ob⟩ := ok
        have dm : 1 + max a.deep b.deep ≤ n + 1 := hd
        have lz : (a.letters ++ b.letters).length ≤ 1000 := hz
        rw [List.length_append] at lz
        refine ⟨_, rfl, p, _, _, _, rfl, rfl, SqT.of hp, at0, rfl, _, rfl, bf (plain_ne hf) ?_⟩
        refine ⟨_, rfl, p, _, _, _, rfl, rfl, SqT.of hp, at1, _, rfl, p, _, _, _, rfl, rfl, SqT.of hp, at0, rfl, _, rfl, neg_if rfl ?_⟩
        refine ⟨x, a, _, rfl, ha, oa, by omega, by omega, fun r1 rows1 H1 e1 n1 h1 w1 => ?_⟩
        rw [neg_eq f "ahead" s] at w1
        have hp1 := e1 _ _ hp
        refine ⟨_, rfl, p, _, _, _, rfl, rfl, SqT.of hp1, at2, _, rfl, p, _, _, _, rfl, rfl, SqT.of hp1, at0, rfl, _, rfl, neg_if rfl ?_⟩
        refine ⟨y, b, _, rfl, hb.mono (.of e1), ob, by omega, by omega, fun r2 rows2 H2 e2 n2 h2 w2 => ?_⟩
        rw [neg_eq f "behind" s] at w2
        have h1' := e2 _ _ h1
        have w1' := w1.mono (RowAt.mono (.of e2))
        have l1 := w1.len
        have l2 := w2.len
        rw [a.sgn_len] at l1
        rw [b.sgn_len] at l2
        have e12 := e1.trans e2
        refine ⟨_, rfl, rfl, _, rfl, bb (fun c => ?_) (fun c => ?_)⟩
        · have c' : s = 1 := V.int.inj (of_decide_eq_true c)
          refine ⟨_, rfl, _, rfl, r1, r2, _, _, rfl, rfl, h1', h2, sz1 (by omega), fun t nt => ?_⟩
          refine q t _ _ (e12.trans (same_new nt _)) (e12.free nt) upd_same ?_
          show All2 _ _ (if s = 1 then _ else _)
          rw [if_pos c']
          exact All2.app (w2.mono (RowAt.mono (.new nt))) (w1'.mono (RowAt.mono (.new nt)))
        · have c' : ¬ s = 1 := fun z => of_decide_eq_false c (by rw [z])
          refine ⟨_, rfl, _, rfl, r2, r1, _, _, rfl, rfl, h2, h1', sz1 (by omega), fun t nt => ?_⟩
          refine q t _ _ (e12.trans (same_new nt _)) (e12.free nt) upd_same ?_
          show All2 _ _ (if s = 1 then _ else _)
          rw [if_neg c']
          exact All2.app (w1'.mono (RowAt.mono (.new nt))) (w2.mono (RowAt.mono (.new nt)))
end
end K02

namespace K02
open PySem PySem.Spec PyProof.Rows L2 Ww
section
variable {P : Program} {w : World} {K : PySem.W.Frag} {mg : Str → Option Value} {base : Heap}
theorem rowSgn_take {ks : List Kd} {i : Nat} {k : Kd} (h : ks[i]? = some k) : rowSgn (ks.take (i + 1)) = rowSgn (ks.take i) ++ k.sgn 1 := by
  unfold rowSgn
  rw [List.take_succ, h, List.flatMap_append]
  show _ ++ ([k].flatMap _) = _
  rw [List.flatMap_cons, List.flatMap_nil, List.append_nil]
theorem rowSgn_le {ks : List Kd} (i : Nat) : (rowSgn (ks.take i)).length ≤ (rowSgn ks).length := by
  have e : rowSgn ks = rowSgn (ks.take i) ++ rowSgn (ks.drop i) := by
    unfold rowSgn
    rw [← List.flatMap_append, List.take_append_drop]
  rw [e, List.length_append]
  omega
theorem ok_row_signed (T : Txt w K mg) : FnOk P w K mg base CX0 (10) T.a_row_signed T.d_row_signed P_row_signed (spRowSigned) := by
  refine T.F_row_signed.ok sc_row_signed (fun vs H Q E h => ?_) (fun cdv A outer s H vs Q E hr h => ⟨_, (pss_one (ps_ret (pe_lc2 (own := [("kind", 1), ("pair", 2)]) (vs1 := [2]) (g := gName 1) (g1 := gName 2) rfl sc_row_signed.nd (pi_list (pv 0)) (blkOk_by (N := N_row_signed) (own := [("kind", 1), ("pair", 2)]) (sc := defScope s_row_signed) (by decide +kernel)) (by decide) (fun _ _ _ _ _ => (pg_name (i := 1) sc_row_signed.nd rfl (Or.inl rfl))) (fun _ _ _ _ _ => pts_nil) (fun _ _ _ _ _ => (show PI _ _ _ (iList K _) from pi_list (pe_call (ok_signed T 8) (hr.mono (by first | decide | omega)) rfl T.m_signed T.F_signed.kp T.B_signed .nil pass0 (pa_cons (pv 1) (pa_cons pe_int pa_nil))))) (fun _ _ _ _ _ => (pg_name (i := 2) sc_row_signed.nd rfl (Or.inl rfl))) (fun _ _ _ _ _ => pts_nil) (fun _ _ _ _ _ => (pv 2))))), ?_⟩)
  · obtain ⟨l, xs, ks, rfl, _⟩ := h
    rfl
  · obtain ⟨l, xs, ks, rfl, hl, hks, hb, q⟩ := h
    refine ⟨_, rfl, l, rfl, ⟨xs, SqL.of hl⟩, fun D hD => ?_⟩
    have lx := hks.len
    refine walk_list (K := K) (xs := xs) (fun i H' => Same H H' ∧ ∃ acc, H' D = some (.lst acc) ∧ All2 (RowAt H') acc (rowSgn (ks.take i))) ⟨same_new hD _, [], upd_same, trivial⟩ (fun i H' _ ⟨e, _⟩ => SqL.of (e _ _ hl)) ?_ ?_
    · rintro i x H1 hx ⟨e1, acc, hacc, wacc⟩
      obtain ⟨k, hk, rk⟩ := hks.get hx
      have b := hb.1 k (List.mem_of_getElem? hk)
      have ltk := rowSgn_le (ks := ks) (i + 1)
      rw [rowSgn_take hk, List.length_append] at ltk
      refine ⟨rfl, lc_yes ⟨_, rfl, x, k, 1, rfl, rk.mono (.of e1), b.1, b.2.1, by have := b.2.2; omega, fun r rows H2 e2 nr hr wr => ?_⟩⟩
      have nrD : r ≠ D := ne_of_none hacc nr |>.symm
      refine ⟨r, rfl, ⟨rows, SqL.of hr⟩, walk_list (K := K) (xs := rows) (fun j H' => Same H H' ∧ H' r = some (.lst rows) ∧ All2 (RowAt H') rows (k.sgn 1) ∧ ∃ acc, H' D = some (.lst acc) ∧ All2 (RowAt H') acc (rowSgn (ks.take i) ++ (k.sgn 1).take j)) ⟨e1.trans e2, hr, wr, acc, e2 _ _ hacc, ?_⟩ (fun j H' _ ⟨_, h, _⟩ => SqL.of h) ?_ ?_⟩
      · rw [List.take_zero, List.append_nil]
        exact wacc.mono (RowAt.mono (.of e2))
      · rintro j y H3 hy ⟨e3, hr3, wr3, acc3, ha3, wa3⟩
        obtain ⟨pr, hpr, ry⟩ := wr3.get hy
        have l3 := wa3.len
        rw [List.length_append, List.length_take] at l3
        have tp : Tps H3 (upd H3 D (.lst (acc3 ++ [y]))) := Tps.lst ha3
        refine ⟨rfl, lc_yes ⟨_, rfl, acc3, ha3, sz2 (by have := hb.2.1; omega), same_mut e3 hD _, ?_, wr3.mono (RowAt.mono tp), acc3 ++ [y], upd_same, ?_⟩⟩
        · rw [upd_ne nrD]
          exact hr3
        · rw [List.take_succ, hpr, ← List.append_assoc]
          exact All2.snoc (ry.mono tp) (wa3.mono (RowAt.mono tp))
      · rintro H3 ⟨e3, hr3, wr3, acc3, ha3, wa3⟩
        have lr := wr.len
        rw [List.take_of_length_le (l := k.sgn 1) (i := rows.length) (by omega)] at wa3
        rw [rowSgn_take hk]
        exact ⟨e3, acc3, ha3, wa3⟩
    · rintro H1 ⟨e1, acc, hacc, wacc⟩
      rw [List.take_of_length_le (by omega)] at wacc
      exact q D acc H1 e1 hacc wacc
end
end K02

namespace K02
open PySem PySem.Spec PyProof.Rows L2 Ww
section
variable {P : Program} {w : World} {K : PySem.W.Frag} {mg : Str → Option Value} {base : Heap}
theorem ok_cancelled (T : Txt w K mg) : FnOk P w K mg base CX0 (1) T.a_cancelled T.d_cancelled P_cancelled (spCancelled) := by
  refine T.F_cancelled.ok sc_cancelled (fun vs H Q E h => ?_) (fun cdv A outer s H vs Q E hr h => ⟨_, (pss_cons (ps_set (i := 1) sc_cancelled.nd rfl (Or.inl rfl) (pe_lst pa_nil))
    (pss_cons (ps_for PassesOwn.never rfl (pi_list (pv 0)) (pg_tup rfl (pgs_cons (pg_name (i := 2) sc_cancelled.nd rfl (Or.inl rfl)) (pgs_cons (pg_name (i := 3) sc_cancelled.nd rfl (Or.inl rfl)) pgs_nil)))
    (pss_one (ps_if (PW.pt (pw_and (pt_cmpR (op_neD (hu64 hr)) (pv 1) (pe_lst pa_nil) (nomark _)) (pw_and1 (pt_cmpR (op_eqD (hu64 hr)) (pe_ix ix_list (pv 1) (pe_un un_neg pe_int) (fun _ _ => rfl)) (pe_tup (pa_cons (pv 2) (pa_cons (pe_un un_neg (pv 3)) pa_nil))) (nomark _)))))
    (pss_one (ps_expr (pe_bm0 PySem.F.plainAttrs_list PySem.F.slot_list_pop PySem.F.type_list_pop mt_pop (pv 1))))
    (pss_one (ps_expr (pe_bm PySem.F.plainAttrs_list PySem.F.slot_list_append PySem.F.type_list_append mt_append (pv 1) (pa_cons (pe_tup (pa_cons (pv 2) (pa_cons (pv 3) pa_nil))) pa_nil)))))))
    (pss_one (ps_ret (pv 1))))), ?_⟩)
  · obtain ⟨l, rows, ps, rfl, _⟩ := h
    rfl
  · obtain ⟨l, rows, ps, rfl, hl, hw, hlet, hz, q⟩ := h
    refine ⟨sz1 (by show 0 ≤ 1000000; decide), fun f nf => ?_⟩
    have e0 := same_new nf (.lst [])
    have lr := hw.len
    have c2 : 2 ≤ sizeLine := sz1 (by show 2 ≤ 1000000; decide)
    refine ⟨_, rfl, l, rfl, ⟨rows, SqL.of (e0 _ _ hl)⟩, for_list (xs := rows) (fun i σ H' => ∃ (o2 o3 : Option V) (ys : List V), σ = [some (.ref l), some (.ref f), o2, o3] ∧ Same H H' ∧ H' f = some (.lst ys.reverse) ∧ All2 (RowAt H') ys (fold [] (ps.take i))) ⟨none, none, [], rfl, e0, upd_same, trivial⟩ (fun i σ H' _ ⟨_, _, _, _, e, _⟩ => SqL.of (e _ _ hl)) ?_ ?_⟩
    · rintro i x σ H1 hx ⟨o2, o3, ys, rfl, e1, hf, hys⟩
      obtain ⟨pr, hpr, px, rfl, hpx⟩ := hw.get hx
      have et : fold [] (ps.take (i + 1)) = rstep (fold [] (ps.take i)) pr := by
        rw [List.take_succ, hpr]
        exact fold_app [] _ [pr]
      rw [et]
      have lst : (fold [] (ps.take i)).length ≤ 1000 := by
        have := fold_len (ps.take i) []
        rw [List.length_take] at this
        simp at this
        omega
      have lys := hys.len
      have hmem : ∀ y ∈ fold [] (ps.take i), Let y.1 := fun y hy => hlet y (List.mem_of_mem_take (red_mem _ y (List.mem_reverse.mpr hy)))
      generalize fold [] (ps.take i) = st at hys hmem lst lys
      have hlp : Let pr.1 := hlet pr (List.mem_of_getElem? hpr)
      obtain ⟨pl, pi⟩ := pr
      refine ⟨px, _, rfl, SqT.of (e1 _ _ hpx), rfl, _, _, rfl, _, _, rfl, rfl, ?_⟩
      refine ⟨_, rfl, sz1 (by show 0 ≤ 1000000; decide), fun z nz => ne_nil (same_new nz _ _ _ hf) upd_same (fun u hu => ?_) ?_⟩
      · obtain ⟨x, m, r⟩ := hys.mem (List.mem_reverse.mp hu)
        exact (RowAt.mono (.new nz) _ _ r).lk (hmem x m)
      · have eZ := e1.trans (same_new nz (.lst []))
        have hfz := same_new nz (.lst []) _ _ hf
        replace hys := hys.mono (RowAt.mono (.new (o := .lst []) nz))
        generalize upd H1 z (.lst []) = H2 at eZ hfz hys
        have app : ∀ {H3 : Hp}, Same H H3 → H3 f = some (.lst ys.reverse) → All2 (RowAt H3) ys st → rstep st (pl, pi) = (pl, pi) :: st → ∀ t, H3 t = none → 
            ∃ (o2 o3 : Option V) (zs : List V), [some (.ref l), some (.ref f), some (.str pl), some (.int pi)] = [some (.ref l), some (.ref f), o2, o3] ∧ Same H (upd (upd H3 t (.tup [.str pl, .int pi])) f (.lst (ys.reverse ++ [.ref t]))) ∧ (upd (upd H3 t (.tup [.str pl, .int pi])) f (.lst (ys.reverse ++ [.ref t]))) f = some (.lst zs.reverse) ∧ All2 (RowAt (upd (upd H3 t (.tup [.str pl, .int pi])) f (.lst (ys.reverse ++ [.ref t])))) zs (rstep st (pl, pi)) := by
          intro H3 e3 h3 w3 er t nt
          have g3 := same_new nt (.tup [.str pl, .int pi]) _ _ h3
          have tp : Tps H3 (upd (upd H3 t (.tup [.str pl, .int pi])) f (.lst (ys.reverse ++ [.ref t]))) := (Tps.new nt).trans (Tps.lst g3)
          refine ⟨_, _, .ref t :: ys, rfl, same_mut (e3.trans (same_new nt _)) nf _, ?_, ?_⟩
          · rw [upd_same, List.reverse_cons]
          · rw [er]
            refine ⟨⟨t, rfl, ?_⟩, w3.mono (RowAt.mono tp)⟩
            rw [upd_ne (ne_of_none h3 nt).symm]
            exact upd_same
        cases ys with
        | nil =>
          cases st with
          | cons _ _ => exact hys.elim
          | nil =>
            refine ⟨_, rfl, bf rfl ?_⟩
            refine bf rfl ?_
            refine ⟨_, rfl, .inl ⟨rfl, _, SqL.of hfz⟩, _, rfl, _, rfl, c2, fun t nt => ?_⟩
            exact ⟨f, _, _, rfl, rfl, same_new nt _ _ _ hfz, sz2 (by show 0 < 1000000; decide), app eZ hfz hys rfl t nt⟩
        | cons y ys =>
          cases st with
          | nil => exact hys.elim
          | cons qv st =>
            have erev : (y :: ys).reverse = ys.reverse ++ [y] := List.reverse_cons
            have ene : (!(y :: ys).reverse.isEmpty) = true := by
              rw [erev]
              cases ys.reverse <;> rfl
            have hfz' := hfz
            rw [erev] at hfz'
            refine ⟨_, rfl, bt ene ?_⟩
            refine ⟨_, rfl, _, rfl, f, _, _, _, rfl, rfl, SqL.of hfz', atI_last _ _, _, rfl, _, rfl, _, rfl, c2, fun t nt => ?_⟩
            have eT := eZ.trans (same_new nt (.tup [.str pl, .int (-pi)]))
            have hft := same_new nt (.tup [.str pl, .int (-pi)]) _ _ hfz
            have wt := hys.mono (RowAt.mono (.new (o := .tup [.str pl, .int (-pi)]) nt))
            have ht := upd_same (H := H2) (a := t) (o := .tup [.str pl, .int (-pi)])
            generalize upd H2 t (.tup [.str pl, .int (-pi)]) = H3 at eT hft wt ht
            refine ⟨rowDat qv, rowDat (inv (pl, pi)), wt.1.dp, RowAt.dp ⟨t, rfl, ht⟩, row_shaped (hmem _ List.mem_cons_self), row_shaped (x := inv (pl, pi)) hlp, _, rfl, ?_⟩
            rw [row_eqv]
            have hft' := hft
            rw [erev] at hft'
            refine bb (fun c => ?_) (fun c => ?_)
            · have c' := of_decide_eq_true c
              refine ⟨_, rfl, .inl ⟨rfl, _, SqL.of hft'⟩, f, _, y, rfl, rfl, hft', by simp, ?_⟩
              rw [List.dropLast_concat]
              refine ⟨_, _, ys, rfl, same_mut eT nf _, upd_same, ?_⟩
              have er : rstep (qv :: st) (pl, pi) = st := if_pos c'
              rw [er]
              exact wt.2.mono (RowAt.mono (Tps.lst hft))
            · have c' := of_decide_eq_false c
              have er : rstep (qv :: st) (pl, pi) = (pl, pi) :: qv :: st := if_neg c'
              refine ⟨_, rfl, .inl ⟨rfl, _, SqL.of hft⟩, _, rfl, _, rfl, c2, fun t2 nt2 => ?_⟩
              exact ⟨f, _, _, rfl, rfl, same_new nt2 _ _ _ hft, sz2 (by rw [List.length_reverse]; omega), app eT hft wt er t2 nt2⟩
    · rintro σ H1 ⟨o2, o3, ys, rfl, e1, hf, hys⟩
      rw [List.take_of_length_le (by omega)] at hys
      exact ⟨_, rfl, q f _ H1 e1 nf hf hys.rev⟩
end
end K02

namespace K02
open PySem PySem.Spec PyProof.Rows L2 Ww
section
variable {P : Program} {w : World} {K : PySem.W.Frag} {mg : Str → Option Value} {base : Heap}
theorem ok_letters (T : Txt w K mg) : FnOk P w K mg base CX0 (11) T.a_letters T.d_letters P_letters (spLetters) := by
  refine T.F_letters.ok sc_letters (fun vs H Q E h => ?_) (fun cdv A outer s H vs Q E hr h => ⟨_, (pss_one (ps_ret (pe_join pe_str (pe_callB (cr_sortS rfl) rfl T.b_sorted (by decide +kernel) (pa_cons (pe_callTy (cr_setS rfl) (by rfl) T.b_set (by decide +kernel) (pa_cons (pe_call (ok_letters_of T 8) (hr.mono (by first | decide | omega)) rfl T.m_letters_of T.F_letters_of.kp T.B_letters_of .nil pass0 (pa_cons (pe_call (ok_checked_kind T) (hr.mono (by first | decide | omega)) rfl T.m_checked_kind T.F_checked_kind.kp T.B_checked_kind .nil pass0 (pa_cons (pv 0) pa_nil)) pa_nil)) pa_nil)) pa_nil))))), ?_⟩)
  · obtain ⟨v, k, rfl, _⟩ := h
    rfl
  · obtain ⟨v, k, rfl, ⟨hk, ok, hd, hz⟩, q⟩ := h
    refine ⟨⟨_, rfl⟩, _, rfl, v, k, rfl, hk, ok, hd, v, k, rfl, hk, ok, hd, by omega, fun r1 H1 e1 h1 => ?_⟩
    refine ⟨r1, k.letters, rfl, SqL.of h1, by omega, fun p2 hp2 => ?_⟩
    have l2 := dedup_len k.letters []
    rw [List.length_nil] at l2
    refine ⟨p2, _, rfl, upd_same, by omega, fun ss p3 hs hp3 => ?_⟩
    have hs' := hs.of_dedup
    refine ⟨_, p3, ss, rfl, rfl, .inl (SqL.of upd_same), ?_, q ss _ (e1.trans ((same_new hp2 _).trans (same_new hp3 _))) hs'⟩
    exact join_small hs' ok hz
end
end K02

namespace K02
open PySem PySem.Spec PyProof.Rows L2 Ww
section
variable {P : Program} {w : World} {K : PySem.W.Frag} {mg : Str → Option Value} {base : Heap}
theorem ok_size (T : Txt w K mg) : FnOk P w K mg base CX0 (11) T.a_size T.d_size P_size (spSize) := by
  refine T.F_size.ok sc_size (fun vs H Q E h => ?_) (fun cdv A outer s H vs Q E hr h => ⟨_, (pss_one (ps_ret (pe_callB call_len_seq rfl T.b_len PySem.boot_len (pa_cons (pe_call (ok_letters_of T 8) (hr.mono (by first | decide | omega)) rfl T.m_letters_of T.F_letters_of.kp T.B_letters_of .nil pass0 (pa_cons (pe_call (ok_checked_kind T) (hr.mono (by first | decide | omega)) rfl T.m_checked_kind T.F_checked_kind.kp T.B_checked_kind .nil pass0 (pa_cons (pv 0) pa_nil)) pa_nil)) pa_nil)))), ?_⟩)
  · obtain ⟨v, k, rfl, _⟩ := h
    rfl
  · obtain ⟨v, k, rfl, ⟨hk, ok, hd, hz⟩, q⟩ := h
    refine ⟨_, rfl, v, k, rfl, hk, ok, hd, v, k, rfl, hk, ok, hd, by omega, fun r1 H1 e1 h1 => ?_⟩
    refine ⟨r1, _, rfl, .inl (SqL.of h1), ?_⟩
    rw [List.length_map]
    exact q H1 e1
end
end K02

namespace K02
open PySem PySem.Spec PyProof.Rows L2 Ww
section
variable {P : Program} {w : World} {K : PySem.W.Frag} {mg : Str → Option Value} {base : Heap}
theorem ok_depth (T : Txt w K mg) : FnOk P w K mg base CX0 (11) T.a_depth T.d_depth P_depth (spDepth) := by
  refine T.F_depth.ok sc_depth (fun vs H Q E h => ?_) (fun cdv A outer s H vs Q E hr h => ⟨_, (pss_one (ps_ret (pe_call (ok_depth_of T 8) (hr.mono (by first | decide | omega)) rfl T.m_depth_of T.F_depth_of.kp T.B_depth_of .nil pass0 (pa_cons (pe_call (ok_checked_kind T) (hr.mono (by first | decide | omega)) rfl T.m_checked_kind T.F_checked_kind.kp T.B_checked_kind .nil pass0 (pa_cons (pv 0) pa_nil)) pa_nil)))), ?_⟩)
  · obtain ⟨v, k, rfl, _⟩ := h
    rfl
  · obtain ⟨v, k, rfl, ⟨hk, ok, hd, hz⟩, q⟩ := h
    exact ⟨_, rfl, v, k, rfl, hk, ok, hd, v, k, rfl, hk, ok, hd, q⟩
end
end K02

namespace K02
open PySem PySem.Spec PyProof.Rows L2 Ww
section
variable {P : Program} {w : World} {K : PySem.W.Frag} {mg : Str → Option Value} {base : Heap}
theorem ok_is_single (T : Txt w K mg) : FnOk P w K mg base CX0 (11) T.a_is_single T.d_is_single P_is_single (spIsSingle) := by
  refine T.F_is_single.ok sc_is_single (fun vs H Q E h => ?_) (fun cdv A outer s H vs Q E hr h => ⟨_, (pss_one (ps_ret (pe_call (ok_single T 8) (hr.mono (by first | decide | omega)) rfl T.m_single T.F_single.kp T.B_single .nil pass0 (pa_cons (pe_call (ok_checked_kind T) (hr.mono (by first | decide | omega)) rfl T.m_checked_kind T.F_checked_kind.kp T.B_checked_kind .nil pass0 (pa_cons (pv 0) pa_nil)) pa_nil)))), ?_⟩)
  · obtain ⟨v, k, rfl, _⟩ := h
    rfl
  · obtain ⟨v, k, rfl, ⟨hk, ok, hd, hz⟩, q⟩ := h
    exact ⟨_, rfl, v, k, rfl, hk, ok, hd, v, k, rfl, hk, ok, hd, q⟩
end
end K02

namespace K02
open PySem PySem.Spec PyProof.Rows L2 Ww
section
variable {P : Program} {w : World} {K : PySem.W.Frag} {mg : Str → Option Value} {base : Heap}
theorem ok_turned (T : Txt w K mg) : FnOk P w K mg base CX0 (11) T.a_turned T.d_turned P_turned (spTurned) := by
  refine T.F_turned.ok sc_turned (fun vs H Q E h => ?_) (fun cdv A outer s H vs Q E hr h => ⟨_, (pss_one (ps_ret (pe_call (ok_turned_kind T 8) (hr.mono (by first | decide | omega)) rfl T.m_turned_kind T.F_turned_kind.kp T.B_turned_kind .nil pass0 (pa_cons (pe_call (ok_checked_kind T) (hr.mono (by first | decide | omega)) rfl T.m_checked_kind T.F_checked_kind.kp T.B_checked_kind .nil pass0 (pa_cons (pv 0) pa_nil)) pa_nil)))), ?_⟩)
  · obtain ⟨v, k, rfl, _⟩ := h
    rfl
  · obtain ⟨v, k, rfl, ⟨hk, ok, hd, hz⟩, q⟩ := h
    exact ⟨_, rfl, v, k, rfl, hk, ok, hd, v, k, rfl, hk, ok, hd, q⟩
end
end K02

namespace K02
open PySem PySem.Spec PyProof.Rows L2 Ww
section
variable {P : Program} {w : World} {K : PySem.W.Frag} {mg : Str → Option Value} {base : Heap}
theorem ok_turned_row (T : Txt w K mg) : FnOk P w K mg base CX0 (13) T.a_turned_row T.d_turned_row P_turned_row (spTurnedRow) := by
  refine T.F_turned_row.ok sc_turned_row (fun vs H Q E h => ?_) (fun cdv A outer s H vs Q E hr h => ⟨_, (pss_one (ps_ret (pe_lc (own := [("kind", 1)]) (g := gName 1) rfl sc_turned_row.nd (pi_list (pe_revL (pe_call (ok_checked_row T) (hr.mono (by first | decide | omega)) rfl T.m_checked_row T.F_checked_row.kp T.B_checked_row .nil pass0 (pa_cons (pv 0) pa_nil)))) (blkOk_by (N := N_turned_row) (own := [("kind", 1)]) (sc := defScope s_turned_row) (by decide +kernel)) (fun _ _ _ _ _ => (pg_name (i := 1) sc_turned_row.nd rfl (Or.inl rfl))) (fun _ _ _ _ _ => pts_nil) (fun _ _ _ _ _ => (pe_call (ok_turned_kind T 8) (hr.mono (by first | decide | omega)) rfl T.m_turned_kind T.F_turned_kind.kp T.B_turned_kind .nil pass0 (pa_cons (pv 1) pa_nil)))))), ?_⟩)
  · obtain ⟨l, xs, ks, rfl, _⟩ := h
    rfl
  · obtain ⟨l, xs, ks, rfl, hl, hks, hb, q⟩ := h
    refine ⟨_, rfl, l, xs, ks, rfl, hl, hks, hb, fun H1 e1 => ?_⟩
    have hl1 := e1 _ _ hl
    refine ⟨l, xs, rfl, SqL.of hl1, fun r nr => ?_⟩
    have e2 := e1.trans (same_new nr (.lst xs.reverse))
    have hrev := (hks.mono fun _ _ h => h.mono (.of e2)).rev
    have hr := upd_same (H := H1) (a := r) (o := .lst xs.reverse)
    generalize upd H1 r (.lst xs.reverse) = H2 at e2 hrev hr
    have lx := hks.len
    have l60 := rb_len ks
    have hb2 := hb.2.1
    refine ⟨r, rfl, ⟨xs.reverse, SqL.of hr⟩, fun D hD => ?_⟩
    refine lc_list (K := K) (xs := xs.reverse) (fun i H' => Same H2 H' ∧ ∃ acc, H' D = some (.lst acc) ∧ All2 (KAt H') acc ((ks.reverse.take i).map Kd.turn)) ⟨same_new hD _, [], upd_same, trivial⟩ (fun i H' _ ⟨e, _⟩ => SqL.of (e _ _ hr)) ?_ ?_
    · rintro i x H3 hx ⟨e3, acc, ha, wa⟩
      obtain ⟨k, hk, rk⟩ := hrev.get hx
      have b := hb.1 k (List.mem_reverse.mp (List.mem_of_getElem? hk))
      have la := wa.len
      rw [List.length_map, List.length_take, List.length_reverse] at la
      refine ⟨rfl, lc_yes ⟨_, rfl, x, k, rfl, rk.mono (.of e3), b.1, b.2.1, fun v' H4 e4 kv => ?_⟩⟩
      have ha4 := e4 _ _ ha
      have tp : Tps H4 (upd H4 D (.lst (acc ++ [v']))) := Tps.lst ha4
      refine ⟨acc, ha4, sz2 (by omega), same_mut (e3.trans e4) hD _, acc ++ [v'], upd_same, ?_⟩
      rw [List.take_succ, hk, List.map_append]
      exact All2.snoc (kv.mono tp) (wa.mono fun _ _ h => h.mono ((Tps.of e4).trans tp))
    · rintro H3 ⟨e3, acc, ha, wa⟩
      rw [List.take_of_length_le (by rw [List.length_reverse, List.length_reverse]; omega)] at wa
      exact q D acc H3 (e2.trans e3) (e2.free hD) ha wa
end
end K02

namespace K02
open PySem PySem.Spec PyProof.Rows L2 Ww
section
variable {P : Program} {w : World} {K : PySem.W.Frag} {mg : Str → Option Value} {base : Heap}
theorem ok_balance (T : Txt w K mg) : FnOk P w K mg base CX0 (13) T.a_balance T.d_balance P_balance (spBalance) := by
  refine T.F_balance.ok sc_balance (fun vs H Q E h => ?_) (fun cdv A outer s H vs Q E hr h => ⟨_, (pss_cons (ps_set (i := 1) sc_balance.nd rfl (Or.inr rfl) pe_dnewK)
    (pss_cons (ps_for PassesOwn.never rfl (pi_list (pe_call (ok_row_signed T) (hr.mono (by first | decide | omega)) rfl T.m_row_signed T.F_row_signed.kp T.B_row_signed .nil pass0 (pa_cons (pe_call (ok_checked_row T) (hr.mono (by first | decide | omega)) rfl T.m_checked_row T.F_checked_row.kp T.B_checked_row .nil pass0 (pa_cons (pv 0) pa_nil)) pa_nil))) (pg_tup rfl (pgs_cons (pg_name (i := 2) sc_balance.nd rfl (Or.inl rfl)) (pgs_cons (pg_name (i := 3) sc_balance.nd rfl (Or.inl rfl)) pgs_nil)))
    (pss_one (ps_dput (hu1 hr) (pv 1) (pv 2) (pe_op op_add (pe_dget2 (hu1 hr) (pv 1) (pv 2) pe_int ⟨rfl, rfl, rfl, rfl⟩) (pv 3)) rfl)))
    (pss_one (ps_ret (pe_lc (own := [("letter", 2)]) (g := gName 2) rfl sc_balance.nd (pi_list (pe_callB (call_sortedD rfl) rfl T.b_sorted (by decide +kernel) (pa_cons (pv 1) pa_nil))) (blkOk_by (N := N_balance) (own := [("letter", 2)]) (sc := defScope s_balance) (by decide +kernel)) (fun _ _ _ _ _ => (pg_name (i := 2) sc_balance.nd rfl (Or.inl rfl))) (fun _ _ _ _ _ => (pts_one (pt_cmpR op_ne (pe_dget (hu1 hr) (pv 1) (pv 2) (fun _ _ => rfl)) pe_int (nomark _)))) (fun _ _ _ _ _ => (pe_tup (pa_cons (pv 2) (pa_cons (pe_dget (hu1 hr) (pv 1) (pv 2) (fun _ _ => rfl)) pa_nil))))))))), ?_⟩)
  · obtain ⟨l, xs, ks, rfl, _⟩ := h
    rfl
  · obtain ⟨l, xs, ks, rfl, hl, hks, hb, q⟩ := h
    refine fun d nd => ?_
    have e0 := same_new nd (.dK [])
    have hd0 := upd_same (H := H) (a := d) (o := .dK [])
    generalize upd H d (.dK []) = H0 at e0 hd0
    refine ⟨_, rfl, l, xs, ks, rfl, e0 _ _ hl, hks.mono fun _ _ h => h.mono (.of e0), hb, fun H1 e1 => ?_⟩
    have e01 := e0.trans e1
    refine ⟨l, xs, ks, rfl, e01 _ _ hl, hks.mono fun _ _ h => h.mono (.of e01), hb, fun r rows H2 e2 hr wr => ?_⟩
    have e02 := e01.trans e2
    have hd2 := e2 _ _ (e1 _ _ hd0)
    have l60 := hb.2.1
    generalize hps : rowSgn ks = ps at wr q l60
    have lr := wr.len
    have nrd : r ≠ d := fun z => by
      rw [z, hd2] at hr
      cases hr
    refine ⟨r, rfl, ⟨rows, SqL.of hr⟩, for_list (xs := rows) (fun i σ H' => ∃ (o2 o3 : Option V) (kvs : List (L2.Key × V)), σ = [some (.ref l), some (.ref d), o2, o3] ∧ Same H H' ∧ H' r = some (.lst rows) ∧ All2 (RowAt H') rows ps ∧ H' d = some (.dK kvs) ∧ DC kvs (ps.take i) ∧ kvs.length ≤ i) ⟨none, none, [], rfl, e02, hr, wr, hd2, DC.nil, Nat.le_refl 0⟩ (fun i σ H' _ ⟨_, _, _, _, _, h, _⟩ => SqL.of h) ?_ ?_⟩
    · rintro i x σ H3 hx ⟨o2, o3, kvs, rfl, e3, hr3, wr3, hd3, dc, lk⟩
      obtain ⟨pr, hpr, px, rfl, hpx⟩ := wr3.get hx
      have hi : i < rows.length := (List.getElem?_eq_some_iff.mp hx).1
      obtain ⟨pl, pi⟩ := pr
      refine ⟨px, _, rfl, SqT.of hpx, rfl, _, _, rfl, _, _, rfl, rfl, ?_⟩
      refine ⟨_, rfl, d, rfl, .inl ⟨kvs, .inl hd3⟩, _, rfl, _, DGet.k (k := .inr pl) hd3, _, rfl, _, _, dc.get pl, rfl, _, rfl, _, rfl, d, _, rfl, DPut.k (k := .inr pl) hd3 (sz2 (by omega)), ?_⟩
      have tp : Tps H3 (upd H3 d (.dK (putK kvs (.inr pl) (.int (cnt (ps.take i) pl + pi))))) := fun b ys h => by
        rw [upd_ne (ne_of h hd3 (fun z => by cases z))]
        exact h
      refine ⟨_, _, _, rfl, same_mut e3 nd _, ?_, wr3.mono (RowAt.mono tp), upd_same, ?_, ?_⟩
      · rw [upd_ne nrd]
        exact hr3
      · rw [List.take_succ, hpr]
        exact dc.put (pl, pi)
      · have := length_putK kvs (.inr pl) (.int (cnt (ps.take i) pl + pi))
        exact Nat.le_trans this (Nat.succ_le_succ lk)
    · rintro σ H3 ⟨o2, o3, kvs, rfl, e3, hr3, wr3, hd3, dc, lk⟩
      rw [List.take_of_length_le (by omega)] at dc
      obtain ⟨keys, hkeys, nd2, hmem, hval⟩ := dc
      have lkeys : keys.length ≤ 60 := by
        have := congrArg List.length hkeys
        rw [List.length_map, List.length_map] at this
        omega
      refine ⟨_, rfl, d, kvs, keys, rfl, .inl hd3, hkeys, by omega, fun ys p perm srt hp => ?_⟩
      have hsrt : Srt (ps.map (·.1)) ys := srt_of srt (perm.nodup_iff.mpr nd2) fun k => (perm.mem_iff).trans (hmem k)
      have e4 := same_new hp (.lst (ys.map V.str))
      have h4 := upd_same (H := H3) (a := p) (o := .lst (ys.map V.str))
      generalize upd H3 p (.lst (ys.map V.str)) = H4 at e4 h4
      have hd4 := e4 _ _ hd3
      have e34 := e3.trans e4
      have lys : ys.length ≤ 60 := by
        rw [perm.length_eq]
        exact lkeys
      refine ⟨p, rfl, ⟨_, SqL.of h4⟩, fun D hD => ?_⟩
      refine lc_list (K := K) (xs := ys.map V.str) (fun i H' => Same H4 H' ∧ ∃ acc, H' D = some (.lst acc) ∧ All2 (RowAt H') acc (bal ps (ys.take i)) ∧ acc.length ≤ i) ⟨same_new hD _, [], upd_same, trivial, Nat.le_refl 0⟩ (fun i H' _ ⟨e, _⟩ => SqL.of (e _ _ h4)) ?_ ?_
      · rintro i x H5 hx ⟨e5, acc, ha, wa, la⟩
        have hi : i < (ys.map V.str).length := (List.getElem?_eq_some_iff.mp hx).1
        rw [List.length_map] at hi
        rw [List.getElem?_map] at hx
        obtain ⟨y, hy1, rfl⟩ := Option.map_eq_some_iff.mp hx
        have hd5 := e5 _ _ hd4
        have iny : y ∈ keys := perm.mem_iff.mp (List.mem_of_getElem? hy1)
        have hv : valV kvs (.inr y) = some (.int (cnt ps y)) := by rw [hval, if_pos iny]
        have eb : bal ps (ys.take (i + 1)) = bal ps (ys.take i) ++ (if cnt ps y ≠ 0 then [(y, cnt ps y)] else []) := by
          unfold bal
          rw [List.take_succ, hy1, List.map_append, List.filter_append]
          congr 1
          show List.filter _ [(y, cnt ps y)] = _
          by_cases c : cnt ps y = 0
          · rw [if_neg (fun z => z c)]
            exact List.filter_cons_of_neg (by simp [c])
          · rw [if_pos c]
            exact List.filter_cons_of_pos (by simp [c])
        have dg : DGet H5 d (.str y) (some (.int (cnt ps y))) := by
          have := DGet.k (k := .inr y) hd5
          rw [hv] at this
          exact this
        refine ⟨rfl, _, rfl, _, rfl, d, _, rfl, dg, rfl, _, rfl, bb (fun c => ?_) (fun c => ?_)⟩
        · have c' : ¬ cnt ps y = 0 := fun z => by
            rw [z] at c
            cases c
          refine ⟨_, rfl, _, rfl, _, rfl, d, _, rfl, dg, sz1 (by show 2 ≤ 1000000; decide), fun t nt => ?_⟩
          have ha6 := same_new nt (.tup [.str y, .int (cnt ps y)]) _ _ ha
          have tp : Tps H5 (upd (upd H5 t (.tup [.str y, .int (cnt ps y)])) D (.lst (acc ++ [.ref t]))) := (Tps.new nt).trans (Tps.lst ha6)
          refine ⟨acc, ha6, sz2 (by omega), same_mut (e5.trans (same_new nt _)) hD _, acc ++ [.ref t], upd_same, ?_, by rw [List.length_append]; exact Nat.succ_le_succ la⟩
          rw [eb, if_pos c']
          refine All2.snoc ⟨t, rfl, ?_⟩ (wa.mono (RowAt.mono tp))
          rw [upd_ne (ne_of_none ha nt).symm]
          exact upd_same
        · have c' : cnt ps y = 0 := by
            have c2 := of_decide_eq_true (show decide (V.int (cnt ps y) = V.int 0) = true by simpa using c)
            exact V.int.inj c2
          refine ⟨e5, acc, ha, ?_, by omega⟩
          rw [eb, if_neg (fun z => z c'), List.append_nil]
          exact wa
      · rintro H5 ⟨e5, acc, ha, wa, la⟩
        rw [List.length_map, List.take_of_length_le (Nat.le_refl _)] at wa
        subst hps
        exact q D acc ys H5 (e34.trans e5) (e34.free hD) ha hsrt wa
end
end K02

namespace K02
open PySem PySem.Spec PyProof.Rows L2 Ww
section
variable {P : Program} {w : World} {K : PySem.W.Frag} {mg : Str → Option Value} {base : Heap}
theorem ok_word (T : Txt w K mg) : FnOk P w K mg base CX0 (13) T.a_word T.d_word P_word (spWord) := by
  refine T.F_word.ok sc_word (fun vs H Q E h => ?_) (fun cdv A outer s H vs Q E hr h => ⟨_, (pss_one (ps_ret (pe_call (ok_cancelled T) (hr.mono (by first | decide | omega)) rfl T.m_cancelled T.F_cancelled.kp T.B_cancelled .nil pass0 (pa_cons (pe_call (ok_row_signed T) (hr.mono (by first | decide | omega)) rfl T.m_row_signed T.F_row_signed.kp T.B_row_signed .nil pass0 (pa_cons (pe_call (ok_checked_row T) (hr.mono (by first | decide | omega)) rfl T.m_checked_row T.F_checked_row.kp T.B_checked_row .nil pass0 (pa_cons (pv 0) pa_nil)) pa_nil)) pa_nil)))), ?_⟩)
  · obtain ⟨l, xs, ks, rfl, _⟩ := h
    rfl
  · obtain ⟨l, xs, ks, rfl, hl, hks, hb, q⟩ := h
    refine ⟨_, rfl, l, xs, ks, rfl, hl, hks, hb, fun H1 e1 => ?_⟩
    refine ⟨l, xs, ks, rfl, e1 _ _ hl, hks.mono fun _ _ h => h.mono (.of e1), hb, fun r rows H2 e2 hr wr => ?_⟩
    have e12 := e1.trans e2
    refine ⟨r, rows, _, rfl, hr, wr, rb_let hb.1, by have := hb.2.1; omega, fun r2 rows2 H3 e3 n3 h3 w3 => ?_⟩
    exact q r2 rows2 H3 (e12.trans e3) (e12.free n3) h3 w3
end
end K02

namespace K02
open PySem PySem.Spec PyProof.Rows L2 Ww
section
variable {P : Program} {w : World} {K : PySem.W.Frag} {mg : Str → Option Value} {base : Heap}
theorem ok_begun (T : Txt w K mg) : FnOk P w K mg base CX0 (1) T.a_begun T.d_begun P_begun (spBegun K) := by
  refine T.F_begun.ok sc_begun (fun vs H Q E h => ?_) (fun cdv A outer s H vs Q E hr h => ⟨_, (pss_cons (ps_par (i := 1) (j := 2) rfl sc_begun.nd rfl rfl (by decide) rfl rfl (pa_cons (pe_lst pa_nil) (pa_cons pe_int pa_nil)) rfl)
    (pss_cons (ps_for PassesOwn.never rfl (pi_range1 rfl T.b_range (pa_cons (pe_callB call_len_seq rfl T.b_len PySem.boot_len (pa_cons (pv 0) pa_nil)) pa_nil)) (pg_name (i := 3) sc_begun.nd rfl (Or.inl rfl))
    (pss_one (ps_if (pt_cmpR op_ge (pe_ix ix_list (pv 0) (pv 3) (fun _ _ => rfl)) (pe_op op_pow pe_int pe_int) (nomark _))
    (pss_one (ps_expr (pe_bm PySem.F.plainAttrs_list PySem.F.slot_list_append PySem.F.type_list_append mt_append (pv 1) (pa_cons (pe_op op_sub (pe_ix ix_list (pv 0) (pv 3) (fun _ _ => rfl)) (pe_op op_pow pe_int pe_int)) pa_nil))))
    (pss_one (ps_set (i := 2) sc_begun.nd rfl (Or.inl rfl) (pe_op op_mod (pe_callTy call_int1 (by rfl) T.b_int (by decide +kernel) (pa_cons (pe_op op_add (pe_op op_pow (pe_op op_add (pe_op op_add (pv 2) (pe_op op_mod (pe_callTy call_int1 (by rfl) T.b_int (by decide +kernel) (pa_cons (pe_ix ix_list (pv 0) (pv 3) (fun _ _ => rfl)) pa_nil)) pe_int)) (pe_op op_mul pe_int (pv 3))) pe_int) (pv 3)) pa_nil)) pe_int))))))
    (pss_one (ps_ret (pe_lst (pa_cons (pv 1) (pa_cons pe_int (pa_cons pe_int (pa_cons (pv 2) (pa_cons pe_int pa_nil)))))))))), ?_⟩)
  · obtain ⟨a, ns, rfl, _⟩ := h
    rfl
  · obtain ⟨a, ns, rfl, hS, h63, q⟩ := h
    refine ⟨sz1 (by show 0 ≤ 1000000; decide), fun g hg => ⟨_, _, rfl, ?_⟩⟩
    have g1 : Same H (upd H g (.lst [])) := same_new hg _
    refine ⟨_, rfl, a, _, rfl, .inl (g1.seq hS), _, rfl, ?_, ?_, for_range (lo := 0) (fun i σ H' => ∃ (v3 : Option V) (gs : List Int) (m : Int), σ = [some (.ref a), some (.ref g), some (.int m), v3] ∧ Same H H' ∧ H' g = some (.lst (gs.map V.int)) ∧
      gs.length ≤ i ∧ (∀ x ∈ gs, 0 ≤ x) ∧ 0 ≤ m ∧ m < 10 ^ 18) ⟨none, [], _, rfl, g1, upd_same, Nat.le_refl 0, (fun _ z => nomatch z), by decide, by decide⟩ ?_ ?_⟩
    · rw [List.length_map]; omega
    · rw [List.length_map]; omega
    · rintro i σ H1 hi ⟨v3, gs, m, rfl, e1, hgs, hl, hpos, m0, m1⟩
      have hi' : i < ns.length := by
        rw [List.length_map] at hi
        omega
      obtain ⟨x, hx, _⟩ := ati hi'
      have hS1 := e1.seq hS
      refine ⟨_, rfl, _, rfl, a, _, _, _, rfl, rfl, hS1, hx, _, _, rfl, rfl, ⟨by decide, by decide, by decide⟩, _, _, rfl, rfl, _, rfl, bb (fun c => ?_) (fun c => ?_)⟩
      · refine ⟨_, rfl, .inl ⟨rfl, _, SqL.of hgs⟩, _, rfl, _, rfl, a, _, _, _, rfl, rfl, hS1, hx, _, _, rfl, rfl, ⟨by decide, by decide, by decide⟩, _, _, rfl, rfl, g, _, _, rfl, rfl, hgs, sz2 (by rw [List.length_map]; omega), ?_⟩
        refine ⟨_, gs ++ [x - 10 ^ (18 : Int).toNat], m, rfl, same_mut e1 hg _, ?_, ?_, ?_, m0, m1⟩
        · rw [upd_same, List.map_append]
          rfl
        · rw [List.length_append]
          exact Nat.succ_le_succ hl
        · intro y hy
          rcases List.mem_append.mp hy with z | z
          · exact hpos y z
          · rw [List.mem_singleton] at z
            rw [z]
            exact Int.sub_nonneg_of_le (of_decide_eq_true c)
      · have x0 : 0 ≤ x % 10000000000037 := Int.emod_nonneg _ (by decide)
        have x1 : x % 10000000000037 < 10000000000037 := Int.emod_lt_of_pos _ (by decide)
        refine ⟨_, rfl, _, rfl, _, rfl, a, _, _, _, rfl, rfl, hS1, hx, .inl ⟨_, rfl, _, _, rfl, rfl, (show (0 : Int) < 10000000000037 by decide), _, _, rfl, rfl, _, rfl, _, _, rfl, rfl, .inl ⟨by decide, by decide⟩, _, _, rfl, rfl, _, _, rfl, rfl, ⟨by decide, by decide, ?_⟩, _, rfl, _, _, rfl, rfl, .inl ⟨_, rfl, _, _, rfl, rfl, (show (0 : Int) < 999999999999999989 by decide), ?_⟩⟩⟩
        · show (m + x % 10000000000037 + 911 * ((0 : Int) + (i : Int))).natAbs < 2 ^ 64
          omega
        · exact ⟨_, gs, _, rfl, e1, hgs, by omega, hpos, Int.emod_nonneg _ (by decide), Int.lt_trans (Int.emod_lt_of_pos _ (by decide)) (by decide)⟩
    · rintro σ H1 ⟨v3, gs, m, rfl, e1, hgs, hl, hpos, m0, m1⟩
      rw [List.length_map] at hl
      refine ⟨_, rfl, _, rfl, sz1 (by show 5 ≤ 1000000; decide), fun p hp => ?_⟩
      exact q p g _ (e1.trans (same_new hp _)) (e1.free hp) hg ⟨gs, 0, 0, m, 0, (ne_of_none hgs hp).symm, upd_same, same_new hp _ _ _ hgs, by omega, hpos, Int.le_refl 0, by omega, Int.le_refl 0, m0, m1, Int.le_refl 0, Int.le_refl 0⟩
end
end K02

namespace K02
open PySem PySem.Spec PyProof.Rows L2 Ww
section
variable {P : Program} {w : World} {K : PySem.W.Frag} {mg : Str → Option Value} {base : Heap}
theorem ok_pick (T : Txt w K mg) : FnOk P w K mg base CX0 (1) T.a_pick T.d_pick P_pick (spPick) := by
  refine T.F_pick.ok sc_pick (fun vs H Q E h => ?_) (fun cdv A outer s H vs Q E hr h => ⟨_, (Evl.pss_cut (ps_if (PW.pt (pw_and (pt_cmpR op_eq (pe_ix ix_list (pv 0) pe_int (fun _ _ => rfl)) pe_int (nomark _)) (pw_and1 (pt_cmpR op_lt (pe_ix ix_list (pv 0) pe_int (fun _ _ => rfl)) (pe_callB call_len_seq rfl T.b_len PySem.boot_len (pa_cons (pe_ix ix_list (pv 0) pe_int (fun _ _ => rfl)) pa_nil)) (nomark _)))))
    (pss_cons (ps_asg (pe_ix ix_list (pe_ix ix_list (pv 0) pe_int (fun _ _ => rfl)) (pe_ix ix_list (pv 0) pe_int (fun _ _ => rfl)) (fun _ _ => rfl)) (pg_sub (pv 0) pe_int set_list))
    (pss_one (ps_asg (pe_op op_add (pe_ix ix_list (pv 0) pe_int (fun _ _ => rfl)) pe_int) (pg_sub (pv 0) pe_int set_list))))
    pss_nil)
    (pss_cons (ps_if (pt_cmpR op_gt (pe_ix ix_list (pv 0) pe_int (fun _ _ => rfl)) pe_int (nomark _))
    (pss_cons (ps_set (i := 2) sc_pick.nd rfl (Or.inl rfl) (pe_op op_mod (pe_callTy call_int1 (by rfl) T.b_int (by decide +kernel) (pa_cons (pe_ix ix_list (pv 0) pe_int (fun _ _ => rfl)) pa_nil)) (pv 1)))
    (pss_cons (ps_asg (pe_op op_fdivW (pe_ix ix_list (pv 0) pe_int (fun _ _ => rfl)) (pv 1)) (pg_sub (pv 0) pe_int set_list))
    (pss_one (ps_ret (pv 2)))))
    pss_nil)
    (pss_cons (ps_asg (pe_op op_add (pe_ix ix_list (pv 0) pe_int (fun _ _ => rfl)) pe_int) (pg_sub (pv 0) pe_int set_list))
    (pss_cons (ps_set (i := 3) sc_pick.nd rfl (Or.inl rfl) (pe_op op_mod (pe_callTy call_int1 (by rfl) T.b_int (by decide +kernel) (pa_cons (pe_op op_pow (pe_op op_add (pe_ix ix_list (pv 0) pe_int (fun _ _ => rfl)) (pe_op op_mulW (pe_op op_mulW pe_int (pe_ix ix_list (pv 0) pe_int (fun _ _ => rfl))) (pe_ix ix_list (pv 0) pe_int (fun _ _ => rfl)))) pe_int) pa_nil)) pe_int))
    (pss_one (ps_ret (pe_op op_mod (pe_op op_fdivW (pe_op op_mod (pe_callTy call_int1 (by rfl) T.b_int (by decide +kernel) (pa_cons (pe_op op_mulW (pv 3) (pe_op op_add (pv 3) pe_int)) pa_nil)) pe_int) pe_int) (pv 1)))))))), ?_⟩)
  · obtain ⟨a, g, m, n, rfl, _⟩ := h
    rfl
  · obtain ⟨a, g, many, n, rfl, m0, m1, hs, hn, q⟩ := h
    have log : CDivW 0 many := wide_div (b := 200) m0 (by omega) (by decide) (by decide)
    refine ⟨fun σ H1 => σ = [some (.ref a), some (.int many), none, none] ∧ But a H H1 ∧ SrcAt H1 a g n, ?_, ?_⟩
    · obtain ⟨gs, i, o, m, c, ne, ha, hg, h63, hpos, i0, i1, o0, mm0, mm1, c0, c1⟩ := hs
      have keep : SrcAt H a g n := ⟨gs, i, o, m, c, ne, ha, hg, h63, hpos, i0, i1, o0, mm0, mm1, c0, c1⟩
      refine ⟨_, rfl, a, _, _, _, rfl, rfl, SqL.of ha, at2, rfl, _, rfl, bb (fun _ => ?_) (fun _ => bf rfl ⟨rfl, But.refl a H, keep⟩)⟩
      refine ⟨_, rfl, a, _, _, _, rfl, rfl, SqL.of ha, at1, _, rfl, a, _, _, _, rfl, rfl, SqL.of ha, at0, g, _, rfl, .inl (SqL.of hg), _, _, rfl, rfl, _, rfl, bb (fun ci => ?_) (fun _ => ⟨rfl, But.refl a H, keep⟩)⟩
      have ci' := of_decide_eq_true ci
      rw [List.length_map] at ci'
      have hi : i.toNat < gs.length := by omega
      obtain ⟨x, hx, hx2⟩ := ati hi
      have ei : (0 : Int) + ((i.toNat : Nat) : Int) = i := by omega
      rw [ei] at hx
      refine ⟨_, rfl, a, _, _, _, rfl, rfl, SqL.of ha, at0, _, rfl, a, _, _, _, rfl, rfl, SqL.of ha, at1, g, _, _, _, rfl, rfl, SqL.of hg, hx, _, rfl, a, _, _, _, rfl, rfl, ha, rfl, ?_⟩
      refine ⟨_, rfl, a, _, _, _, rfl, rfl, SqL.of upd_same, at1, _, _, rfl, rfl, _, rfl, a, _, _, _, rfl, rfl, upd_same, rfl, rfl, But.upd.trans But.upd, ?_⟩
      refine ⟨gs, i + 1, x, m, c, ne, upd_same, ?_, h63, hpos, by omega, by omega, hpos x (List.mem_of_getElem? hx2), mm0, mm1, c0, c1⟩
      rw [upd_ne ne.symm, upd_ne ne.symm]
      exact hg
    · rintro σ H1 ⟨rfl, b1, hs1⟩
      obtain ⟨gs, i, o, m, c, ne, ha, hg, h63, hpos, i0, i1, o0, mm0, mm1, c0, c1⟩ := hs1
      refine ⟨_, rfl, a, _, _, _, rfl, rfl, SqL.of ha, at2, _, _, rfl, rfl, _, rfl, bb (fun _ => ?_) (fun _ => ?_)⟩
      · refine ⟨_, rfl, a, _, _, _, rfl, rfl, SqL.of ha, at2, .inl ⟨_, rfl, _, rfl, _, _, rfl, rfl, m0, ?_⟩⟩
        refine ⟨_, rfl, a, _, _, _, rfl, rfl, SqL.of ha, at2, _, rfl, _, _, rfl, rfl, log, _, rfl, a, _, _, _, rfl, rfl, ha, rfl, _, rfl, ?_⟩
        refine q _ _ (Int.emod_nonneg _ (by omega)) (Int.emod_lt_of_pos _ m0) (b1.trans But.upd) ⟨gs, i, o / many, m, c, ne, upd_same, ?_, h63, hpos, i0, i1, Int.ediv_nonneg o0 (by omega), mm0, mm1, c0, by omega⟩
        rw [upd_ne ne.symm]
        exact hg
      · have p1 : (613 * (c + 1)).natAbs < 2 ^ 30 := by omega
        have p2 : 613 * (c + 1) * (c + 1) ≤ 613 * (1000001 * 1000001) := by
          have := Int.mul_le_mul (show 613 * (c + 1) ≤ 613 * 1000001 by omega) (show c + 1 ≤ 1000001 by omega) (by omega) (by decide)
          omega
        have p3 : 0 ≤ 613 * (c + 1) * (c + 1) := Int.mul_nonneg (by omega) (by omega)
        refine ⟨_, rfl, a, _, _, _, rfl, rfl, SqL.of ha, at4, _, _, rfl, rfl, _, rfl, a, _, _, _, rfl, rfl, ha, rfl, ?_⟩
        refine ⟨_, rfl, a, _, _, _, rfl, rfl, SqL.of upd_same, at3, _, rfl, a, _, _, _, rfl, rfl, SqL.of upd_same, at4, _, _, rfl, rfl, ?_, _, rfl, a, _, _, _, rfl, rfl, SqL.of upd_same, at4, _, _, rfl, rfl, ?_, _, _, rfl, rfl, _, _, rfl, rfl, ⟨by decide, by decide, ?_⟩, .inl ⟨_, rfl, _, _, rfl, rfl, (show (0 : Int) < 1000000000000000000000000000057 by decide), ?_⟩⟩
        · exact wide_mul (a := 10) (b := 30) (by decide) (show (c + 1).natAbs < 2 ^ 30 by omega) (by decide) (by decide) (by decide)
        · exact wide_mul (a := 30) (b := 30) p1 (show (c + 1).natAbs < 2 ^ 30 by omega) (by decide) (by decide) (by decide)
        · show (m + 613 * (c + 1) * (c + 1)).natAbs < 2 ^ 64
          omega
        · have t0 := Int.emod_nonneg ((m + 613 * (c + 1) * (c + 1)) ^ (3 : Int).toNat) (show (1000000000000000000000000000057 : Int) ≠ 0 by decide)
          have t1 := Int.emod_lt_of_pos ((m + 613 * (c + 1) * (c + 1)) ^ (3 : Int).toNat) (show (0 : Int) < 1000000000000000000000000000057 by decide)
          generalize (m + 613 * (c + 1) * (c + 1)) ^ (3 : Int).toNat % 1000000000000000000000000000057 = z at t0 t1
          refine ⟨_, rfl, _, rfl, _, _, rfl, rfl, _, _, rfl, rfl, ?_, .inl ⟨_, rfl, _, _, rfl, rfl, (show (0 : Int) < 340282366920938463463374607431768211507 by decide), _, _, rfl, rfl, ?_, _, rfl, _, _, rfl, rfl, m0, ?_⟩⟩
          · exact wide_mul (a := 200) (b := 200) (by omega) (by omega) (by decide) (by decide) (by decide)
          · exact wide_div (b := 20) (by decide) (by decide) (by decide) (by decide)
          · refine q _ _ (Int.emod_nonneg _ (by omega)) (Int.emod_lt_of_pos _ m0) (b1.trans But.upd) ⟨gs, i, o, m, c + 1, ne, upd_same, ?_, h63, hpos, i0, i1, o0, mm0, mm1, by omega, by omega⟩
            rw [upd_ne ne.symm]
            exact hg
end
end K02

namespace K02
open PySem PySem.Spec PyProof.Rows L2 Ww
section
variable {P : Program} {w : World} {K : PySem.W.Frag} {mg : Str → Option Value} {base : Heap}
theorem ok_alike (T : Txt w K mg) : ∀ n : Nat, FnOk P w K mg base CX0 (n + 1) T.a_alike T.d_alike P_alike (spAlike K n)
  | 0 => fn_none fun vs H Q E h => spAlike_0 h
  | n + 1 => by
    have IH := ok_alike T n
    refine T.F_alike.ok sc_alike (fun vs H Q E h => ?_) (fun cdv A outer s H vs Q E hr h => ⟨_, (pss_cons (ps_if (pt_cmp (pc_isN (pv 1)))
    (pss_one (ps_ret (pe_cmp (pc_isN (pv 0)))))
    pss_nil)
    (pss_cons (ps_if (pt_val (pe_callB call_isiT rfl T.b_isinstance (by decide +kernel) (pa_cons (pv 1) (pa_cons (pe_tup (pa_cons (pe_bltn (v := .ty "list") rfl T.b_list (by decide +kernel) rfl) (pa_cons (pe_bltn (v := .ty "tuple") rfl T.b_tuple (by decide +kernel) rfl) pa_nil))) pa_nil))))
    (pss_cons (ps_if (PW.pt (pw_or (pt_not (pt_val (pe_callB call_isiT rfl T.b_isinstance (by decide +kernel) (pa_cons (pv 0) (pa_cons (pe_tup (pa_cons (pe_bltn (v := .ty "list") rfl T.b_list (by decide +kernel) rfl) (pa_cons (pe_bltn (v := .ty "tuple") rfl T.b_tuple (by decide +kernel) rfl) pa_nil))) pa_nil))))) (pw_or1 (pt_cmpR op_ne (pe_callB call_isi rfl T.b_isinstance (by decide +kernel) (pa_cons (pv 0) (pa_cons (pe_bltn (v := .ty "list") rfl T.b_list (by decide +kernel) rfl) pa_nil))) (pe_callB call_isi rfl T.b_isinstance (by decide +kernel) (pa_cons (pv 1) (pa_cons (pe_bltn (v := .ty "list") rfl T.b_list (by decide +kernel) rfl) pa_nil))) (nomark _)))))
    (pss_one (ps_ret pe_bl))
    pss_nil)
    (pss_cons (ps_if (pt_cmpR op_ne (pe_callB call_len_seq rfl T.b_len PySem.boot_len (pa_cons (pv 0) pa_nil)) (pe_callB call_len_seq rfl T.b_len PySem.boot_len (pa_cons (pv 1) pa_nil)) (nomark _))
    (pss_one (ps_ret pe_bl))
    pss_nil)
    (pss_cons (ps_for PassesOwn.never rfl (RZ.pi_zipA (by rfl) T.b_zip (pa_cons (pv 0) (pa_cons (pv 1) pa_nil))) (pg_tup rfl (pgs_cons (pg_name (i := 2) sc_alike.nd rfl (Or.inl rfl)) (pgs_cons (pg_name (i := 3) sc_alike.nd rfl (Or.inl rfl)) pgs_nil)))
    (pss_one (ps_if (pt_not (pt_val (pe_call IH (hr.mono (by first | decide | omega)) rfl T.m_alike T.F_alike.kp T.B_alike .nil pass0 (pa_cons (pv 2) (pa_cons (pv 3) pa_nil)))))
    (pss_one (ps_ret pe_bl))
    pss_nil)))
    (pss_one (ps_ret pe_bl)))))
    pss_nil)
    (pss_cons (ps_if (pt_val (pe_callB call_isi rfl T.b_isinstance (by decide +kernel) (pa_cons (pv 1) (pa_cons (pe_bltn (v := .ty "str") rfl T.b_str (by decide +kernel) rfl) pa_nil))))
    (pss_one (ps_ret (pe_and (pe_callB call_isi rfl T.b_isinstance (by decide +kernel) (pa_cons (pv 0) (pa_cons (pe_bltn (v := .ty "str") rfl T.b_str (by decide +kernel) rfl) pa_nil))) (pe_one (pe_cmpR op_eq (pv 0) (pv 1) (nomark _))))))
    pss_nil)
    (pss_cons (ps_if (pt_cmpR op_ne (pe_callB call_isi rfl T.b_isinstance (by decide +kernel) (pa_cons (pv 0) (pa_cons (pe_bltn (v := .ty "bool") rfl T.b_bool (by decide +kernel) rfl) pa_nil))) (pe_callB call_isi rfl T.b_isinstance (by decide +kernel) (pa_cons (pv 1) (pa_cons (pe_bltn (v := .ty "bool") rfl T.b_bool (by decide +kernel) rfl) pa_nil))) (nomark _))
    (pss_one (ps_ret pe_bl))
    pss_nil)
    (pss_one (ps_ret (pe_and (pe_callB call_isi rfl T.b_isinstance (by decide +kernel) (pa_cons (pv 0) (pa_cons (pe_bltn (v := .ty "int") rfl T.b_int (by decide +kernel) rfl) pa_nil))) (pe_one (pe_cmpR op_eq (pv 0) (pv 1) (nomark _)))))))))), ?_⟩)
    · obtain ⟨x, y, d, rfl, _⟩ := h
      rfl
    · obtain ⟨x, y, d, rfl, hx, hy, gd, q⟩ := h
      have two : 2 ≤ sizeLine := sz1 (by decide)
      cases d with
      | none =>
        cases hx
        cases hy
        refine ⟨_, rfl, _, rfl, bt (decide_eq_true rfl) ⟨_, rfl, ?_⟩⟩
        have e : Q (.bl (decide (V.non = V.non))) H := by
          rw [decide_eq_true rfl]
          exact q H (Same.refl H)
        exact e
      | bool b =>
        cases hx
        cases hy
        refine ⟨_, rfl, _, rfl, bf (decide_eq_false (fun z => by cases z)) ?_⟩
        refine ⟨_, rfl, two, fun t1 n1 => ⟨_, t1, _, _, _, _, rfl, upd_same, clsLT, .base (.bl b), kLT0 (by decide +kernel) (by decide +kernel), _, rfl, bf rfl ?_⟩⟩
        have e1 := same_new n1 (.tup [V.ty "list", V.ty "tuple"])
        refine ⟨_, rfl, _, _, _, _, _, rfl, .ty _, .base (.bl b), kit_ty (r := false) (by decide +kernel), _, rfl, bf rfl ?_⟩
        refine ⟨_, rfl, _, _, _, _, _, rfl, .ty _, .base (.bl b), kit_ty (r := true) (by decide +kernel), _, rfl, _, _, _, _, _, rfl, .ty _, .base (.bl b), kit_ty (r := true) (by decide +kernel), rfl, _, rfl, bf rfl ?_⟩
        refine ⟨_, rfl, _, _, _, _, _, rfl, .ty _, .base (.bl b), kit_ty (r := true) (by decide +kernel), _, rfl, bt rfl ?_⟩
        refine ⟨_, rfl, _, rfl, by cases b <;> rfl, ?_⟩
        have e : Q (.bl (decide (V.bl b = V.bl b))) (upd H t1 (.tup [V.ty "list", V.ty "tuple"])) := by
          rw [decide_eq_true rfl]
          exact q _ e1
        exact e
      | int j =>
        cases hx
        cases hy
        refine ⟨_, rfl, _, rfl, bf (decide_eq_false (fun z => by cases z)) ?_⟩
        refine ⟨_, rfl, two, fun t1 n1 => ⟨_, t1, _, _, _, _, rfl, upd_same, clsLT, .base (.int j), kLT0 (by decide +kernel) (by decide +kernel), _, rfl, bf rfl ?_⟩⟩
        have e1 := same_new n1 (.tup [V.ty "list", V.ty "tuple"])
        refine ⟨_, rfl, _, _, _, _, _, rfl, .ty _, .base (.int j), kit_ty (r := false) (by decide +kernel), _, rfl, bf rfl ?_⟩
        refine ⟨_, rfl, _, _, _, _, _, rfl, .ty _, .base (.int j), kit_ty (r := false) (by decide +kernel), _, rfl, _, _, _, _, _, rfl, .ty _, .base (.int j), kit_ty (r := false) (by decide +kernel), rfl, _, rfl, bf rfl ?_⟩
        refine ⟨_, rfl, _, _, _, _, _, rfl, .ty _, .base (.int j), kit_ty (r := true) (by decide +kernel), _, rfl, bt rfl ?_⟩
        refine ⟨_, rfl, _, rfl, rfl, ?_⟩
        have e : Q (.bl (decide (V.int j = V.int j))) (upd H t1 (.tup [V.ty "list", V.ty "tuple"])) := by
          rw [decide_eq_true rfl]
          exact q _ e1
        exact e
      | str t =>
        cases hx
        cases hy
        refine ⟨_, rfl, _, rfl, bf (decide_eq_false (fun z => by cases z)) ?_⟩
        refine ⟨_, rfl, two, fun t1 n1 => ⟨_, t1, _, _, _, _, rfl, upd_same, clsLT, .base (.str t), kLT0 (by decide +kernel) (by decide +kernel), _, rfl, bf rfl ?_⟩⟩
        have e1 := same_new n1 (.tup [V.ty "list", V.ty "tuple"])
        refine ⟨_, rfl, _, _, _, _, _, rfl, .ty _, .base (.str t), kit_ty (r := true) (by decide +kernel), _, rfl, bt rfl ?_⟩
        refine ⟨_, rfl, _, _, _, _, _, rfl, .ty _, .base (.str t), kit_ty (r := true) (by decide +kernel), _, rfl, bt rfl ?_⟩
        refine ⟨_, rfl, _, rfl, rfl, ?_⟩
        have e : Q (.bl (decide (V.str t = V.str t))) (upd H t1 (.tup [V.ty "list", V.ty "tuple"])) := by
          rw [decide_eq_true rfl]
          exact q _ e1
        exact e
      | dict kvs => exact gd.elim
      | list ds =>
        cases hx with
        | @lst a xs _ ha hxs =>
        cases hy with
        | @lst b ys _ hb hys =>
        have lx := dps_len hxs
        have ly := dps_len hys
        refine ⟨_, rfl, _, rfl, bf (decide_eq_false (fun z => by cases z)) ?_⟩
        refine ⟨_, rfl, two, fun t1 n1 => ?_⟩
        have e1 := same_new n1 (.tup [V.ty "list", V.ty "tuple"])
        refine ⟨_, t1, _, _, _, true, rfl, upd_same, clsLT, tyL (e1.seq hb), kLT (b := true) (c := false) (by decide +kernel) (by decide +kernel), _, rfl, bt rfl ?_⟩
        refine ⟨_, rfl, two, fun t2 n2 => ?_⟩
        have e2 := e1.trans (same_new n2 (.tup [V.ty "list", V.ty "tuple"]))
        refine ⟨_, t2, _, _, _, true, rfl, upd_same, clsLT, tyL (e2.seq ha), kLT (b := true) (c := false) (by decide +kernel) (by decide +kernel), _, rfl, bf rfl ?_⟩
        refine ⟨_, rfl, _, _, _, _, _, rfl, .ty _, tyL (e2.seq ha), kit_ty (r := true) (by decide +kernel), _, rfl, _, _, _, _, _, rfl, .ty _, tyL (e2.seq hb), kit_ty (r := true) (by decide +kernel), rfl, _, rfl, bf rfl ?_⟩
        refine ⟨_, rfl, a, _, rfl, .inl (e2.seq ha), _, rfl, b, _, rfl, .inl (e2.seq hb), rfl, _, rfl, bf ?_ ?_⟩
        · rw [lx, ly, decide_eq_true rfl]
          rfl
        refine ⟨_, rfl, _, rfl, a, b, _, _, rfl, .inl ⟨e2.seq ha, e2.seq hb, RZ.for_zipL (lx.trans ly.symm) (fun i σ H1 => ∃ v2 v3 : Option V, σ = [some (.ref a), some (.ref b), v2, v3] ∧ Same H H1) ⟨none, none, rfl, e2⟩ (fun i σ H1 ⟨_, _, _, e⟩ => ⟨e.seq ha, e.seq hb⟩) ?_ ?_⟩⟩
        · rintro i u v T σ H1 hu hv ⟨v2, v3, rfl, e⟩ hT
          obtain ⟨d1, g1, p1⟩ := dps_at hxs hu
          obtain ⟨d2, g2, p2⟩ := dps_at hys hv
          have ed : d1 = d2 := Option.some.inj (g1.symm.trans g2)
          subst ed
          have e' := e.trans (same_new hT (.tup [u, v]))
          refine ⟨T, _, rfl, SqT.of upd_same, rfl, _, _, rfl, _, _, rfl, rfl, ?_⟩
          exact ⟨_, rfl, _, rfl, u, v, d1, rfl, dp_same e' p1, dp_same e' p2, gd.2 d1 (List.mem_of_getElem? g1), fun H2 e2 => ⟨_, rfl, bf rfl ⟨_, _, rfl, e'.trans e2⟩⟩⟩
        · rintro σ H1 ⟨v2, v3, rfl, e⟩
          exact q H1 e
      | tuple ds =>
        cases hx with
        | @tup a xs _ ha hxs =>
        cases hy with
        | @tup b ys _ hb hys =>
        have lx := dps_len hxs
        have ly := dps_len hys
        refine ⟨_, rfl, _, rfl, bf (decide_eq_false (fun z => by cases z)) ?_⟩
        refine ⟨_, rfl, two, fun t1 n1 => ?_⟩
        have e1 := same_new n1 (.tup [V.ty "list", V.ty "tuple"])
        refine ⟨_, t1, _, _, _, true, rfl, upd_same, clsLT, tyT (Evl.ex_t e1 hb), kLT (b := false) (c := true) (by decide +kernel) (by decide +kernel), _, rfl, bt rfl ?_⟩
        refine ⟨_, rfl, two, fun t2 n2 => ?_⟩
        have e2 := e1.trans (same_new n2 (.tup [V.ty "list", V.ty "tuple"]))
        refine ⟨_, t2, _, _, _, true, rfl, upd_same, clsLT, tyT (Evl.ex_t e2 ha), kLT (b := false) (c := true) (by decide +kernel) (by decide +kernel), _, rfl, bf rfl ?_⟩
        refine ⟨_, rfl, _, _, _, _, _, rfl, .ty _, tyT (Evl.ex_t e2 ha), kit_ty (r := false) (by decide +kernel), _, rfl, _, _, _, _, _, rfl, .ty _, tyT (Evl.ex_t e2 hb), kit_ty (r := false) (by decide +kernel), rfl, _, rfl, bf rfl ?_⟩
        refine ⟨_, rfl, a, _, rfl, .inr (Evl.ex_t e2 ha), _, rfl, b, _, rfl, .inr (Evl.ex_t e2 hb), rfl, _, rfl, bf ?_ ?_⟩
        · rw [lx, ly, decide_eq_true rfl]
          rfl
        refine ⟨_, rfl, _, rfl, a, b, _, _, rfl, .inr ⟨Evl.ex_t e2 ha, Evl.ex_t e2 hb, RZ.for_zipT (lx.trans ly.symm) (fun i σ H1 => ∃ v2 v3 : Option V, σ = [some (.ref a), some (.ref b), v2, v3] ∧ Same H H1) ⟨none, none, rfl, e2⟩ (fun i σ H1 ⟨_, _, _, e⟩ => ⟨Evl.ex_t e ha, Evl.ex_t e hb⟩) ?_ ?_⟩⟩
        · rintro i u v T σ H1 hu hv ⟨v2, v3, rfl, e⟩ hT
          obtain ⟨d1, g1, p1⟩ := dps_at hxs hu
          obtain ⟨d2, g2, p2⟩ := dps_at hys hv
          have ed : d1 = d2 := Option.some.inj (g1.symm.trans g2)
          subst ed
          have e' := e.trans (same_new hT (.tup [u, v]))
          refine ⟨T, _, rfl, SqT.of upd_same, rfl, _, _, rfl, _, _, rfl, rfl, ?_⟩
          exact ⟨_, rfl, _, rfl, u, v, d1, rfl, dp_same e' p1, dp_same e' p2, gd.2 d1 (List.mem_of_getElem? g1), fun H2 e2 => ⟨_, rfl, bf rfl ⟨_, _, rfl, e'.trans e2⟩⟩⟩
        · rintro σ H1 ⟨v2, v3, rfl, e⟩
          exact q H1 e
end
end K02

namespace K02
open PySem PySem.Spec PyProof.Rows L2 Ww
section
variable {P : Program} {w : World} {K : PySem.W.Frag} {mg : Str → Option Value} {base : Heap}
theorem ok_pool (T : Txt w K mg) : FnOk P w K mg base CX0 (2) T.a_pool T.d_pool P_pool (spPool) := by
  refine T.F_pool.ok sc_pool (fun vs H Q E h => ?_) (fun cdv A outer s H vs Q E hr h => ⟨_, (pss_cons (ps_asg (pe_tup (pa_cons pe_str (pa_cons (pe_op op_add pe_int (pe_call (ok_pick T) (hr.mono (by first | decide | omega)) rfl T.m_pick T.F_pick.kp T.B_pick .nil pass0 (pa_cons (pv 0) (pa_cons (pe_ix ix_list (pe_lst (pa_cons pe_int (pa_cons pe_int (pa_cons pe_int pa_nil)))) (pe_call (ok_pick T) (hr.mono (by first | decide | omega)) rfl T.m_pick T.F_pick.kp T.B_pick .nil pass0 (pa_cons (pv 0) (pa_cons pe_int pa_nil))) (fun _ _ => rfl)) pa_nil)))) pa_nil))) (pg_tup rfl (pgs_cons (pg_name (i := 1) sc_pool.nd rfl (Or.inr rfl)) (pgs_cons (pg_name (i := 2) sc_pool.nd rfl (Or.inl rfl)) pgs_nil))))
    (pss_one (ps_ret (pe_join pe_str (pe_lc (own := [("_law_k", 3)]) (g := gName 3) rfl sc_pool.nd (pi_range1 rfl T.b_range (pa_cons (pv 2) pa_nil)) (blkOk_by (N := N_pool) (own := [("_law_k", 3)]) (sc := defScope s_pool) (by decide +kernel)) (fun _ _ _ _ _ => (pg_name (i := 3) sc_pool.nd rfl (Or.inl rfl))) (fun _ _ _ _ _ => pts_nil) (fun _ _ _ _ _ => (pe_item_str (pv 1) (pe_call (ok_pick T) (hr.mono (by first | decide | omega)) rfl T.m_pick T.F_pick.kp T.B_pick .nil pass0 (pa_cons (pv 0) (pa_cons pe_int pa_nil))) (fun _ _ => rfl)))))))), ?_⟩)
  · obtain ⟨a, g, n, rfl, _⟩ := h
    rfl
  · obtain ⟨a, g, n, rfl, hs, hn, q⟩ := h
    refine ⟨_, rfl, sz1 (by show 3 ≤ 1000000; decide), fun l1 n1 => ?_⟩
    refine ⟨_, rfl, a, g, 3, n, rfl, by decide, by decide, hs.new n1, by omega, fun r H1 r0 r1 b1 s1 => ?_⟩
    have hl1 := b1 l1 _ (hs.ne n1).1 upd_same
    obtain ⟨v, hv, hm⟩ := atI_mem (xs := [V.int 1, V.int 3, V.int 7]) r0 r1
    obtain ⟨m, rfl, m0, m1⟩ : ∃ m : Int, v = .int m ∧ 0 < m ∧ m ≤ 7 := by
      simp only [List.mem_cons, List.not_mem_nil, or_false] at hm
      rcases hm with rfl | rfl | rfl
      · exact ⟨1, rfl, by decide, by decide⟩
      · exact ⟨3, rfl, by decide, by decide⟩
      · exact ⟨7, rfl, by decide, by decide⟩
    have b01 : But a H H1 := (But.new n1).trans b1
    refine ⟨l1, _, _, _, rfl, rfl, SqL.of hl1, hv, a, g, m, n + 1, rfl, m0, by omega, s1, by omega, fun r2 H2 r20 r21 b2 s2 => ?_⟩
    have b02 := b01.trans b2
    refine ⟨_, _, rfl, rfl, sz1 (by show 2 ≤ 1000000; decide), fun T hT => ⟨T, _, rfl, SqT.of upd_same, rfl, _, _, rfl, _, _, rfl, rfl, ?_⟩⟩
    have s3 := s2.new (u := .tup [.str (Str.ofString "abcdefghijklmnopqrstuvwxyz"), .int (1 + r2)]) hT
    have b03 := b02.trans (But.new (o := .tup [.str (Str.ofString "abcdefghijklmnopqrstuvwxyz"), .int (1 + r2)]) hT)
    refine ⟨⟨_, rfl⟩, _, rfl, _, rfl, by omega, by omega, fun D hD => ?_⟩
    obtain ⟨sx, hsx⟩ := s3.lst
    have fD := b03.free hsx hD
    have nD := s3.ne hD
    refine lc_range (lo := 0) (n := (1 + r2).toNat) (fun i H3 => But a H H3 ∧ SrcAt H3 a g (n + 2 + i) ∧ ∃ ys : List Str, H3 D = some (.lst (ys.map V.str)) ∧ ys.length = i ∧ ∀ y ∈ ys, Let y) ?_ ?_ ?_
    · exact ⟨b03.trans (But.new hD), s3.new hD, [], upd_same, rfl, (fun _ z => nomatch z)⟩
    · rintro i H3 hi ⟨b3, s3, ys, hy, ly, al⟩
      refine ⟨rfl, lc_yes ?_⟩
      refine ⟨_, rfl, _, rfl, a, g, 26, n + 2 + i, rfl, by decide, by decide, s3, by omega, fun r H4 r0 r1 b4 s4 => ?_⟩
      obtain ⟨c, hc, lc⟩ := abc_all.at r0 (by rw [abc_len]; exact r1)
      have hy4 := b4 D _ nD.1 hy
      refine ⟨_, _, c, rfl, rfl, r0, by omega, by rw [abc_len]; exact r1, hc, _, hy4, sz2 (by rw [List.length_map]; omega), ?_⟩
      refine ⟨but_mut (b3.trans b4) fD _, s4.upd nD, ys ++ [⟨#[c]⟩], ?_, ?_, ?_⟩
      · rw [upd_same, List.map_append]
        rfl
      · rw [List.length_append, ly]
        rfl
      · intro y hyy
        rcases List.mem_append.mp hyy with z | z
        · exact al y z
        · rw [List.mem_singleton] at z
          rw [z]
          exact lc
    · rintro H3 ⟨b3, s3, ys, hy, ly, al⟩
      refine ⟨_, D, ys, rfl, rfl, .inl (SqL.of hy), let_small al (by omega), ?_⟩
      exact q _ _ b3 (s3.le (by omega)) (join_all al) (by rw [join_len al]; omega) (by rw [join_len al]; omega)
end
end K02

namespace K02
open PySem PySem.Spec PyProof.Rows L2 Ww
section
variable {P : Program} {w : World} {K : PySem.W.Frag} {mg : Str → Option Value} {base : Heap}
theorem ok_grown (T : Txt w K mg) : ∀ n : Nat, FnOk P w K mg base CX0 (n + 2) T.a_grown T.d_grown P_grown (spGrown n)
  | 0 => fn_none fun vs H Q E h => spGrown_0 h
  | n + 1 => by
    have IH := ok_grown T n
    refine T.F_grown.ok sc_grown (fun vs H Q E h => ?_) (fun cdv A outer s H vs Q E hr h => ⟨_, (pss_cons (ps_if (PW.pt (pw_or (pt_cmpR op_lt (pv 1) pe_int (nomark _)) (pw_or1 (pt_cmpR op_lt (pv 2) pe_int (nomark _)))))
    (pss_one (ps_ret (pe_tup (pa_cons pe_str (pa_cons (pe_item_str (pv 4) (pe_call (ok_pick T) (hr.mono (by first | decide | omega)) rfl T.m_pick T.F_pick.kp T.B_pick .nil pass0 (pa_cons (pv 0) (pa_cons (pe_callB call_len_str rfl T.b_len PySem.boot_len (pa_cons (pv 4) pa_nil)) pa_nil))) (fun _ _ => rfl)) pa_nil)))))
    pss_nil)
    (pss_cons (ps_par (i := 5) (j := 6) rfl sc_grown.nd rfl rfl (by decide) rfl rfl (pa_cons (pe_ix ix_list (pv 3) (pe_call (ok_pick T) (hr.mono (by first | decide | omega)) rfl T.m_pick T.F_pick.kp T.B_pick .nil pass0 (pa_cons (pv 0) (pa_cons (pe_callB call_len_seq rfl T.b_len PySem.boot_len (pa_cons (pv 3) pa_nil)) pa_nil))) (fun _ _ => rfl)) (pa_cons (pe_op op_add pe_int (pe_call (ok_pick T) (hr.mono (by first | decide | omega)) rfl T.m_pick T.F_pick.kp T.B_pick .nil pass0 (pa_cons (pv 0) (pa_cons (pe_op op_sub (pv 1) pe_int) pa_nil)))) pa_nil)) rfl)
    (pss_cons (ps_set (i := 7) sc_grown.nd rfl (Or.inl rfl) (pe_call IH (hr.mono (by first | decide | omega)) rfl T.m_grown T.F_grown.kp T.B_grown .nil pass0 (pa_cons (pv 0) (pa_cons (pv 6) (pa_cons (pe_op op_sub (pv 2) pe_int) (pa_cons (pv 3) (pa_cons (pv 4) pa_nil)))))))
    (pss_one (ps_ret (pe_tup (pa_cons (pv 5) (pa_cons (pv 7) (pa_cons (pe_call IH (hr.mono (by first | decide | omega)) rfl T.m_grown T.F_grown.kp T.B_grown .nil pass0 (pa_cons (pv 0) (pa_cons (pe_op op_sub (pv 1) (pv 6)) (pa_cons (pe_op op_sub (pv 2) pe_int) (pa_cons (pv 3) (pa_cons (pv 4) pa_nil)))))) pa_nil))))))))), ?_⟩)
    · obtain ⟨a, g, l, most, deep, fs, t, c, rfl, _⟩ := h
      rfl
    · obtain ⟨a, g, l, most, deep, fs, t, c, rfl, hs, hc, nl, hl, hf, ht, m1, m2, d1, d2, q⟩ := h
      obtain ⟨ta, t1, t14⟩ := ht
      refine ⟨_, rfl, _, _, rfl, rfl, _, rfl, bb (fun c1 => bt rfl ?_) (fun c1 => ⟨_, rfl, _, _, rfl, rfl, _, rfl, bb (fun c2 => ?_) (fun c2 => ?_)⟩)⟩
      · refine ⟨_, rfl, _, rfl, _, rfl, t, rfl, sz1 (by omega), a, g, _, c, rfl, by omega, by omega, hs, by omega, fun r H1 r0 r1 b1 s1 => ?_⟩
        obtain ⟨x, hx, lx⟩ := ta.at r0 r1
        refine ⟨_, _, x, rfl, rfl, r0, by omega, r1, hx, sz1 (by show 2 ≤ 1000000; decide), fun p hp => ?_⟩
        exact q _ (.pl ⟨#[x]⟩) _ (b1.trans (But.new hp)) ((s1.new hp).le (by omega)) ⟨p, rfl, upd_same⟩ lx (by show (1 : Int) ≤ deep; omega) (by show (1 : Int) ≤ most; omega)
      · refine ⟨_, rfl, _, rfl, _, rfl, t, rfl, sz1 (by omega), a, g, _, c, rfl, by omega, by omega, hs, by omega, fun r H1 r0 r1 b1 s1 => ?_⟩
        obtain ⟨x, hx, lx⟩ := ta.at r0 r1
        refine ⟨_, _, x, rfl, rfl, r0, by omega, r1, hx, sz1 (by show 2 ≤ 1000000; decide), fun p hp => ?_⟩
        exact q _ (.pl ⟨#[x]⟩) _ (b1.trans (But.new hp)) ((s1.new hp).le (by omega)) ⟨p, rfl, upd_same⟩ lx (by show (1 : Int) ≤ deep; omega) (by show (1 : Int) ≤ most; omega)
      · have c1' : 2 ≤ most := by
          have := of_decide_eq_false c1
          omega
        have c2' : 2 ≤ deep := by
          have := of_decide_eq_false c2
          omega
        obtain ⟨f0, f10, hform⟩ := hf
        have fpos : 0 < fs.length := List.length_pos_iff.mpr f0
        refine ⟨_, rfl, _, rfl, _, rfl, l, _, rfl, .inl (SqL.of hl), a, g, _, c, rfl, by rw [List.length_map]; omega, by rw [List.length_map]; omega, hs, by omega, fun r H1 r0 r1 b1 s1 => ?_⟩
        rw [List.length_map] at r1
        obtain ⟨v, hv, hv2⟩ := atI_of (xs := fs.map V.str) r0 (by rw [List.length_map]; exact r1)
        rw [List.getElem?_map] at hv2
        obtain ⟨f, hf1, hf2⟩ := Option.map_eq_some_iff.mp hv2
        subst hf2
        have hfm : Form f := hform f (List.mem_of_getElem? hf1)
        have hl1 := b1 l _ nl hl
        refine ⟨l, _, _, _, rfl, rfl, SqL.of hl1, hv, _, rfl, _, rfl, _, _, rfl, rfl, a, g, _, c + 1, rfl, by omega, by omega, s1, by omega, fun r2 H2 r20 r21 b2 s2 => ⟨_, _, rfl, rfl, _, _, rfl, ?_⟩⟩
        have hl2 := b2 l _ nl hl1
        refine ⟨_, rfl, _, rfl, _, rfl, _, _, rfl, rfl, _, rfl, _, rfl, a, g, l, _, _, fs, t, c + 2, rfl, s2, by omega, nl, hl2, ⟨f0, f10, hform⟩, ⟨ta, t1, t14⟩, by omega, by omega, by omega, by omega, fun v1 k1 H3 b3 s3 ka3 ok3 dd3 zz3 => ?_⟩
        have hl3 := b3 l _ nl hl2
        refine ⟨_, rfl, _, rfl, _, rfl, _, rfl, _, rfl, _, _, rfl, rfl, _, rfl, _, _, rfl, rfl, _, rfl, _, rfl, a, g, l, _, _, fs, t, _, rfl, s3, by omega, nl, hl3, ⟨f0, f10, hform⟩, ⟨ta, t1, t14⟩, by omega, by omega, by omega, by omega, fun v2 k2 H4 b4 s4 ka4 ok4 dd4 zz4 => ?_⟩
        refine ⟨sz1 (by show 3 ≤ 1000000; decide), fun p hp => ?_⟩
        obtain ⟨sx, hsx⟩ := s3.lst
        have tp := (b4.tps hsx).trans (Tps.new (o := .tup [.str f, v1, v2]) hp)
        refine q _ (.nd f k1 k2) _ (b1.trans (b2.trans (b3.trans (b4.trans (But.new hp))))) ((s4.new hp).le (by omega)) ⟨p, v1, v2, rfl, upd_same, ka3.mono tp, ka4.mono (.new hp)⟩ ⟨hfm, ok3, ok4⟩ ?_ ?_
        · show ((1 + max k1.deep k2.deep : Nat) : Int) ≤ deep
          omega
        · show ((k1.letters ++ k2.letters).length : Int) ≤ most
          rw [List.length_append]
          omega
end
end K02

namespace K02
open PySem PySem.Spec PyProof.Rows L2 Ww
section
variable {P : Program} {w : World} {K : PySem.W.Frag} {mg : Str → Option Value} {base : Heap}
def spPlaces : Sp := fun vs H Q _ => ∃ (v : V) (k : Kd), vs = [v] ∧ KOk H v k ∧ ∀ l rows H', Same H H' → H' l = some (.lst rows) → All2 (RowAt H') rows (k.places 1) → Q (.ref l) H'
theorem ok_places (T : Txt w K mg) : FnOk P w K mg base CX0 (1) T.a_places T.d_places P_places (spPlaces) := by
  refine T.F_places.ok sc_places (fun vs H Q E h => ?_) (fun cdv A outer s H vs Q E hr h => ⟨_, (pss_cons (ps_par (i := 1) (j := 2) rfl sc_places.nd rfl rfl (by decide) rfl rfl (pa_cons (pe_lst pa_nil) (pa_cons (pe_lst (pa_cons (pe_tup (pa_cons (pv 0) (pa_cons pe_int pa_nil))) pa_nil)) pa_nil)) rfl)
    (pss_cons (ps_while PassesOwn.never (pt_cmpR (op_neD (hu64 hr)) (pv 2) (pe_lst pa_nil) (nomark _))
    (pss_cons (ps_asg (pe_bm0 PySem.F.plainAttrs_list PySem.F.slot_list_pop PySem.F.type_list_pop mt_pop (pv 2)) (pg_tup rfl (pgs_cons (pg_name (i := 3) sc_places.nd rfl (Or.inl rfl)) (pgs_cons (pg_name (i := 4) sc_places.nd rfl (Or.inl rfl)) pgs_nil))))
    (pss_one (ps_if (pt_cmpR op_eq (pe_ix ix_tup (pv 3) pe_int (fun _ _ => rfl)) pe_str (nomark _))
    (pss_one (ps_expr (pe_bm PySem.F.plainAttrs_list PySem.F.slot_list_append PySem.F.type_list_append mt_append (pv 1) (pa_cons (pe_tup (pa_cons (pe_ix ix_tup (pv 3) pe_int (fun _ _ => rfl)) (pa_cons (pv 4) pa_nil))) pa_nil))))
    (pss_cons (ps_expr (pe_bm PySem.F.plainAttrs_list PySem.F.slot_list_append PySem.F.type_list_append mt_append (pv 2) (pa_cons (pe_tup (pa_cons (pe_ix ix_tup (pv 3) pe_int (fun _ _ => rfl)) (pa_cons (pe_op op_add (pv 4) pe_int) pa_nil))) pa_nil)))
    (pss_one (ps_expr (pe_bm PySem.F.plainAttrs_list PySem.F.slot_list_append PySem.F.type_list_append mt_append (pv 2) (pa_cons (pe_tup (pa_cons (pe_ix ix_tup (pv 3) pe_int (fun _ _ => rfl)) (pa_cons (pe_op op_add (pv 4) pe_int) pa_nil))) pa_nil)))))))))
    (pss_one (ps_ret (pv 1))))), ?_⟩)
  · obtain ⟨v, k, rfl, _⟩ := h
    rfl
  · obtain ⟨v, k, rfl, ⟨hk, ok, hd, hz⟩, q⟩ := h
    refine ⟨sz1 (by show 0 ≤ 1000000; decide), fun l1 n1 => ⟨_, rfl, sz1 (by show 2 ≤ 1000000; decide), fun t0 nt0 => ⟨sz1 (by show 1 ≤ 1000000; decide), fun l2 n2 => ⟨_, _, rfl, ?_⟩⟩⟩⟩
    have sA : Same H (upd H l1 (.lst [])) := same_new n1 _
    have sB := sA.trans (same_new nt0 (.tup [v, .int 1]))
    have sC := sB.trans (same_new n2 (.lst [.ref t0]))
    have h1 : (upd (upd (upd H l1 (.lst [])) t0 (.tup [v, .int 1])) l2 (.lst [.ref t0])) l1 = some (.lst []) := same_new n2 _ _ _ (same_new nt0 _ _ _ upd_same)
    have ht0 : (upd (upd (upd H l1 (.lst [])) t0 (.tup [v, .int 1])) l2 (.lst [.ref t0])) t0 = some (.tup [v, .int 1]) := same_new n2 _ _ _ upd_same
    have f2 : H l2 = none := sB.free n2
    have n12 : l1 ≠ l2 := ne_of_none (same_new nt0 (.tup [v, .int 1]) _ _ upd_same) n2
    refine ⟨fun m σ H' => ∃ (o3 o4 : Option V) (rows ys : List V) (done : List (Str × Int)) (st : List (Kd × Int)), m = (st.map fun x => x.1.wt).sum ∧ σ = [some v, some (.ref l1), some (.ref l2), o3, o4] ∧ Same H H' ∧ H' l1 = some (.lst rows) ∧ H' l2 = some (.lst ys.reverse) ∧
      All2 (PairAt H') ys st ∧ All2 (RowAt H') rows done ∧ done ++ (st.flatMap fun x => x.1.places x.2) = k.places 1 ∧ ∀ x ∈ st, x.1.ok ∧ x.1.deep ≤ 8,
      ⟨_, none, none, [], [.ref t0], [], [(k, 1)], rfl, rfl, sC, h1, upd_same, ⟨⟨t0, v, rfl, ht0, hk.mono (.of sC)⟩, trivial⟩, trivial, by simp, fun x hx => ?_⟩, ?_⟩
    · rw [List.mem_singleton] at hx
      rw [hx]
      exact ⟨ok, hd⟩
    · rintro m σ H1 ⟨o3, o4, rows, ys, done, st, rfl, rfl, e1, hr1, hr2, hst, hrow, hall, hok⟩
      have lall := congrArg List.length hall
      rw [List.length_append, k.places_len] at lall
      have lst := places_flat st
      have lrow := hrow.len
      have lys := hst.len
      have rlt : rows.length < 1000000 := by omega
      refine ⟨_, rfl, sz1 (by show 0 ≤ 1000000; decide), fun z nz => ne_nil (same_new nz _ _ _ hr2) upd_same (fun u hu => ?_) ?_⟩
      · obtain ⟨x, m, r⟩ := hst.mem (List.mem_reverse.mp hu)
        exact (PairAt.mono (.new nz) _ _ r).lk (hok x m).1 (hok x m).2
      · have eZ := e1.trans (same_new nz (.lst []))
        have z1 := same_new nz (.lst []) _ _ hr1
        have z2 := same_new nz (.lst []) _ _ hr2
        have tz : Tps H1 (upd H1 z (.lst [])) := .new nz
        replace hst := hst.mono (PairAt.mono tz)
        replace hrow := hrow.mono (RowAt.mono tz)
        generalize upd H1 z (.lst []) = H2 at eZ z1 z2 hst hrow
        cases ys with
        | nil =>
          cases st with
          | cons _ _ => exact hst.elim
          | nil =>
            refine ⟨_, rfl, bf rfl ⟨_, rfl, ?_⟩⟩
            rw [List.flatMap_nil, List.append_nil] at hall
            rw [← hall] at q
            exact q l1 rows H2 eZ z1 hrow
        | cons y ys =>
          cases st with
          | nil => exact hst.elim
          | cons x st =>
            obtain ⟨kx, dx⟩ := x
            obtain ⟨⟨p, u, rfl, hp, hu⟩, hst⟩ := hst
            have erev : (V.ref p :: ys).reverse = ys.reverse ++ [V.ref p] := List.reverse_cons
            rw [erev] at z2
            have ene : (!(V.ref p :: ys).reverse.isEmpty) = true := by
              rw [erev]
              cases ys.reverse <;> rfl
            have np : p ≠ l2 := ne_of hp z2 (fun z => by cases z)
            have l1' : (upd H2 l2 (.lst ys.reverse)) l1 = some (.lst rows) := by
              rw [upd_ne n12]
              exact z1
            have hp' : (upd H2 l2 (.lst ys.reverse)) p = some (.tup [u, .int dx]) := by
              rw [upd_ne np]
              exact hp
            have tpop : Tps H2 (upd H2 l2 (.lst ys.reverse)) := Tps.lst z2
            have ePop : Same H (upd H2 l2 (.lst ys.reverse)) := same_mut eZ f2 _
            have l2' : (upd H2 l2 (.lst ys.reverse)) l2 = some (.lst ys.reverse) := upd_same
            replace hst := hst.mono (PairAt.mono tpop)
            replace hrow := hrow.mono (RowAt.mono tpop)
            replace hu := hu.mono tpop
            refine ⟨_, rfl, bt ene ⟨_, fun _ _ h => h, ?_⟩⟩
            refine ⟨_, rfl, .inl ⟨rfl, _, SqL.of z2⟩, l2, _, V.ref p, rfl, rfl, z2, by simp, ?_⟩
            rw [List.dropLast_concat]
            generalize upd H2 l2 (.lst ys.reverse) = H3 at l1' hp' tpop ePop l2' hst hrow hu
            refine ⟨p, _, rfl, SqT.of hp', rfl, _, _, rfl, _, _, rfl, rfl, ?_⟩
            obtain ⟨okx, dpx⟩ := hok (kx, dx) List.mem_cons_self
            have hok' : ∀ x ∈ st, x.1.ok ∧ x.1.deep ≤ 8 := fun x hx => hok x (List.mem_cons_of_mem _ hx)
            rw [List.flatMap_cons] at hall
            rw [List.length_cons, List.length_cons] at lys
            rw [List.length_cons] at lst
            cases kx with
            | pl s =>
              obtain ⟨p2, rfl, hq⟩ := hu
              refine ⟨_, rfl, p2, _, _, _, rfl, rfl, SqT.of hq, at0, rfl, _, rfl, bt rfl ?_⟩
              refine ⟨_, rfl, .inl ⟨rfl, _, SqL.of l1'⟩, _, rfl, p2, _, _, _, rfl, rfl, SqT.of hq, at1, _, rfl, sz1 (by show 2 ≤ 1000000; decide), fun t nt => ?_⟩
              have t1 := same_new nt (.tup [.str s, .int dx]) _ _ l1'
              refine ⟨l1, _, _, rfl, rfl, t1, sz2 rlt, ?_⟩
              have tps : Tps H3 (upd (upd H3 t (.tup [.str s, .int dx])) l1 (.lst (rows ++ [.ref t]))) := (Tps.new nt).trans (Tps.lst t1)
              refine ⟨_, ?_, _, _, rows ++ [.ref t], ys, done ++ [(s, dx)], st, rfl, rfl, same_mut (ePop.trans (same_new nt _)) n1 _, upd_same, ?_, hst.mono (PairAt.mono tps), All2.snoc ⟨t, rfl, ?_⟩ (hrow.mono (RowAt.mono tps)), ?_, hok'⟩
              · rw [List.map_cons, List.sum_cons]
                show _ < 1 + _
                omega
              · rw [upd_ne n12.symm]
                exact same_new nt _ _ _ l2'
              · rw [List.append_assoc]
                exact hall
              · rw [upd_ne (ne_of_none l1' nt).symm]
                exact upd_same
            | nd f a b =>
              obtain ⟨p2, x, y, rfl, hq, ha, hb⟩ := hu
              obtain ⟨hf, oa, ob⟩ := okx
              have dm : 1 + max a.deep b.deep ≤ 8 := dpx
              refine ⟨_, rfl, p2, _, _, _, rfl, rfl, SqT.of hq, at0, rfl, _, rfl, bf (plain_ne hf) ?_⟩
              refine ⟨_, rfl, .inl ⟨rfl, _, SqL.of l2'⟩, _, rfl, p2, _, _, _, rfl, rfl, SqT.of hq, at2, _, rfl, _, _, rfl, rfl, sz1 (by show 2 ≤ 1000000; decide), fun t nt => ?_⟩
              have u1 := same_new nt (.tup [y, .int (dx + 1)]) _ _ l2'
              refine ⟨l2, _, _, rfl, rfl, u1, sz2 (by rw [List.length_reverse]; omega), ?_⟩
              have tpa : Tps H3 (upd (upd H3 t (.tup [y, .int (dx + 1)])) l2 (.lst (ys.reverse ++ [.ref t]))) := (Tps.new nt).trans (Tps.lst u1)
              have hq' := tpa _ _ hq
              have l2a : (upd (upd H3 t (.tup [y, .int (dx + 1)])) l2 (.lst (ys.reverse ++ [.ref t]))) l2 = some (.lst (ys.reverse ++ [.ref t])) := upd_same
              have l1a : (upd (upd H3 t (.tup [y, .int (dx + 1)])) l2 (.lst (ys.reverse ++ [.ref t]))) l1 = some (.lst rows) := by
                rw [upd_ne n12]
                exact same_new nt _ _ _ l1'
              have hta : (upd (upd H3 t (.tup [y, .int (dx + 1)])) l2 (.lst (ys.reverse ++ [.ref t]))) t = some (.tup [y, .int (dx + 1)]) := by
                rw [upd_ne (ne_of_none l2' nt).symm]
                exact upd_same
              have sa := same_mut (ePop.trans (same_new nt (.tup [y, .int (dx + 1)]))) f2 (.lst (ys.reverse ++ [.ref t]))
              generalize upd (upd H3 t (.tup [y, .int (dx + 1)])) l2 (.lst (ys.reverse ++ [.ref t])) = H4 at tpa hq' l2a l1a hta sa
              refine ⟨_, rfl, .inl ⟨rfl, _, SqL.of l2a⟩, _, rfl, p2, _, _, _, rfl, rfl, SqT.of hq', at1, _, rfl, _, _, rfl, rfl, sz1 (by show 2 ≤ 1000000; decide), fun t2 nt2 => ?_⟩
              have u2 := same_new nt2 (.tup [x, .int (dx + 1)]) _ _ l2a
              refine ⟨l2, _, _, rfl, rfl, u2, sz2 (by rw [List.length_append, List.length_reverse, List.length_singleton]; omega), ?_⟩
              have tpb : Tps H4 (upd (upd H4 t2 (.tup [x, .int (dx + 1)])) l2 (.lst (ys.reverse ++ [.ref t] ++ [.ref t2]))) := (Tps.new nt2).trans (Tps.lst u2)
              have tpc := tpa.trans tpb
              refine ⟨_, ?_, _, _, rows, V.ref t2 :: V.ref t :: ys, done, (a, dx + 1) :: (b, dx + 1) :: st, rfl, rfl, same_mut (sa.trans (same_new nt2 _)) f2 _, ?_, ?_, ⟨⟨t2, x, rfl, ?_, ha.mono tpc⟩, ⟨t, y, rfl, tpb _ _ hta, hb.mono tpc⟩, hst.mono (PairAt.mono tpc)⟩, hrow.mono (RowAt.mono tpc), ?_, ?_⟩
              · rw [List.map_cons, List.sum_cons, List.map_cons, List.sum_cons, List.map_cons, List.sum_cons]
                show _ < (1 + a.wt + b.wt) + _
                show a.wt + (b.wt + _) < _
                omega
              · rw [upd_ne n12]
                exact same_new nt2 _ _ _ l1a
              · rw [upd_same]
                simp
              · rw [upd_ne (ne_of_none l2a nt2).symm]
                exact upd_same
              · rw [← hall, List.flatMap_cons, List.flatMap_cons]
                show _ = done ++ ((a.places (dx + 1) ++ b.places (dx + 1)) ++ _)
                rw [List.append_assoc]
              · intro z hz
                rcases List.mem_cons.mp hz with rfl | hz
                · exact ⟨oa, by show a.deep ≤ 8; omega⟩
                · rcases List.mem_cons.mp hz with rfl | hz
                  · exact ⟨ob, by show b.deep ≤ 8; omega⟩
                  · exact hok' z hz
end
end K02

namespace K02
open PySem PySem.Spec PyProof.Rows L2 Ww
section
variable {P : Program} {w : World} {K : PySem.W.Frag} {mg : Str → Option Value} {base : Heap}
theorem mirror_at {f : Str} (hf : Form f) (c : ¬ f = "with") : atI [V.str "ahead", V.str "behind"] (if decide (V.str f = V.str "ahead") = true then 1 else 0) = some (.str (turnF f)) := by
  rcases hf with rfl | rfl | rfl
  · rw [turnF_b, if_neg (fun z => behind_ahead (V.str.inj (of_decide_eq_true z)))]
    exact at0
  · rw [turnF_a, if_pos (decide_eq_true rfl)]
    exact at1
  · exact (c rfl).elim
theorem ok_mirror (T : Txt w K mg) : ∀ n : Nat, FnOk P w K mg base CX0 (n + 1) T.a_mirror T.d_mirror P_mirror (spTurnedKind n)
  | 0 => fn_none fun vs H Q E h => spTurnedKind_0 h
  | n + 1 => by
    have IH := ok_mirror T n
    refine T.F_mirror.ok sc_mirror (fun vs H Q E h => ?_) (fun cdv A outer s H vs Q E hr h => ⟨_, (pss_cons (ps_if (pt_cmpR op_eq (pe_ix ix_tup (pv 0) pe_int (fun _ _ => rfl)) pe_str (nomark _))
    (pss_one (ps_ret (pv 0)))
    pss_nil)
    (pss_cons (ps_set (i := 1) sc_mirror.nd rfl (Or.inl rfl) (pe_ix ix_tup (pv 0) pe_int (fun _ _ => rfl)))
    (Evl.pss_cut (ps_if (pt_cmpR op_ne (pv 1) pe_str (nomark _))
    (pss_one (ps_set (i := 1) sc_mirror.nd rfl (Or.inl rfl) (pe_ix ix_list (pe_lst (pa_cons pe_str (pa_cons pe_str pa_nil))) (pe_callTy call_int1 (by rfl) T.b_int (by decide +kernel) (pa_cons (pe_cmpR op_eq (pv 1) pe_str (nomark _)) pa_nil)) (fun _ _ => rfl))))
    pss_nil)
    (pss_one (ps_ret (pe_tup (pa_cons (pv 1) (pa_cons (pe_call IH (hr.mono (by first | decide | omega)) rfl T.m_mirror T.F_mirror.kp T.B_mirror .nil pass0 (pa_cons (pe_ix ix_tup (pv 0) pe_int (fun _ _ => rfl)) pa_nil)) (pa_cons (pe_call IH (hr.mono (by first | decide | omega)) rfl T.m_mirror T.F_mirror.kp T.B_mirror .nil pass0 (pa_cons (pe_ix ix_tup (pv 0) pe_int (fun _ _ => rfl)) pa_nil)) pa_nil))))))))), ?_⟩)
    · obtain ⟨v, k, rfl, _⟩ := h
      rfl
    · obtain ⟨v, k, rfl, hk, ok, hd, q⟩ := h
      cases k with
      | pl s =>
        obtain ⟨p, rfl, hp⟩ := hk
        exact ⟨_, rfl, p, _, _, _, rfl, rfl, SqT.of hp, at0, rfl, _, rfl, bt rfl ⟨_, rfl, q _ H (Same.refl H) ⟨p, rfl, hp⟩⟩⟩
      | nd f a b =>
        obtain ⟨p, x, y, rfl, hp, ha, hb⟩ := hk
        obtain ⟨hf, oa, ob⟩ := ok
        have dm : 1 + max a.deep b.deep ≤ n + 1 := hd
        refine ⟨_, rfl, p, _, _, _, rfl, rfl, SqT.of hp, at0, rfl, _, rfl, bf (plain_ne hf) ?_⟩
        refine ⟨_, rfl, p, _, _, _, rfl, rfl, SqT.of hp, at0, ?_⟩
        refine ⟨fun σ H' => σ = [some (.ref p), some (.str (turnF f))] ∧ Same H H', ?_, ?_⟩
        · refine ⟨_, rfl, rfl, _, rfl, bb (fun c => ?_) (fun c => ?_)⟩
          · have c' : ¬ f = "with" := fun z => by
              subst z
              revert c
              decide +kernel
            exact ⟨sz1 (by show 2 ≤ 1000000; decide), fun l nl => ⟨_, rfl, rfl, .inr ⟨_, rfl, l, _, _, _, rfl, rfl, SqL.of upd_same, mirror_at hf c', rfl, same_new nl _⟩⟩⟩
          · have c' : f = "with" := by
              have c2 := of_decide_eq_true (show decide (V.str f = V.str "with") = true by simpa using c)
              exact V.str.inj c2
            subst c'
            rw [turnF_w]
            exact ⟨rfl, Same.refl H⟩
        · rintro σ H0 ⟨rfl, e0⟩
          refine ⟨_, rfl, _, rfl, p, _, _, _, rfl, rfl, SqT.of (e0 _ _ hp), at2, y, b, rfl, hb.mono (.of e0), ob, by omega, fun vb H1 e1 kb => ?_⟩
          refine ⟨_, rfl, p, _, _, _, rfl, rfl, SqT.of (e1 _ _ (e0 _ _ hp)), at1, x, a, rfl, ha.mono (.of (e0.trans e1)), oa, by omega, fun va H2 e2 ka => ?_⟩
          refine ⟨sz1 (by show 3 ≤ 1000000; decide), fun t nt => ?_⟩
          exact q _ _ (e0.trans (e1.trans (e2.trans (same_new nt _)))) ⟨t, vb, va, rfl, upd_same, kb.mono (.of (e2.trans (same_new nt _))), ka.mono (.new nt)⟩
end
end K02

namespace K02
open PySem PySem.Spec PyProof.Rows L2 Ww
section
variable {P : Program} {w : World} {K : PySem.W.Frag} {mg : Str → Option Value} {base : Heap}
def spRow : Sp := fun vs H Q _ => ∃ (a g : Addr) (n : Nat), vs = [.ref a] ∧ SrcAt H a g n ∧ n ≤ 800000 ∧ ∀ l xs ks H', But a H H' → SrcAt H' a g (n + 200) → H l = none → H' l = some (.lst xs) → All2 (KAt H') xs ks → RB ks → Q (.ref l) H'
theorem ok_row (T : Txt w K mg) : FnOk P w K mg base CX0 (12) T.a_row T.d_row P_row (spRow) := by
  refine T.F_row.ok sc_row (fun vs H Q E h => ?_) (fun cdv A outer s H vs Q E hr h => ⟨_, (pss_cons (ps_par (i := 1) (j := 2) rfl sc_row.nd rfl rfl (by decide) rfl rfl (pa_cons (pe_call (ok_pool T) (hr.mono (by first | decide | omega)) rfl T.m_pool T.F_pool.kp T.B_pool .nil pass0 (pa_cons (pv 0) pa_nil)) (pa_cons (pe_call (ok_pick T) (hr.mono (by first | decide | omega)) rfl T.m_pick T.F_pick.kp T.B_pick .nil pass0 (pa_cons (pv 0) (pa_cons pe_int pa_nil))) pa_nil)) rfl)
    (Evl.pss_cut (ps_if (pt_cmpR op_eq (pe_call (ok_pick T) (hr.mono (by first | decide | omega)) rfl T.m_pick T.F_pick.kp T.B_pick .nil pass0 (pa_cons (pv 0) (pa_cons pe_int pa_nil))) pe_int (nomark _))
    (pss_one (ps_set (i := 1) sc_row.nd rfl (Or.inl rfl) (pe_op op_add_str (pv 1) (pe_call (ok_pool T) (hr.mono (by first | decide | omega)) rfl T.m_pool T.F_pool.kp T.B_pool .nil pass0 (pa_cons (pv 0) pa_nil)))))
    pss_nil)
    (pss_cons (ps_par (i := 3) (j := 4) rfl sc_row.nd rfl rfl (by decide) rfl rfl (pa_cons (pe_ix ix_list (pe_lst (pa_cons pe_int (pa_cons pe_int pa_nil))) (pv 2) (fun _ _ => rfl)) (pa_cons (pe_ix ix_list (pe_lst (pa_cons (pe_lst (pa_cons pe_str (pa_cons pe_str (pa_cons pe_str pa_nil)))) (pa_cons (pe_lst (pa_cons pe_str (pa_cons pe_str pa_nil))) pa_nil))) (pv 2) (fun _ _ => rfl)) pa_nil)) rfl)
    (pss_cons (ps_set (i := 5) sc_row.nd rfl (Or.inl rfl) (pe_lst pa_nil))
    (pss_cons (ps_for PassesOwn.never rfl (pi_range1 rfl T.b_range (pa_cons (pe_op op_add pe_int (pe_call (ok_pick T) (hr.mono (by first | decide | omega)) rfl T.m_pick T.F_pick.kp T.B_pick .nil pass0 (pa_cons (pv 0) (pa_cons pe_int pa_nil)))) pa_nil)) (pg_name (i := 6) sc_row.nd rfl (Or.inl rfl))
    (pss_one (ps_if (pt_cmpR op_gt (pv 3) pe_int (nomark _))
    (pss_cons (ps_expr (pe_bm PySem.F.plainAttrs_list PySem.F.slot_list_append PySem.F.type_list_append mt_append (pv 5) (pa_cons (pe_call (ok_grown T 8) (hr.mono (by first | decide | omega)) rfl T.m_grown T.F_grown.kp T.B_grown .nil pass0 (pa_cons (pv 0) (pa_cons (pe_op op_add pe_int (pe_call (ok_pick T) (hr.mono (by first | decide | omega)) rfl T.m_pick T.F_pick.kp T.B_pick .nil pass0 (pa_cons (pv 0) (pa_cons (pe_callB (call_min2 rfl) rfl T.b_min (by decide +kernel) (pa_cons (pv 3) (pa_cons pe_int pa_nil))) pa_nil)))) (pa_cons pe_int (pa_cons (pv 4) (pa_cons (pv 1) pa_nil)))))) pa_nil)))
    (pss_one (ps_set (i := 3) sc_row.nd rfl (Or.inl rfl) (pe_op op_sub (pv 3) (pe_callB call_len_seq rfl T.b_len PySem.boot_len (pa_cons (pe_call (ok_places T) (hr.mono (by first | decide | omega)) rfl T.m_places T.F_places.kp T.B_places .nil pass0 (pa_cons (pe_ix ix_list (pv 5) (pe_un un_neg pe_int) (fun _ _ => rfl)) pa_nil)) pa_nil))))))
    pss_nil)))
    (pss_one (ps_ret (pv 5)))))))), ?_⟩)
  · obtain ⟨a, g, n, rfl, _⟩ := h
    rfl
  · obtain ⟨a, g, n, rfl, hs, hn, q⟩ := h
    refine ⟨_, rfl, a, g, n, rfl, hs, by omega, fun t H1 b1 s1 ta t1 t7 => ?_⟩
    refine ⟨_, rfl, a, g, 2, _, rfl, by decide, by decide, s1, by omega, fun r H2 r0 r1 b2 s2 => ⟨_, _, rfl, ?_⟩⟩
    refine ⟨fun σ H' => ∃ t : Str, σ = [some (.ref a), some (.str t), some (.int r), none, none, none, none] ∧ But a H H' ∧ SrcAt H' a g (n + 20) ∧ Pool t, ?_, ?_⟩
    · refine ⟨_, rfl, a, g, 4, _, rfl, by decide, by decide, s2, by omega, fun u H3 u0 u1 b3 s3 => ⟨rfl, _, rfl, bb (fun _ => ?_) (fun _ => ?_)⟩⟩
      · refine ⟨_, rfl, _, rfl, a, g, _, rfl, s3, by omega, fun t2 H4 b4 s4 ta2 t12 t72 => ⟨_, _, rfl, rfl, sz1 (by omega), ?_⟩⟩
        have el := str_len_app t t2
        exact ⟨t ++ t2, rfl, b1.trans (b2.trans (b3.trans b4)), s4.le (by omega), ta.app ta2, by omega, by omega⟩
      · exact ⟨t, rfl, b1.trans (b2.trans b3), s3.le (by omega), ta, t1, by omega⟩
    · rintro σ H4 ⟨t, rfl, b4, s4, pool⟩
      have c2 : 2 ≤ sizeLine := sz1 (by show 2 ≤ 1000000; decide)
      have c3 : 3 ≤ sizeLine := sz1 (by show 3 ≤ 1000000; decide)
      have hr : r = 0 ∨ r = 1 := by omega
      obtain ⟨left, hleft, hv1⟩ : ∃ left : Int, (left = 10 ∨ left = 14) ∧ atI [V.int 10, V.int 14] r = some (.int left) := by
        rcases hr with rfl | rfl
        · exact ⟨10, .inl rfl, at0⟩
        · exact ⟨14, .inr rfl, at1⟩
      refine ⟨c2, fun l1 n1 => ⟨_, rfl, l1, _, _, _, rfl, rfl, SqL.of upd_same, hv1, ?_⟩⟩
      have b5 := b4.trans (But.new (o := .lst [.int 10, .int 14]) n1)
      have s5 := s4.new (u := .lst [.int 10, .int 14]) n1
      generalize upd H4 l1 (.lst [.int 10, .int 14]) = H5 at b5 s5
      refine ⟨c3, fun q1 m1 => ⟨c2, fun q2 m2 => ⟨c2, fun q3 m3 => ?_⟩⟩⟩
      have f1 := same_new m1 (.lst [.str "behind", .str "ahead", .str "with"])
      have f2 := f1.trans (same_new m2 (.lst [.str "behind", .str "ahead"]))
      have f3 := f2.trans (same_new m3 (.lst [.ref q1, .ref q2]))
      have x1 := same_new m3 (.lst [.ref q1, .ref q2]) _ _ (same_new m2 (.lst [.str "behind", .str "ahead"]) _ _ (upd_same (H := H5) (a := q1) (o := .lst [.str "behind", .str "ahead", .str "with"])))
      have x2 := same_new m3 (.lst [.ref q1, .ref q2]) _ _ (upd_same (H := upd H5 q1 (.lst [.str "behind", .str "ahead", .str "with"])) (a := q2) (o := .lst [.str "behind", .str "ahead"]))
      have x3 := upd_same (H := upd (upd H5 q1 (.lst [.str "behind", .str "ahead", .str "with"])) q2 (.lst [.str "behind", .str "ahead"])) (a := q3) (o := .lst [.ref q1, .ref q2])
      have y1 := (s5.ne m1).1
      have y2 := (s5.ne (f1.free m2)).1
      have s6 := s5.mono f3 (Nat.le_refl _)
      have b6 := b5.trans (But.of f3)
      generalize upd (upd (upd H5 q1 _) q2 _) q3 _ = H6 at x1 x2 x3 s6 b6
      obtain ⟨qf, fs, hv2, nqf, hqf, hfs⟩ : ∃ (qf : Addr) (fs : List Str), atI [V.ref q1, V.ref q2] r = some (.ref qf) ∧ qf ≠ a ∧ H6 qf = some (.lst (fs.map V.str)) ∧ Forms fs := by
        rcases hr with rfl | rfl
        · refine ⟨q1, ["behind", "ahead", "with"], at0, y1, x1, by decide, by decide, fun f hf => ?_⟩
          simp only [List.mem_cons, List.not_mem_nil, or_false] at hf
          exact hf
        · refine ⟨q2, ["behind", "ahead"], at1, y2, x2, by decide, by decide, fun f hf => ?_⟩
          simp only [List.mem_cons, List.not_mem_nil, or_false] at hf
          rcases hf with h | h
          · exact .inl h
          · exact .inr (.inl h)
      refine ⟨_, rfl, q3, _, _, _, rfl, rfl, SqL.of x3, hv2, _, _, rfl, ?_⟩
      refine ⟨sz1 (by show 0 ≤ 1000000; decide), fun l nl => ?_⟩
      obtain ⟨sx6, hsx6⟩ := s6.lst
      have nlH : H l = none := b6.free hsx6 nl
      have nla := (s6.ne nl).1
      have nlqf : qf ≠ l := ne_of_none hqf nl
      have b7 := b6.trans (But.new (o := .lst []) nl)
      have s7 := s6.new (u := .lst []) nl
      have hqf7 := same_new nl (.lst []) _ _ hqf
      have hl7 := upd_same (H := H6) (a := l) (o := .lst [])
      generalize upd H6 l (.lst []) = H7 at b7 s7 hqf7 hl7
      refine ⟨_, rfl, a, g, 6, _, rfl, by decide, by decide, s7, by omega, fun u H8 u0 u1 b8 s8 => ⟨_, _, rfl, rfl, _, rfl, by omega, by omega, ?_⟩⟩
      refine for_range (lo := 0) (n := (1 + u).toNat) (fun i σ H' => ∃ (o6 : Option V) (left : Int) (ks : List Kd) (xs : List V), σ = [some (.ref a), some (.str t), some (.int r), some (.int left), some (.ref qf), some (.ref l), o6] ∧ But a H H' ∧ SrcAt H' a g (n + 40 + i * 22) ∧ H' qf = some (.lst (fs.map V.str)) ∧ H' l = some (.lst xs) ∧
        All2 (KAt H') xs ks ∧ (∀ k ∈ ks, KB k) ∧ ((rowSgn ks).length : Int) + left ≤ 14 ∧ 0 ≤ left ∧ ((ks = [] ∧ i = 0 ∧ 0 < left) ∨ ks ≠ [])) ⟨none, left, [], [], rfl, b7.trans b8, s8.le (by omega), b8 _ _ nqf hqf7, b8 _ _ nla hl7, trivial, (fun _ z => nomatch z), ?_, by omega, .inl ⟨rfl, rfl, by omega⟩⟩ ?_ ?_
      · show (0 : Int) + left ≤ 14
        omega
      · rintro i σ H9 hi ⟨o6, left, ks, xs, rfl, b9, s9, hqf9, hl9, wl9, kb9, sum9, pos9, alt⟩
        have hi6 : i < 7 := by omega
        refine ⟨_, rfl, _, _, rfl, rfl, _, rfl, bb (fun c => ?_) (fun c => ?_)⟩
        · have c' : 0 < left := of_decide_eq_true c
          refine ⟨_, rfl, .inl ⟨rfl, _, SqL.of hl9⟩, _, rfl, _, rfl, _, rfl, _, _, rfl, a, g, _, _, rfl, by split <;> omega, by split <;> omega, s9, by omega, fun u2 H10 u20 u21 b10 s10 => ⟨_, _, rfl, rfl, ?_⟩⟩
          have u7 : u2 < 7 := by
            split at u21 <;> omega
          have ul : u2 < left := by
            split at u21 <;> omega
          refine ⟨_, rfl, _, rfl, a, g, qf, _, 5, fs, t, _, rfl, s10, by omega, nqf, b10 _ _ nqf hqf9, hfs, pool, by omega, by omega, by omega, by omega, fun v k H11 b11 s11 ka ok dp sz => ?_⟩
          obtain ⟨sx9, hsx9⟩ := s9.lst
          have b9b := b10.trans b11
          have hl11 := b9b _ _ nla hl9
          have wl11 := wl9.kat (b9b.tps hsx9)
          have lx := wl9.len
          have l14 := rb_len ks
          refine ⟨l, _, _, rfl, rfl, hl11, sz2 (by omega), ?_⟩
          have tp : Tps H11 (upd H11 l (.lst (xs ++ [v]))) := Tps.lst hl11
          have hl12 := upd_same (H := H11) (a := l) (o := .lst (xs ++ [v]))
          have kb : KB k := ⟨ok, by omega, by omega⟩
          have s12 := s11.upd (p := l) (u := .lst (xs ++ [v])) ⟨nla, (s6.ne nl).2⟩
          have b12 := but_mut (b9.trans b9b) nlH (.lst (xs ++ [v]))
          have hqf12 : (upd H11 l (.lst (xs ++ [v]))) qf = some (.lst (fs.map V.str)) := by
            rw [upd_ne nlqf]
            exact b9b _ _ nqf hqf9
          have wl12 := All2.snoc (ka.mono tp) (wl11.kat tp)
          generalize upd H11 l (.lst (xs ++ [v])) = H12 at tp hl12 s12 b12 hqf12 wl12
          refine ⟨_, rfl, _, rfl, _, rfl, l, _, _, _, rfl, rfl, SqL.of hl12, atI_last _ _, v, k, rfl, ⟨ka.mono tp, kb⟩, fun pl prow H13 e13 hpl wpl => ?_⟩
          refine ⟨pl, _, rfl, .inl (SqL.of hpl), _, _, rfl, rfl, ?_⟩
          have lpl := wpl.len
          rw [k.places_len] at lpl
          have es := rowSgn_snoc ks k
          refine ⟨_, _, ks ++ [k], xs ++ [v], rfl, b12.trans (But.of e13), (s12.mono e13 (Nat.le_refl _)).le (by omega), e13 _ _ hqf12, e13 _ _ hl12, wl12.kat (.of e13), fun x hx => ?_, by omega, by omega, .inr (by simp)⟩
          rcases List.mem_append.mp hx with m | m
          · exact kb9 x m
          · rw [List.mem_singleton] at m
            subst m
            exact kb
        · have c' : ¬ 0 < left := of_decide_eq_false c
          rcases alt with ⟨_, _, z⟩ | alt
          · exact (c' z).elim
          · exact ⟨_, left, ks, xs, rfl, b9, s9.le (by omega), hqf9, hl9, wl9, kb9, sum9, pos9, .inr alt⟩
      · rintro σ H9 ⟨o6, left, ks, xs, rfl, b9, s9, hqf9, hl9, wl9, kb9, sum9, pos9, alt⟩
        rcases alt with ⟨_, z, _⟩ | alt
        · omega
        · exact ⟨_, rfl, q l xs ks H9 b9 (s9.le (by omega)) nlH hl9 wl9 ⟨kb9, by omega, alt⟩⟩
end
end K02

namespace K02
open PySem PySem.Spec PyProof.Rows L2 Ww
section
variable {P : Program} {w : World} {K : PySem.W.Frag} {mg : Str → Option Value} {base : Heap}
def spOfKind : Sp := fun vs H Q _ => ∃ (v : V) (k : Kd), vs = [v] ∧ KOk H v k ∧ ∀ H', Same H H' → Q (.bl true) H'
theorem gdk {k : Kd} (h : k.deep ≤ 8) : Gd 12 k.dat := Gd.kd.mono (by omega)
theorem gd4 {n : Nat} {s : Str} {a b : Int} {c : Bool} : Gd (n + 2) (.list [.str s, .int a, .int b, .bool c]) := by
  refine ⟨by show 4 ≤ 100000; decide, fun d hd => ?_⟩
  simp only [List.mem_cons, List.not_mem_nil, or_false] at hd
  rcases hd with rfl | rfl | rfl | rfl <;> exact trivial
theorem ok_of_kind (T : Txt w K mg) : FnOk P w K mg base CX0 (14) T.a_of_kind T.d_of_kind P_of_kind (spOfKind) := by
  refine T.F_of_kind.ok sc_of_kind (fun vs H Q E h => ?_) (fun cdv A outer s H vs Q E hr h => ⟨_, (pss_cons (ps_set (i := 1) sc_of_kind.nd rfl (Or.inl rfl) (pe_call (ok_turned T) (hr.mono (by first | decide | omega)) rfl T.m_turned T.F_turned.kp T.B_turned .nil pass0 (pa_cons (pv 0) pa_nil)))
    (pss_cons (ps_if (PW.pt (pw_or (pt_not (pt_val (pe_call (ok_alike T 12) (hr.mono (by first | decide | omega)) rfl T.m_alike T.F_alike.kp T.B_alike .nil pass0 (pa_cons (pv 1) (pa_cons (pe_call (ok_mirror T 8) (hr.mono (by first | decide | omega)) rfl T.m_mirror T.F_mirror.kp T.B_mirror .nil pass0 (pa_cons (pv 0) pa_nil)) pa_nil))))) (pw_or1 (pt_not (pt_val (pe_call (ok_alike T 12) (hr.mono (by first | decide | omega)) rfl T.m_alike T.F_alike.kp T.B_alike .nil pass0 (pa_cons (pe_callQ (ok_turned T) (hr.mono (by first | decide | omega)) rfl T.m_turned T.F_turned.kp T.K_turned pass0 (pk_cons (pv 1) pk_nil)) (pa_cons (pv 0) pa_nil))))))))
    (pss_one (ps_ret pe_bl))
    pss_nil)
    (pss_cons (ps_set (i := 2) sc_of_kind.nd rfl (Or.inl rfl) (pe_lst (pa_cons (pe_call (ok_letters T) (hr.mono (by first | decide | omega)) rfl T.m_letters T.F_letters.kp T.B_letters .nil pass0 (pa_cons (pv 0) pa_nil)) (pa_cons (pe_call (ok_size T) (hr.mono (by first | decide | omega)) rfl T.m_size T.F_size.kp T.B_size .nil pass0 (pa_cons (pv 0) pa_nil)) (pa_cons (pe_call (ok_depth T) (hr.mono (by first | decide | omega)) rfl T.m_depth T.F_depth.kp T.B_depth .nil pass0 (pa_cons (pv 0) pa_nil)) (pa_cons (pe_call (ok_is_single T) (hr.mono (by first | decide | omega)) rfl T.m_is_single T.F_is_single.kp T.B_is_single .nil pass0 (pa_cons (pv 0) pa_nil)) pa_nil))))))
    (pss_cons (ps_if (pt_not (pt_val (pe_call (ok_alike T 12) (hr.mono (by first | decide | omega)) rfl T.m_alike T.F_alike.kp T.B_alike .nil pass0 (pa_cons (pe_lst (pa_cons (pe_call (ok_letters T) (hr.mono (by first | decide | omega)) rfl T.m_letters T.F_letters.kp T.B_letters .nil pass0 (pa_cons (pv 1) pa_nil)) (pa_cons (pe_call (ok_size T) (hr.mono (by first | decide | omega)) rfl T.m_size T.F_size.kp T.B_size .nil pass0 (pa_cons (pv 1) pa_nil)) (pa_cons (pe_call (ok_depth T) (hr.mono (by first | decide | omega)) rfl T.m_depth T.F_depth.kp T.B_depth .nil pass0 (pa_cons (pv 1) pa_nil)) (pa_cons (pe_call (ok_is_single T) (hr.mono (by first | decide | omega)) rfl T.m_is_single T.F_is_single.kp T.B_is_single .nil pass0 (pa_cons (pv 1) pa_nil)) pa_nil))))) (pa_cons (pv 2) pa_nil)))))
    (pss_one (ps_ret pe_bl))
    pss_nil)
    (pss_one (ps_ret (pe_call (ok_alike T 12) (hr.mono (by first | decide | omega)) rfl T.m_alike T.F_alike.kp T.B_alike .nil pass0 (pa_cons (pe_ix ix_list (pv 2) pe_int (fun _ _ => rfl)) (pa_cons (pe_callB call_len_seq rfl T.b_len PySem.boot_len (pa_cons (pe_call (ok_places T) (hr.mono (by first | decide | omega)) rfl T.m_places T.F_places.kp T.B_places .nil pass0 (pa_cons (pv 0) pa_nil)) pa_nil)) pa_nil))))))))), ?_⟩)
  · obtain ⟨v, k, rfl, _⟩ := h
    rfl
  · obtain ⟨v, k, rfl, kk, q⟩ := h
    have mv : ∀ {H H' : Hp} {v : V} {k : Kd}, Same H H' → KOk H v k → KOk H' v k := fun e h => ⟨h.1.mono (.of e), h.2⟩
    have kb : KB k := kk.2
    have kbt := Kd.turn_kb kb
    refine ⟨_, rfl, v, k, rfl, kk, fun v1 H1 e1 k1 => ?_⟩
    have kt1 : KOk H1 v1 k.turn := ⟨k1, kbt⟩
    have kk1 := mv e1 kk
    refine ⟨_, rfl, _, rfl, v, k, rfl, kk1.1, kb.1, kb.2.1, fun v2 H2 e2 k2 => ?_⟩
    have kt2 := mv e2 kt1
    refine ⟨v1, v2, k.turn.dat, rfl, kt2.1.dp, k2.dp, gdk kbt.2.1, fun H3 e3 => ⟨_, rfl, bf rfl ?_⟩⟩
    have kt3 := mv e3 kt2
    have kk3 := mv (e2.trans e3) kk1
    refine ⟨_, rfl, rfl, v1, k.turn, rfl, kt3, fun v4 H4 e4 k4 => ?_⟩
    rw [Kd.turn_turn kb.1] at k4
    have kk4 := mv e4 kk3
    have kt4 := mv e4 kt3
    refine ⟨_, rfl, v4, v, k.dat, rfl, k4.dp, kk4.1.dp, gdk kb.2.1, fun H5 e5 => ⟨_, rfl, bf rfl ?_⟩⟩
    have kk5 := mv e5 kk4
    have kt5 := mv e5 kt4
    have c4 : 4 ≤ sizeLine := sz1 (by show 4 ≤ 1000000; decide)
    refine ⟨_, rfl, v, k, rfl, kk5, fun ss H6 e6 hs6 => ?_⟩
    have kk6 := mv e6 kk5
    refine ⟨_, rfl, v, k, rfl, kk6, fun H7 e7 => ?_⟩
    have kk7 := mv e7 kk6
    refine ⟨_, rfl, v, k, rfl, kk7, _, rfl, v, k, rfl, kk7, c4, fun lf nf => ?_⟩
    have e8 := same_new nf (.lst [.str (Txt.join "" ss), .int (k.letters.length : Int), .int (k.deep : Int), .bl k.single])
    have x8 := upd_same (H := H7) (a := lf) (o := .lst [.str (Txt.join "" ss), .int (k.letters.length : Int), .int (k.deep : Int), .bl k.single])
    generalize upd H7 lf _ = H8 at e8 x8
    have kk8 := mv e8 kk7
    have kt8 := mv (e6.trans (e7.trans e8)) kt5
    refine ⟨_, rfl, v1, k.turn, rfl, kt8, fun ss9 H9 e9 hs9 => ?_⟩
    have es : ss9 = ss := (hs9.same fun s => by rw [k.turn_letters, List.mem_reverse]).eq hs6
    subst es
    have kt9 := mv e9 kt8
    refine ⟨_, rfl, v1, k.turn, rfl, kt9, fun H10 e10 => ?_⟩
    have kt10 := mv e10 kt9
    refine ⟨_, rfl, v1, k.turn, rfl, kt10, _, rfl, v1, k.turn, rfl, kt10, c4, fun la na => ?_⟩
    rw [k.turn_letters, List.length_reverse, k.turn_deep, Kd.turn_single kb.1]
    have e11 := same_new na (.lst [.str (Txt.join "" ss9), .int (k.letters.length : Int), .int (k.deep : Int), .bl k.single])
    have x11 := upd_same (H := H10) (a := la) (o := .lst [.str (Txt.join "" ss9), .int (k.letters.length : Int), .int (k.deep : Int), .bl k.single])
    generalize upd H10 la _ = H11 at e11 x11
    have e8b := e9.trans (e10.trans e11)
    have x8b := e8b _ _ x8
    refine ⟨_, rfl, .ref la, .ref lf, _, rfl, .lst (SqL.of x11) (.cons (.str _) (.cons (.int _) (.cons (.int _) (.cons (.bl _) .nil)))), .lst (SqL.of x8b) (.cons (.str _) (.cons (.int _) (.cons (.int _) (.cons (.bl _) .nil)))), gd4, fun H12 e12 => ⟨_, rfl, bf rfl ?_⟩⟩
    have x12 := e12 _ _ x8b
    have e812 := e8b.trans e12
    refine ⟨_, rfl, lf, _, _, _, rfl, rfl, SqL.of x12, at1, _, rfl, v, k, rfl, mv e812 kk8, fun pl prow H13 e13 hpl wpl => ?_⟩
    have lpl := wpl.len
    rw [k.places_len] at lpl
    refine ⟨pl, _, rfl, .inl (SqL.of hpl), .int (k.letters.length : Int), _, .int (k.letters.length : Int), rfl, .int _, ?_, trivial, fun H14 e14 => ?_⟩
    · rw [lpl]
      exact .int _
    · exact q _ (e1.trans (e2.trans (e3.trans (e4.trans (e5.trans (e6.trans (e7.trans (e8.trans (e812.trans (e13.trans e14))))))))))
end
end K02

namespace K02
open PySem PySem.Spec PyProof.Rows L2 Ww
section
variable {P : Program} {w : World} {K : PySem.W.Frag} {mg : Str → Option Value} {base : Heap}
def spLaw (K : PySem.W.Frag) : Sp := fun vs H Q _ => ∃ (a : Addr) (ns : List Int), vs = [.ref a] ∧ SqL K H a (ns.map V.int) ∧ ns.length ≤ 63 ∧ ∀ H', Q (.bl true) H'
def tRow (ks : List Kd) : List Kd := ks.reverse.map Kd.turn
theorem tRow_tRow {ks : List Kd} (h : ∀ k ∈ ks, KB k) : tRow (tRow ks) = ks := by
  unfold tRow
  rw [← List.map_reverse, List.reverse_reverse, List.map_map]
  have : ∀ l : List Kd, (∀ k ∈ l, KB k) → l.map (Kd.turn ∘ Kd.turn) = l := by
    intro l hl
    induction l with
    | nil => rfl
    | cons k l ih =>
      rw [List.map_cons, ih fun x hx => hl x (List.mem_cons_of_mem _ hx)]
      show k.turn.turn :: l = _
      rw [Kd.turn_turn (hl k List.mem_cons_self).1]
  exact this ks h
theorem tRow_rb {ks : List Kd} (h : RB ks) : RB (tRow ks) := by
  refine ⟨fun k hk => ?_, ?_, fun z => h.2.2 ?_⟩
  · obtain ⟨x, hx, rfl⟩ := List.mem_map.mp hk
    exact Kd.turn_kb (h.1 x (List.mem_reverse.mp hx))
  · unfold tRow
    rw [rowSgn_turn fun k hk => (h.1 k hk).1, List.length_reverse]
    exact h.2.1
  · have := congrArg List.length z
    unfold tRow at this
    rw [List.length_map, List.length_reverse] at this
    exact List.length_eq_zero_iff.mp this
theorem tRow_sgn {ks : List Kd} (h : RB ks) : rowSgn (tRow ks) = (rowSgn ks).reverse := rowSgn_turn fun k hk => (h.1 k hk).1
/-- one that is held -/
def HE (H : Hp) (a h : Addr) (t : V) : Prop := ∃ (q l D m : Addr) (xs ds ms : List V) (ks : List Kd) (d0 : V) (k0 : Kd), t = .ref q ∧ H q = some (.tup [.ref l, .ref D, .ref m]) ∧ l ≠ a ∧ D ≠ a ∧ m ≠ a ∧ l ≠ h ∧ D ≠ h ∧ m ≠ h ∧
  H l = some (.lst xs) ∧ All2 (KAt H) xs ks ∧ RB ks ∧ H D = some (.lst ds) ∧ All2 (KAt H) ds (tRow ks) ∧ ds[0]? = some d0 ∧ (tRow ks)[0]? = some k0 ∧ H m = some (.lst ms) ∧ All2 (KAt H) ms (tRow ks ++ [k0])
theorem HE.mono {H H' : Hp} {a h : Addr} {t : V} (b : Bt2 a h H H') (tp : Tps H H') (x : HE H a h t) : HE H' a h t := by
  obtain ⟨q, l, D, m, xs, ds, ms, ks, d0, k0, e, hq, n1, n2, n3, n4, n5, n6, hl, wl, rb, hD, wD, hd0, hk0, hm, wm⟩ := x
  exact ⟨q, l, D, m, xs, ds, ms, ks, d0, k0, e, tp _ _ hq, n1, n2, n3, n4, n5, n6, b _ _ n1 n4 hl, wl.kat tp, rb, b _ _ n2 n5 hD, wD.kat tp, hd0, hk0, b _ _ n3 n6 hm, wm.kat tp⟩
theorem ks_gd12 {ks : List Kd} (h : RB ks) : Gd 12 (.list (ks.map Kd.dat)) := ks_gd (fun k hk => (h.1 k hk).2.1) (by have := rb_len ks; have := h.2.1; omega) (by decide)
theorem rows_rev {ps : List (Str × Int)} : (ps.map rowDat).reverse = ps.reverse.map rowDat := List.map_reverse.symm
theorem ok_law (T : Txt w K mg) : FnOk P w K mg base CX0 (15) T.a_law T.d_law P_law (spLaw K) := by
  refine T.F_law.ok sc_law (fun vs H Q E h => ?_) (fun cdv A outer s H vs Q E hr h => ⟨_, (pss_cons (ps_set (i := 1) sc_law.nd rfl (Or.inl rfl) (pe_call (ok_begun T) (hr.mono (by first | decide | omega)) rfl T.m_begun T.F_begun.kp T.B_begun .nil pass0 (pa_cons (pv 0) pa_nil)))
    (pss_cons (ps_set (i := 2) sc_law.nd rfl (Or.inl rfl) (pe_lst pa_nil))
    (pss_cons (ps_for PassesOwn.never rfl (pi_range1 rfl T.b_range (pa_cons pe_int pa_nil)) (pg_name (i := 3) sc_law.nd rfl (Or.inl rfl))
    (pss_cons (ps_set (i := 4) sc_law.nd rfl (Or.inl rfl) (pe_call (ok_row T) (hr.mono (by first | decide | omega)) rfl T.m_row T.F_row.kp T.B_row .nil pass0 (pa_cons (pv 1) pa_nil)))
    (pss_cons (ps_setLc (i := 5) (own := [("_law_kind", 6)]) (g := gName 6) rfl sc_law.nd rfl rfl (sw_true rfl rfl rfl (by decide +kernel)) (pi_list (pe_revL (pv 4))) (blkOk_by (N := N_law) (own := [("_law_kind", 6)]) (sc := defScope s_law) (by decide +kernel)) (fun _ _ _ _ _ => (pg_name (i := 6) sc_law.nd rfl (Or.inl rfl))) (fun _ _ _ _ _ => pts_nil) (fun _ _ _ _ _ => (pe_call (ok_mirror T 8) (hr.mono (by first | decide | omega)) rfl T.m_mirror T.F_mirror.kp T.B_mirror .nil pass0 (pa_cons (pv 6) pa_nil))))
    (pss_cons (ps_set (i := 7) sc_law.nd rfl (Or.inl rfl) (pe_callTy call_list_of (by rfl) T.b_list (by decide +kernel) (pa_cons (pv 4) pa_nil)))
    (pss_cons (ps_set (i := 8) sc_law.nd rfl (Or.inl rfl) (pe_call (ok_turned_row T) (hr.mono (by first | decide | omega)) rfl T.m_turned_row T.F_turned_row.kp T.B_turned_row .nil pass0 (pa_cons (pv 7) pa_nil)))
    (pss_cons (ps_if (PW.pt (pw_or (pt_not (pt_val (pe_call (ok_alike T 12) (hr.mono (by first | decide | omega)) rfl T.m_alike T.F_alike.kp T.B_alike .nil pass0 (pa_cons (pv 8) (pa_cons (pv 5) pa_nil))))) (pw_or1 (pt_not (pt_val (pe_call (ok_alike T 12) (hr.mono (by first | decide | omega)) rfl T.m_alike T.F_alike.kp T.B_alike .nil pass0 (pa_cons (pv 7) (pa_cons (pv 4) pa_nil))))))))
    (pss_one (ps_ret pe_bl))
    pss_nil)
    (pss_cons (ps_if (pt_not (pt_val (pe_call (ok_alike T 12) (hr.mono (by first | decide | omega)) rfl T.m_alike T.F_alike.kp T.B_alike .nil pass0 (pa_cons (pe_callQ (ok_turned_row T) (hr.mono (by first | decide | omega)) rfl T.m_turned_row T.F_turned_row.kp T.K_turned_row pass0 (pk_cons (pe_callTy call_list_of (by rfl) T.b_list (by decide +kernel) (pa_cons (pv 8) pa_nil)) pk_nil)) (pa_cons (pv 4) pa_nil)))))
    (pss_one (ps_ret pe_bl))
    pss_nil)
    (pss_cons (ps_for PassesOwn.never rfl (pi_list (pv 4)) (pg_name (i := 6) sc_law.nd rfl (Or.inl rfl))
    (pss_one (ps_if (pt_not (pt_val (pe_call (ok_of_kind T) (hr.mono (by first | decide | omega)) rfl T.m_of_kind T.F_of_kind.kp T.B_of_kind .nil pass0 (pa_cons (pv 6) pa_nil))))
    (pss_one (ps_ret pe_bl))
    pss_nil)))
    (pss_cons (ps_if (pt_not (pt_val (pe_call (ok_alike T 12) (hr.mono (by first | decide | omega)) rfl T.m_alike T.F_alike.kp T.B_alike .nil pass0 (pa_cons (pe_call (ok_balance T) (hr.mono (by first | decide | omega)) rfl T.m_balance T.F_balance.kp T.B_balance .nil pass0 (pa_cons (pe_callTy call_list_of (by rfl) T.b_list (by decide +kernel) (pa_cons (pv 8) pa_nil)) pa_nil)) (pa_cons (pe_call (ok_balance T) (hr.mono (by first | decide | omega)) rfl T.m_balance T.F_balance.kp T.B_balance .nil pass0 (pa_cons (pe_callTy call_list_of (by rfl) T.b_list (by decide +kernel) (pa_cons (pv 4) pa_nil)) pa_nil)) pa_nil)))))
    (pss_one (ps_ret pe_bl))
    pss_nil)
    (pss_cons (ps_if (pt_not (pt_val (pe_call (ok_alike T 12) (hr.mono (by first | decide | omega)) rfl T.m_alike T.F_alike.kp T.B_alike .nil pass0 (pa_cons (pe_call (ok_word T) (hr.mono (by first | decide | omega)) rfl T.m_word T.F_word.kp T.B_word .nil pass0 (pa_cons (pe_callTy call_list_of (by rfl) T.b_list (by decide +kernel) (pa_cons (pv 8) pa_nil)) pa_nil)) (pa_cons (pe_revL (pe_call (ok_word T) (hr.mono (by first | decide | omega)) rfl T.m_word T.F_word.kp T.B_word .nil pass0 (pa_cons (pe_callTy call_list_of (by rfl) T.b_list (by decide +kernel) (pa_cons (pv 4) pa_nil)) pa_nil))) pa_nil)))))
    (pss_one (ps_ret pe_bl))
    pss_nil)
    (pss_cons (ps_expr (pe_bm PySem.F.plainAttrs_list PySem.F.slot_list_append PySem.F.type_list_append mt_append (pv 2) (pa_cons (pe_tup (pa_cons (pv 4) (pa_cons (pv 5) (pa_cons (pv 8) pa_nil)))) pa_nil)))
    (pss_cons (ps_expr (pe_bm PySem.F.plainAttrs_list PySem.F.slot_list_append PySem.F.type_list_append mt_append (pv 8) (pa_cons (pe_ix ix_list (pv 5) pe_int (fun _ _ => rfl)) pa_nil)))
    (pss_cons (ps_asg (pe_tup (pa_cons pe_str (pa_cons pe_str pa_nil))) (pg_sub (pv 7) pe_int set_list))
    (pss_one (ps_if (pt_not (pt_val (pe_call (ok_alike T 12) (hr.mono (by first | decide | omega)) rfl T.m_alike T.F_alike.kp T.B_alike .nil pass0 (pa_cons (pe_call (ok_turned_row T) (hr.mono (by first | decide | omega)) rfl T.m_turned_row T.F_turned_row.kp T.B_turned_row .nil pass0 (pa_cons (pe_callTy call_list_of (by rfl) T.b_list (by decide +kernel) (pa_cons (pv 4) pa_nil)) pa_nil)) (pa_cons (pv 5) pa_nil)))))
    (pss_one (ps_ret pe_bl))
    pss_nil)))))))))))))))
    (pss_cons (ps_for PassesOwn.never rfl (pi_list (pv 2)) (pg_tup rfl (pgs_cons (pg_name (i := 4) sc_law.nd rfl (Or.inl rfl)) (pgs_cons (pg_name (i := 5) sc_law.nd rfl (Or.inl rfl)) (pgs_cons (pg_name (i := 8) sc_law.nd rfl (Or.inl rfl)) pgs_nil))))
    (pss_one (ps_if (PW.pt (pw_or (pt_not (pt_val (pe_call (ok_alike T 12) (hr.mono (by first | decide | omega)) rfl T.m_alike T.F_alike.kp T.B_alike .nil pass0 (pa_cons (pe_call (ok_turned_row T) (hr.mono (by first | decide | omega)) rfl T.m_turned_row T.F_turned_row.kp T.B_turned_row .nil pass0 (pa_cons (pe_callTy call_list_of (by rfl) T.b_list (by decide +kernel) (pa_cons (pv 4) pa_nil)) pa_nil)) (pa_cons (pv 5) pa_nil))))) (pw_or1 (pt_not (pt_val (pe_call (ok_alike T 12) (hr.mono (by first | decide | omega)) rfl T.m_alike T.F_alike.kp T.B_alike .nil pass0 (pa_cons (pv 8) (pa_cons (pe_op op_cat (pv 5) (pe_lst (pa_cons (pe_ix ix_list (pv 5) pe_int (fun _ _ => rfl)) pa_nil))) pa_nil))))))))
    (pss_one (ps_ret pe_bl))
    pss_nil)))
    (pss_one (ps_ret pe_bl)))))), ?_⟩)
  · obtain ⟨a, ns, rfl, _⟩ := h
    rfl
  · obtain ⟨s0, ns, rfl, hS, h63, q⟩ := h
    refine ⟨_, rfl, s0, ns, rfl, hS, h63, fun a g H0 e0 ha hg hs0 => ?_⟩
    refine ⟨sz1 (by show 0 ≤ 1000000; decide), fun h0 nh0 => ?_⟩
    obtain ⟨nha, nhg⟩ := hs0.ne nh0
    have c3 : 3 ≤ sizeLine := sz1 (by show 3 ≤ 1000000; decide)
    have c2 : 2 ≤ sizeLine := sz1 (by show 2 ≤ 1000000; decide)
    have c1 : 1 ≤ sizeLine := sz1 (by show 1 ≤ 1000000; decide)
    refine ⟨_, rfl, by decide, by decide, for_range (lo := 0) (n := 8) (fun i σ H' => ∃ (o3 o4 o5 o6 o7 o8 : Option V) (ts : List V), σ = [some (.ref s0), some (.ref a), some (.ref h0), o3, o4, o5, o6, o7, o8] ∧ SrcAt H' a g (i * 200) ∧ H' h0 = some (.lst ts) ∧ ts.length = i ∧ ∀ t ∈ ts, HE H' a h0 t) ⟨none, none, none, none, none, none, [], rfl, hs0.new nh0, upd_same, rfl, fun _ z => nomatch z⟩ ?_ ?_⟩
    · rintro i σ H1 hi ⟨o3, o4, o5, o6, o7, o8, ts, rfl, s1, hh1, lts, hts⟩
      obtain ⟨sx1, hsx1⟩ := s1.lst
      refine ⟨_, rfl, a, g, _, rfl, s1, by omega, fun l xs ks H2 b2 s2 nl hl2 wl2 rb => ?_⟩
      have rbt := tRow_rb rb
      have l60 := rb_len ks
      have r60 := rb.2.1
      have lx := wl2.len
      have hh2 := b2 _ _ nha hh1
      have nlh : l ≠ h0 := ne_of_none hh1 nl |>.symm
      have nla : l ≠ a := ne_of_none hsx1 nl |>.symm
      refine ⟨_, rfl, l, xs, rfl, SqL.of hl2, fun p np => ?_⟩
      have e3 := same_new np (.lst xs.reverse)
      have hp3 := upd_same (H := H2) (a := p) (o := .lst xs.reverse)
      generalize upd H2 p (.lst xs.reverse) = H3 at e3 hp3
      have wr3 := (wl2.kat (.of e3)).rev
      refine ⟨p, rfl, ⟨xs.reverse, SqL.of hp3⟩, fun D hD => ?_⟩
      refine lc_list (K := K) (xs := xs.reverse) (fun i H' => Same H3 H' ∧ ∃ acc, H' D = some (.lst acc) ∧ All2 (KAt H') acc ((ks.reverse.take i).map Kd.turn)) ⟨same_new hD _, [], upd_same, trivial⟩ (fun i H' _ ⟨e, _⟩ => SqL.of (e _ _ hp3)) ?_ ?_
      · rintro j x H4 hx ⟨e4, acc, hacc, wacc⟩
        obtain ⟨k, hk, rk⟩ := wr3.get hx
        have b := rb.1 k (List.mem_reverse.mp (List.mem_of_getElem? hk))
        have la := wacc.len
        rw [List.length_map, List.length_take, List.length_reverse] at la
        refine ⟨rfl, lc_yes ⟨_, rfl, x, k, rfl, rk.mono (.of e4), b.1, b.2.1, fun v' H5 e5 kv => ?_⟩⟩
        have ha5 := e5 _ _ hacc
        have tp : Tps H5 (upd H5 D (.lst (acc ++ [v']))) := Tps.lst ha5
        refine ⟨acc, ha5, sz2 (by omega), same_mut (e4.trans e5) hD _, acc ++ [v'], upd_same, ?_⟩
        rw [List.take_succ, hk, List.map_append]
        exact All2.snoc (kv.mono tp) (wacc.kat ((Tps.of e5).trans tp))
      · rintro H4 ⟨e4, ds, hD4, wD4⟩
        rw [List.take_of_length_le (by rw [List.length_reverse, List.length_reverse]; omega)] at wD4
        replace wD4 : All2 (KAt H4) ds (tRow ks) := wD4
        have e24 := e3.trans e4
        have nD2 : H2 D = none := e3.free hD
        have hl4 := e24 _ _ hl2
        have wl4 := wl2.kat (.of e24)
        refine ⟨_, rfl, l, xs, rfl, .inl (SqL.of hl4), fun pp npp => ?_⟩
        have e45 := same_new npp (.lst xs)
        have hpp5 := upd_same (H := H4) (a := pp) (o := .lst xs)
        generalize upd H4 pp (.lst xs) = H5 at e45 hpp5
        refine ⟨_, rfl, pp, xs, ks, rfl, hpp5, wl4.kat (.of e45), rb, fun m ms H6 e6 nm hm6 wm6 => ?_⟩
        replace wm6 : All2 (KAt H6) ms (tRow ks) := wm6
        have e46 := e45.trans e6
        refine ⟨_, rfl, _, rfl, .ref m, .ref D, .list ((tRow ks).map Kd.dat), rfl, .lst (SqL.of hm6) (ks_dp wm6), .lst (SqL.of (e46 _ _ hD4)) (ks_dp (wD4.kat (.of e46))), ks_gd12 rbt, fun H7 e7 => ⟨_, rfl, bf rfl ?_⟩⟩
        have e47 := e46.trans e7
        refine ⟨_, rfl, _, rfl, .ref pp, .ref l, .list (ks.map Kd.dat), rfl, .lst (SqL.of (e7 _ _ (e6 _ _ hpp5))) (ks_dp (wl4.kat (.of e47))), .lst (SqL.of (e47 _ _ hl4)) (ks_dp (wl4.kat (.of e47))), ks_gd12 rb, fun H8 e8 => ⟨_, rfl, bf rfl ?_⟩⟩
        have e68 := e7.trans e8
        have e48 := e46.trans e68
        have hm8 := e68 _ _ hm6
        have wm8 := wm6.kat (.of e68)
        refine ⟨_, rfl, m, ms, rfl, .inl (SqL.of hm8), fun p2 np2 => ?_⟩
        have e89 := same_new np2 (.lst ms)
        have hp9 := upd_same (H := H8) (a := p2) (o := .lst ms)
        generalize upd H8 p2 (.lst ms) = H9 at e89 hp9
        refine ⟨rfl, p2, ms, tRow ks, rfl, hp9, wm8.kat (.of e89), rbt, fun m2 ms2 H10 e10 nm2 hm2 wm2 => ?_⟩
        replace wm2 : All2 (KAt H10) ms2 (tRow (tRow ks)) := wm2
        rw [tRow_tRow rb.1] at wm2
        have e4a := e48.trans (e89.trans e10)
        refine ⟨_, rfl, .ref m2, .ref l, .list (ks.map Kd.dat), rfl, .lst (SqL.of hm2) (ks_dp wm2), .lst (SqL.of (e4a _ _ hl4)) (ks_dp (wl4.kat (.of e4a))), ks_gd12 rb, fun H11 e11 => ⟨_, rfl, bf rfl ?_⟩⟩
        have e4b := e4a.trans e11
        have e6b := e68.trans (e89.trans (e10.trans e11))
        refine ⟨_, rfl, l, rfl, ⟨xs, SqL.of (e4b _ _ hl4)⟩, for_list (xs := xs) (fun j σ H' => ∃ o6, σ = [some (.ref s0), some (.ref a), some (.ref h0), some (.int (0 + (i : Int))), some (.ref l), some (.ref D), o6, some (.ref pp), some (.ref m)] ∧ Same H11 H') ⟨_, rfl, Same.refl _⟩ (fun j σ H' _ ⟨_, _, e⟩ => SqL.of (e _ _ (e4b _ _ hl4))) ?_ ?_⟩
        · rintro j x σ H12 hx ⟨o6, rfl, e12⟩
          obtain ⟨k, hk, rk⟩ := wl4.get hx
          exact ⟨_, rfl, x, k, rfl, ⟨rk.mono (.of (e4b.trans e12)), rb.1 k (List.mem_of_getElem? hk)⟩, fun H13 e13 => ⟨_, rfl, bf rfl ⟨_, rfl, e12.trans e13⟩⟩⟩
        · rintro σ H12 ⟨o6, rfl, e12⟩
          have e4c := e4b.trans e12
          have e6c := e6b.trans e12
          refine ⟨_, rfl, m, ms, rfl, .inl (SqL.of (e6c _ _ hm6)), fun p3 np3 => ?_⟩
          have e13 := same_new np3 (.lst ms)
          have hp13 := upd_same (H := H12) (a := p3) (o := .lst ms)
          generalize upd H12 p3 (.lst ms) = H13 at e13 hp13
          have e6d := e6c.trans e13
          refine ⟨p3, ms, tRow ks, rfl, hp13, wm6.kat (.of e6d), rbt, fun r1 rows1 ss1 H14 e14 nr1 hr1 srt1 wr1 => ?_⟩
          have e4e := e4c.trans (e13.trans e14)
          refine ⟨_, rfl, l, xs, rfl, .inl (SqL.of (e4e _ _ hl4)), fun p4 np4 => ?_⟩
          have e15 := same_new np4 (.lst xs)
          have hp15 := upd_same (H := H14) (a := p4) (o := .lst xs)
          generalize upd H14 p4 (.lst xs) = H15 at e15 hp15
          have e4f := e4e.trans e15
          refine ⟨p4, xs, ks, rfl, hp15, wl4.kat (.of e4f), rb, fun r2 rows2 ss2 H16 e16 nr2 hr2 srt2 wr2 => ?_⟩
          have ess : ss1 = ss2 := (srt1.same fun s => by rw [tRow_sgn rb, List.map_reverse, List.mem_reverse]).eq srt2
          subst ess
          have eb : bal (rowSgn (tRow ks)) ss1 = bal (rowSgn ks) ss1 := by
            unfold bal
            rw [tRow_sgn rb]
            simp only [cnt_rev]
          rw [eb] at wr1
          have lss : ss1.length ≤ 60 := by
            have := nd_len srt2.nodup fun x hx => (srt2.mem x).1 hx
            rw [List.length_map] at this
            omega
          have lbal : (bal (rowSgn ks) ss1).length ≤ 100000 := by
            unfold bal
            have := List.length_filter_le (fun x : Str × Int => decide (x.2 ≠ 0)) (ss1.map fun s => (s, cnt (rowSgn ks) s))
            rw [List.length_map] at this
            omega
          have e1416 := e15.trans e16
          refine ⟨.ref r1, .ref r2, .list ((bal (rowSgn ks) ss1).map rowDat), rfl, .lst (SqL.of (e1416 _ _ hr1)) (dps_of rowDat (fun _ _ h => RowAt.dp h) (wr1.row (.of e1416))), .lst (SqL.of hr2) (dps_of rowDat (fun _ _ h => RowAt.dp h) wr2), rows_gd lbal (by decide), fun H17 e17 => ⟨_, rfl, bf rfl ?_⟩⟩
          have e4g := e4f.trans (e16.trans e17)
          have e6g := e6d.trans (e14.trans (e15.trans (e16.trans e17)))
          refine ⟨_, rfl, m, ms, rfl, .inl (SqL.of (e6g _ _ hm6)), fun p5 np5 => ?_⟩
          have e18 := same_new np5 (.lst ms)
          have hp18 := upd_same (H := H17) (a := p5) (o := .lst ms)
          generalize upd H17 p5 (.lst ms) = H18 at e18 hp18
          refine ⟨p5, ms, tRow ks, rfl, hp18, wm6.kat (.of (e6g.trans e18)), rbt, fun w1 wrows1 H19 e19 nw1 hw1 ww1 => ?_⟩
          have e4h := e4g.trans (e18.trans e19)
          refine ⟨_, rfl, l, xs, rfl, .inl (SqL.of (e4h _ _ hl4)), fun p6 np6 => ?_⟩
          have e20 := same_new np6 (.lst xs)
          have hp20 := upd_same (H := H19) (a := p6) (o := .lst xs)
          generalize upd H19 p6 (.lst xs) = H20 at e20 hp20
          refine ⟨p6, xs, ks, rfl, hp20, wl4.kat (.of (e4h.trans e20)), rb, fun w2 wrows2 H21 e21 nw2 hw2 ww2 => ?_⟩
          refine ⟨w2, wrows2, rfl, SqL.of hw2, fun w3 nw3 => ?_⟩
          have e22 := same_new nw3 (.lst wrows2.reverse)
          have hw22 := upd_same (H := H21) (a := w3) (o := .lst wrows2.reverse)
          generalize upd H21 w3 (.lst wrows2.reverse) = H22 at e22 hw22
          rw [tRow_sgn rb, red_rev] at ww1
          have ww3 := (ww2.row (.of e22)).rev
          have e1922 := e20.trans (e21.trans e22)
          have lred : (red (rowSgn ks)).reverse.length ≤ 100000 := by
            have := fold_len (rowSgn ks) []
            unfold red
            rw [List.reverse_reverse]
            simp at this
            omega
          refine ⟨.ref w1, .ref w3, .list ((red (rowSgn ks)).reverse.map rowDat), rfl, .lst (SqL.of (e1922 _ _ hw1)) (dps_of rowDat (fun _ _ h => RowAt.dp h) (ww1.row (.of e1922))), .lst (SqL.of hw22) (dps_of rowDat (fun _ _ h => RowAt.dp h) ww3), rows_gd lred (by decide), fun H23 e23 => ⟨_, rfl, bf rfl ?_⟩⟩
          have E423 := e4h.trans (e20.trans (e21.trans (e22.trans e23)))
          have E23 := e24.trans E423
          have E6 := e6g.trans (e18.trans (e19.trans (e20.trans (e21.trans (e22.trans e23)))))
          have hl23 := E423 _ _ hl4
          have hD23 := E423 _ _ hD4
          have hm23 := E6 _ _ hm6
          have hp23 := E6 _ _ (e6 _ _ hpp5)
          have wl23 := wl4.kat (.of E423)
          have wD23 := wD4.kat (.of E423)
          have wm23 := wm6.kat (.of E6)
          have hh23 := E23 _ _ hh2
          obtain ⟨sx2, hsx2⟩ := s2.lst
          have s23 := s2.mono E23 (Nat.le_refl _)
          have npp2 : H2 pp = none := e24.free npp
          have nm2' : H2 m = none := (e24.trans e45).free nm
          have nDh : D ≠ h0 := (ne_of_none hh2 nD2).symm
          have npph : pp ≠ h0 := (ne_of_none hh2 npp2).symm
          have nmh : m ≠ h0 := (ne_of_none hh2 nm2').symm
          have nDa : D ≠ a := (ne_of_none hsx2 nD2).symm
          have nma : m ≠ a := (ne_of_none hsx2 nm2').symm
          have nppl : l ≠ pp := ne_of_none hl4 npp
          have nppD : D ≠ pp := ne_of_none hD4 npp
          have nppm : pp ≠ m := ne_of_none hpp5 nm
          have nml : l ≠ m := ne_of_none (e45 _ _ hl4) nm
          have nmD : D ≠ m := ne_of_none (e45 _ _ hD4) nm
          have hsx23 := E23 _ _ hsx2
          have lm := wm6.len
          have lD := wD4.len
          have ltr : (tRow ks).length = ks.length := by
            unfold tRow
            rw [List.length_map, List.length_reverse]
          have pos : 0 < ks.length := List.length_pos_iff.mpr rb.2.2
          obtain ⟨d0, hd0⟩ : ∃ d0, ds[0]? = some d0 := ⟨ds[0], List.getElem?_eq_getElem (by omega)⟩
          obtain ⟨k0, hk0, rd0⟩ := wD23.get hd0
          generalize H23 = G0 at hl23 hD23 hm23 hp23 wl23 wD23 wm23 hh23 E23 s23 hsx23 rd0
          have b0 : Bt2 a h0 H1 G0 := (Bt2.but b2).trans (Bt2.of E23)
          refine ⟨_, rfl, .inl ⟨rfl, _, SqL.of hh23⟩, _, rfl, _, rfl, _, rfl, c3, fun tq ntq => ?_⟩
          have hh24 := same_new ntq (.tup [.ref l, .ref D, .ref m]) _ _ hh23
          refine ⟨h0, ts, _, rfl, rfl, hh24, sz2 (by omega), ?_⟩
          have T1 : Tps G0 (upd (upd G0 tq (.tup [.ref l, .ref D, .ref m])) h0 (.lst (ts ++ [.ref tq]))) := (Tps.new ntq).trans (Tps.lst hh24)
          have K1 : ∀ b o, b ≠ h0 → G0 b = some o → (upd (upd G0 tq (.tup [.ref l, .ref D, .ref m])) h0 (.lst (ts ++ [.ref tq]))) b = some o := fun b o n h => by
            rw [upd_ne n]
            exact same_new ntq _ _ _ h
          have hq1 : (upd (upd G0 tq (.tup [.ref l, .ref D, .ref m])) h0 (.lst (ts ++ [.ref tq]))) tq = some (.tup [.ref l, .ref D, .ref m]) := by
            rw [upd_ne (ne_of_none hh23 ntq).symm]
            exact upd_same
          have hh1' : (upd (upd G0 tq (.tup [.ref l, .ref D, .ref m])) h0 (.lst (ts ++ [.ref tq]))) h0 = some (.lst (ts ++ [.ref tq])) := upd_same
          have b1' : Bt2 a h0 H1 (upd (upd G0 tq (.tup [.ref l, .ref D, .ref m])) h0 (.lst (ts ++ [.ref tq]))) := (b0.trans (Bt2.of (same_new ntq _))).at2 _
          have s1' := (s23.new (u := .tup [.ref l, .ref D, .ref m]) ntq).upd (p := h0) (u := .lst (ts ++ [.ref tq])) ⟨nha, nhg⟩
          generalize upd (upd G0 tq (.tup [.ref l, .ref D, .ref m])) h0 (.lst (ts ++ [.ref tq])) = G1 at T1 K1 hq1 hh1' b1' s1'
          have hm1 := K1 _ _ nmh hm23
          have hD1 := K1 _ _ nDh hD23
          refine ⟨_, rfl, .inl ⟨rfl, _, SqL.of hm1⟩, _, rfl, D, _, _, _, rfl, rfl, SqL.of hD1, atI_nat (j := 0) hd0, ?_⟩
          refine ⟨m, ms, _, rfl, rfl, hm1, sz2 (by omega), ?_⟩
          have T2 : Tps G1 (upd G1 m (.lst (ms ++ [d0]))) := Tps.lst hm1
          have K2 : ∀ b o, b ≠ m → G1 b = some o → (upd G1 m (.lst (ms ++ [d0]))) b = some o := fun b o n h => by
            rw [upd_ne n]
            exact h
          have hm2' : (upd G1 m (.lst (ms ++ [d0]))) m = some (.lst (ms ++ [d0])) := upd_same
          have nm1 : H1 m = none := b2.free hsx2 nm2'
          have npp1 : H1 pp = none := b2.free hsx2 npp2
          have b2' : Bt2 a h0 H1 (upd G1 m (.lst (ms ++ [d0]))) := b1'.mut nm1 _
          have s2' := s1'.upd (p := m) (u := .lst (ms ++ [d0])) (s2.ne nm2')
          generalize upd G1 m (.lst (ms ++ [d0])) = G2 at T2 K2 hm2' b2' s2'
          refine ⟨c2, fun tv ntv => ?_⟩
          have hp2' := same_new ntv (.tup [.str "plain", .str "q"]) _ _ (K2 _ _ nppm (K1 _ _ npph hp23))
          refine ⟨_, rfl, pp, xs, 0, 0, rfl, rfl, hp2', ?_, ?_⟩
          · show (if (0 : Int) ≤ 0 then (if (0 : Int) < xs.length then some (0 : Int).toNat else none) else _) = some 0
            rw [if_pos (Int.le_refl 0), if_pos (by omega)]
            rfl
          · have T3 : Tps G2 (upd (upd G2 tv (.tup [.str "plain", .str "q"])) pp (.lst (xs.set 0 (.ref tv)))) := (Tps.new ntv).trans (Tps.lst hp2')
            have K3 : ∀ b o, b ≠ pp → G2 b = some o → (upd (upd G2 tv (.tup [.str "plain", .str "q"])) pp (.lst (xs.set 0 (.ref tv)))) b = some o := fun b o n h => by
              rw [upd_ne n]
              exact same_new ntv _ _ _ h
            have b3' : Bt2 a h0 H1 (upd (upd G2 tv (.tup [.str "plain", .str "q"])) pp (.lst (xs.set 0 (.ref tv)))) := (b2'.trans (Bt2.of (same_new ntv _))).mut npp1 _
            have s3' := (s2'.new (u := .tup [.str "plain", .str "q"]) ntv).upd (p := pp) (u := .lst (xs.set 0 (.ref tv))) (s2.ne npp2)
            generalize upd (upd G2 tv (.tup [.str "plain", .str "q"])) pp (.lst (xs.set 0 (.ref tv))) = G3 at T3 K3 b3' s3'
            have T := T1.trans (T2.trans T3)
            have hl3 := K3 _ _ nppl (K2 _ _ nml (K1 _ _ nlh hl23))
            have hD3 := K3 _ _ nppD (K2 _ _ nmD hD1)
            have hm3 := K3 _ _ nppm.symm hm2'
            have hh3 := K3 _ _ npph.symm (K2 _ _ nmh.symm hh1')
            have wl3 := wl23.kat T
            have wD3 := wD23.kat T
            refine ⟨_, rfl, l, xs, rfl, .inl (SqL.of hl3), fun p7 np7 => ?_⟩
            have e34 := same_new np7 (.lst xs)
            have hp4 := upd_same (H := G3) (a := p7) (o := .lst xs)
            generalize upd G3 p7 (.lst xs) = G4 at e34 hp4
            refine ⟨p7, xs, ks, rfl, hp4, wl3.kat (.of e34), rb, fun r rrows G5 e45' nr hr5 wr5 => ?_⟩
            have e35 := e34.trans e45'
            refine ⟨_, rfl, .ref r, .ref D, .list ((tRow ks).map Kd.dat), rfl, .lst (SqL.of hr5) (ks_dp wr5), .lst (SqL.of (e35 _ _ hD3)) (ks_dp (wD3.kat (.of e35))), ks_gd12 rbt, fun G6 e56 => ⟨_, rfl, bf rfl ?_⟩⟩
            have e36 := e35.trans e56
            have bE := b3'.trans (Bt2.of e36)
            have tE := bE.tps hsx1 hh1
            refine ⟨_, _, _, _, _, _, ts ++ [.ref tq], rfl, (s3'.mono e36 (Nat.le_refl _)).le (by omega), e36 _ _ hh3, by rw [List.length_append, lts]; rfl, fun t ht => ?_⟩
            rcases List.mem_append.mp ht with z | z
            · exact (hts t z).mono bE tE
            · rw [List.mem_singleton] at z
              have TE := T.trans (.of e36)
              exact ⟨tq, l, D, m, xs, ds, ms ++ [d0], ks, d0, k0, z, e36 _ _ (T3 _ _ (T2 _ _ hq1)), nla, nDa, nma, nlh, nDh, nmh, e36 _ _ hl3, wl3.kat (.of e36), rb, e36 _ _ hD3, wD3.kat (.of e36), hd0, hk0, e36 _ _ hm3, All2.snoc (rd0.mono TE) (wm23.kat TE)⟩
    · rintro σ H1 ⟨o3, o4, o5, o6, o7, o8, ts, rfl, s1, hh1, lts, hts⟩
      refine ⟨_, rfl, h0, rfl, ⟨ts, SqL.of hh1⟩, for_list (xs := ts) (fun j σ H' => ∃ (o3 o4 o5 o6 o7 o8 : Option V), σ = [some (.ref s0), some (.ref a), some (.ref h0), o3, o4, o5, o6, o7, o8] ∧ Same H1 H') ⟨_, _, _, _, _, _, rfl, Same.refl _⟩ (fun j σ H' _ ⟨_, _, _, _, _, _, _, e⟩ => SqL.of (e _ _ hh1)) ?_ ?_⟩
      · rintro j x σ H2 hx ⟨o3, o4, o5, o6, o7, o8, rfl, e2⟩
        obtain ⟨tq, l, D, m, xs, ds, ms, ks, d0, k0, rfl, hq, n1, n2, n3, n4, n5, n6, hl, wl, rb, hD, wD, hd0, hk0, hm, wm⟩ := hts x (List.mem_of_getElem? hx)
        have rbt := tRow_rb rb
        have lD := wD.len
        have l60 := rb_len (tRow ks)
        have r60 := rbt.2.1
        refine ⟨tq, _, rfl, SqT.of (e2 _ _ hq), rfl, _, _, rfl, _, _, rfl, _, _, rfl, rfl, ?_⟩
        refine ⟨_, rfl, l, xs, rfl, .inl (SqL.of (e2 _ _ hl)), fun p7 np7 => ?_⟩
        have e23 := same_new np7 (.lst xs)
        have hp3 := upd_same (H := H2) (a := p7) (o := .lst xs)
        generalize upd H2 p7 (.lst xs) = H3 at e23 hp3
        refine ⟨p7, xs, ks, rfl, hp3, wl.kat (.of (e2.trans e23)), rb, fun r rrows H4 e34 nr hr4 wr4 => ?_⟩
        have e14 := e2.trans (e23.trans e34)
        refine ⟨_, rfl, .ref r, .ref D, .list ((tRow ks).map Kd.dat), rfl, .lst (SqL.of hr4) (ks_dp wr4), .lst (SqL.of (e14 _ _ hD)) (ks_dp (wD.kat (.of e14))), ks_gd12 rbt, fun H5 e45 => ⟨_, rfl, bf rfl ?_⟩⟩
        have e15 := e14.trans e45
        obtain ⟨k0', hk0', rd0⟩ := wD.get hd0
        have ek : k0' = k0 := Option.some.inj (hk0'.symm.trans hk0)
        subst ek
        have b0 := rbt.1 k0' (List.mem_of_getElem? hk0)
        refine ⟨_, rfl, _, rfl, _, rfl, D, _, _, _, rfl, rfl, SqL.of (e15 _ _ hD), atI_nat (j := 0) hd0, c1, fun p8 np8 => ?_⟩
        have e6 := same_new np8 (.lst [d0])
        have hp6 := upd_same (H := H5) (a := p8) (o := .lst [d0])
        generalize upd H5 p8 (.lst [d0]) = H6 at e6 hp6
        have e16 := e15.trans e6
        refine ⟨D, p8, _, _, rfl, rfl, e16 _ _ hD, hp6, sz1 (by show ds.length + 1 ≤ 1000000; omega), fun p9 np9 => ?_⟩
        have e7 := same_new np9 (.lst (ds ++ [d0]))
        have hp7 := upd_same (H := H6) (a := p9) (o := .lst (ds ++ [d0]))
        generalize upd H6 p9 (.lst (ds ++ [d0])) = H7 at e7 hp7
        have e17 := e16.trans e7
        have gd : Gd 12 (.list ((tRow ks ++ [k0']).map Kd.dat)) := ks_gd (fun k hk => by
          rcases List.mem_append.mp hk with z | z
          · exact (rbt.1 k z).2.1
          · rw [List.mem_singleton] at z
            subst z
            exact b0.2.1) (by rw [List.length_append, List.length_singleton]; omega) (by decide)
        refine ⟨.ref m, .ref p9, .list ((tRow ks ++ [k0']).map Kd.dat), rfl, .lst (SqL.of (e17 _ _ hm)) (ks_dp (wm.kat (.of e17))), .lst (SqL.of hp7) (ks_dp (All2.snoc (rd0.mono (.of e17)) (wD.kat (.of e17)))), gd, fun H8 e8 => ⟨_, rfl, bf rfl ?_⟩⟩
        exact ⟨_, _, _, _, _, _, rfl, e17.trans e8⟩
      · rintro σ H2 ⟨o3, o4, o5, o6, o7, o8, rfl, e2⟩
        exact q H2
end
end K02

namespace K02
open PySem PySem.Spec PyProof.Rows L2 Ww
theorem all_mk {P : Program} {w : World} {K : PySem.W.Frag} {h : Heap} {mg : Str → Option Value} {fa : Addr} (X : K.In h) (G : h.Ns mainGlobals mg) (hfa : mg "law" = some (.ref fa))
    {od0 an0 : Option Addr} {sl0 : Array (Option Value)} {oc0 kV0 dc0 pm0 cd0 ct0 : Value} {f0 : Addr}
    (a0 : PySem.W.nsIn K mainGlobals "is_letter" = some (some (.ref f0))) (l0 : K.lookup f0 = some ⟨oc0, od0, .func (PySem.W.fnOf "is_letter" "is_letter" (defArgs s_is_letter) (defBody s_is_letter) (defScope s_is_letter) .none kV0 dc0 pm0 an0 cd0 ct0), sl0⟩) (c0 : PySem.W.codeIn K cd0 "is_letter" = true) (k0 : PySem.W.keepIn K (.ref f0) = true)
    {od1 an1 : Option Addr} {sl1 : Array (Option Value)} {oc1 kV1 dc1 pm1 cd1 ct1 : Value} {f1 : Addr}
    (a1 : PySem.W.nsIn K mainGlobals "wrong_part" = some (some (.ref f1))) (l1 : K.lookup f1 = some ⟨oc1, od1, .func (PySem.W.fnOf "wrong_part" "wrong_part" (defArgs s_wrong_part) (defBody s_wrong_part) (defScope s_wrong_part) .none kV1 dc1 pm1 an1 cd1 ct1), sl1⟩) (c1 : PySem.W.codeIn K cd1 "wrong_part" = true) (k1 : PySem.W.keepIn K (.ref f1) = true)
    {od2 an2 : Option Addr} {sl2 : Array (Option Value)} {oc2 kV2 dc2 pm2 cd2 ct2 : Value} {f2 : Addr}
    (a2 : PySem.W.nsIn K mainGlobals "checked_kind" = some (some (.ref f2))) (l2 : K.lookup f2 = some ⟨oc2, od2, .func (PySem.W.fnOf "checked_kind" "checked_kind" (defArgs s_checked_kind) (defBody s_checked_kind) (defScope s_checked_kind) .none kV2 dc2 pm2 an2 cd2 ct2), sl2⟩) (c2 : PySem.W.codeIn K cd2 "checked_kind" = true) (k2 : PySem.W.keepIn K (.ref f2) = true)
    {od3 an3 : Option Addr} {sl3 : Array (Option Value)} {oc3 kV3 dc3 pm3 cd3 ct3 : Value} {f3 : Addr}
    (a3 : PySem.W.nsIn K mainGlobals "checked_kinds" = some (some (.ref f3))) (l3 : K.lookup f3 = some ⟨oc3, od3, .func (PySem.W.fnOf "checked_kinds" "checked_kinds" (defArgs s_checked_kinds) (defBody s_checked_kinds) (defScope s_checked_kinds) .none kV3 dc3 pm3 an3 cd3 ct3), sl3⟩) (c3 : PySem.W.codeIn K cd3 "checked_kinds" = true) (k3 : PySem.W.keepIn K (.ref f3) = true)
    {od4 an4 : Option Addr} {sl4 : Array (Option Value)} {oc4 kV4 dc4 pm4 cd4 ct4 : Value} {f4 : Addr}
    (a4 : PySem.W.nsIn K mainGlobals "checked_row" = some (some (.ref f4))) (l4 : K.lookup f4 = some ⟨oc4, od4, .func (PySem.W.fnOf "checked_row" "checked_row" (defArgs s_checked_row) (defBody s_checked_row) (defScope s_checked_row) .none kV4 dc4 pm4 an4 cd4 ct4), sl4⟩) (c4 : PySem.W.codeIn K cd4 "checked_row" = true) (k4 : PySem.W.keepIn K (.ref f4) = true)
    {od5 an5 : Option Addr} {sl5 : Array (Option Value)} {oc5 kV5 dc5 pm5 cd5 ct5 : Value} {f5 : Addr}
    (a5 : PySem.W.nsIn K mainGlobals "single" = some (some (.ref f5))) (l5 : K.lookup f5 = some ⟨oc5, od5, .func (PySem.W.fnOf "single" "single" (defArgs s_single) (defBody s_single) (defScope s_single) .none kV5 dc5 pm5 an5 cd5 ct5), sl5⟩) (c5 : PySem.W.codeIn K cd5 "single" = true) (k5 : PySem.W.keepIn K (.ref f5) = true)
    {od6 an6 : Option Addr} {sl6 : Array (Option Value)} {oc6 kV6 dc6 pm6 cd6 ct6 : Value} {f6 : Addr}
    (a6 : PySem.W.nsIn K mainGlobals "letters_of" = some (some (.ref f6))) (l6 : K.lookup f6 = some ⟨oc6, od6, .func (PySem.W.fnOf "letters_of" "letters_of" (defArgs s_letters_of) (defBody s_letters_of) (defScope s_letters_of) .none kV6 dc6 pm6 an6 cd6 ct6), sl6⟩) (c6 : PySem.W.codeIn K cd6 "letters_of" = true) (k6 : PySem.W.keepIn K (.ref f6) = true)
    {od7 an7 : Option Addr} {sl7 : Array (Option Value)} {oc7 kV7 dc7 pm7 cd7 ct7 : Value} {f7 : Addr}
    (a7 : PySem.W.nsIn K mainGlobals "depth_of" = some (some (.ref f7))) (l7 : K.lookup f7 = some ⟨oc7, od7, .func (PySem.W.fnOf "depth_of" "depth_of" (defArgs s_depth_of) (defBody s_depth_of) (defScope s_depth_of) .none kV7 dc7 pm7 an7 cd7 ct7), sl7⟩) (c7 : PySem.W.codeIn K cd7 "depth_of" = true) (k7 : PySem.W.keepIn K (.ref f7) = true)
    {od8 an8 : Option Addr} {sl8 : Array (Option Value)} {oc8 kV8 dc8 pm8 cd8 ct8 : Value} {f8 : Addr}
    (a8 : PySem.W.nsIn K mainGlobals "turned_kind" = some (some (.ref f8))) (l8 : K.lookup f8 = some ⟨oc8, od8, .func (PySem.W.fnOf "turned_kind" "turned_kind" (defArgs s_turned_kind) (defBody s_turned_kind) (defScope s_turned_kind) .none kV8 dc8 pm8 an8 cd8 ct8), sl8⟩) (c8 : PySem.W.codeIn K cd8 "turned_kind" = true) (k8 : PySem.W.keepIn K (.ref f8) = true)
    {od9 an9 : Option Addr} {sl9 : Array (Option Value)} {oc9 kV9 dc9 pm9 cd9 ct9 : Value} {f9 : Addr}
    (a9 : PySem.W.nsIn K mainGlobals "signed" = some (some (.ref f9))) (l9 : K.lookup f9 = some ⟨oc9, od9, .func (PySem.W.fnOf "signed" "signed" (defArgs s_signed) (defBody s_signed) (defScope s_signed) .none kV9 dc9 pm9 an9 cd9 ct9), sl9⟩) (c9 : PySem.W.codeIn K cd9 "signed" = true) (k9 : PySem.W.keepIn K (.ref f9) = true)
    {od10 an10 : Option Addr} {sl10 : Array (Option Value)} {oc10 kV10 dc10 pm10 cd10 ct10 : Value} {f10 : Addr}
    (a10 : PySem.W.nsIn K mainGlobals "row_signed" = some (some (.ref f10))) (l10 : K.lookup f10 = some ⟨oc10, od10, .func (PySem.W.fnOf "row_signed" "row_signed" (defArgs s_row_signed) (defBody s_row_signed) (defScope s_row_signed) .none kV10 dc10 pm10 an10 cd10 ct10), sl10⟩) (c10 : PySem.W.codeIn K cd10 "row_signed" = true) (k10 : PySem.W.keepIn K (.ref f10) = true)
    {od11 an11 : Option Addr} {sl11 : Array (Option Value)} {oc11 kV11 dc11 pm11 cd11 ct11 : Value} {f11 : Addr}
    (a11 : PySem.W.nsIn K mainGlobals "cancelled" = some (some (.ref f11))) (l11 : K.lookup f11 = some ⟨oc11, od11, .func (PySem.W.fnOf "cancelled" "cancelled" (defArgs s_cancelled) (defBody s_cancelled) (defScope s_cancelled) .none kV11 dc11 pm11 an11 cd11 ct11), sl11⟩) (c11 : PySem.W.codeIn K cd11 "cancelled" = true) (k11 : PySem.W.keepIn K (.ref f11) = true)
    {od12 an12 : Option Addr} {sl12 : Array (Option Value)} {oc12 kV12 dc12 pm12 cd12 ct12 : Value} {f12 : Addr}
    (a12 : PySem.W.nsIn K mainGlobals "letters" = some (some (.ref f12))) (l12 : K.lookup f12 = some ⟨oc12, od12, .func (PySem.W.fnOf "letters" "letters" (defArgs s_letters) (defBody s_letters) (defScope s_letters) .none kV12 dc12 pm12 an12 cd12 ct12), sl12⟩) (c12 : PySem.W.codeIn K cd12 "letters" = true) (k12 : PySem.W.keepIn K (.ref f12) = true)
    {od13 an13 : Option Addr} {sl13 : Array (Option Value)} {oc13 kV13 dc13 pm13 cd13 ct13 : Value} {f13 : Addr}
    (a13 : PySem.W.nsIn K mainGlobals "size" = some (some (.ref f13))) (l13 : K.lookup f13 = some ⟨oc13, od13, .func (PySem.W.fnOf "size" "size" (defArgs s_size) (defBody s_size) (defScope s_size) .none kV13 dc13 pm13 an13 cd13 ct13), sl13⟩) (c13 : PySem.W.codeIn K cd13 "size" = true) (k13 : PySem.W.keepIn K (.ref f13) = true)
    {od14 an14 : Option Addr} {sl14 : Array (Option Value)} {oc14 kV14 dc14 pm14 cd14 ct14 : Value} {f14 : Addr}
    (a14 : PySem.W.nsIn K mainGlobals "depth" = some (some (.ref f14))) (l14 : K.lookup f14 = some ⟨oc14, od14, .func (PySem.W.fnOf "depth" "depth" (defArgs s_depth) (defBody s_depth) (defScope s_depth) .none kV14 dc14 pm14 an14 cd14 ct14), sl14⟩) (c14 : PySem.W.codeIn K cd14 "depth" = true) (k14 : PySem.W.keepIn K (.ref f14) = true)
    {od15 an15 : Option Addr} {sl15 : Array (Option Value)} {oc15 kV15 dc15 pm15 cd15 ct15 : Value} {f15 : Addr}
    (a15 : PySem.W.nsIn K mainGlobals "is_single" = some (some (.ref f15))) (l15 : K.lookup f15 = some ⟨oc15, od15, .func (PySem.W.fnOf "is_single" "is_single" (defArgs s_is_single) (defBody s_is_single) (defScope s_is_single) .none kV15 dc15 pm15 an15 cd15 ct15), sl15⟩) (c15 : PySem.W.codeIn K cd15 "is_single" = true) (k15 : PySem.W.keepIn K (.ref f15) = true)
    {od16 an16 : Option Addr} {sl16 : Array (Option Value)} {oc16 kV16 dc16 pm16 cd16 ct16 : Value} {f16 : Addr}
    (a16 : PySem.W.nsIn K mainGlobals "turned" = some (some (.ref f16))) (l16 : K.lookup f16 = some ⟨oc16, od16, .func (PySem.W.fnOf "turned" "turned" (defArgs s_turned) (defBody s_turned) (defScope s_turned) .none kV16 dc16 pm16 an16 cd16 ct16), sl16⟩) (c16 : PySem.W.codeIn K cd16 "turned" = true) (k16 : PySem.W.keepIn K (.ref f16) = true)
    {od17 an17 : Option Addr} {sl17 : Array (Option Value)} {oc17 kV17 dc17 pm17 cd17 ct17 : Value} {f17 : Addr}
    (a17 : PySem.W.nsIn K mainGlobals "turned_row" = some (some (.ref f17))) (l17 : K.lookup f17 = some ⟨oc17, od17, .func (PySem.W.fnOf "turned_row" "turned_row" (defArgs s_turned_row) (defBody s_turned_row) (defScope s_turned_row) .none kV17 dc17 pm17 an17 cd17 ct17), sl17⟩) (c17 : PySem.W.codeIn K cd17 "turned_row" = true) (k17 : PySem.W.keepIn K (.ref f17) = true)
    {od18 an18 : Option Addr} {sl18 : Array (Option Value)} {oc18 kV18 dc18 pm18 cd18 ct18 : Value} {f18 : Addr}
    (a18 : PySem.W.nsIn K mainGlobals "balance" = some (some (.ref f18))) (l18 : K.lookup f18 = some ⟨oc18, od18, .func (PySem.W.fnOf "balance" "balance" (defArgs s_balance) (defBody s_balance) (defScope s_balance) .none kV18 dc18 pm18 an18 cd18 ct18), sl18⟩) (c18 : PySem.W.codeIn K cd18 "balance" = true) (k18 : PySem.W.keepIn K (.ref f18) = true)
    {od19 an19 : Option Addr} {sl19 : Array (Option Value)} {oc19 kV19 dc19 pm19 cd19 ct19 : Value} {f19 : Addr}
    (a19 : PySem.W.nsIn K mainGlobals "word" = some (some (.ref f19))) (l19 : K.lookup f19 = some ⟨oc19, od19, .func (PySem.W.fnOf "word" "word" (defArgs s_word) (defBody s_word) (defScope s_word) .none kV19 dc19 pm19 an19 cd19 ct19), sl19⟩) (c19 : PySem.W.codeIn K cd19 "word" = true) (k19 : PySem.W.keepIn K (.ref f19) = true)
    {od20 an20 : Option Addr} {sl20 : Array (Option Value)} {oc20 kV20 dc20 pm20 cd20 ct20 : Value} {f20 : Addr}
    (a20 : PySem.W.nsIn K mainGlobals "_law_begun" = some (some (.ref f20))) (l20 : K.lookup f20 = some ⟨oc20, od20, .func (PySem.W.fnOf "_law_begun" "_law_begun" (defArgs s_begun) (defBody s_begun) (defScope s_begun) .none kV20 dc20 pm20 an20 cd20 ct20), sl20⟩) (c20 : PySem.W.codeIn K cd20 "_law_begun" = true) (k20 : PySem.W.keepIn K (.ref f20) = true)
    {od21 an21 : Option Addr} {sl21 : Array (Option Value)} {oc21 kV21 dc21 pm21 cd21 ct21 : Value} {f21 : Addr}
    (a21 : PySem.W.nsIn K mainGlobals "_law_pick" = some (some (.ref f21))) (l21 : K.lookup f21 = some ⟨oc21, od21, .func (PySem.W.fnOf "_law_pick" "_law_pick" (defArgs s_pick) (defBody s_pick) (defScope s_pick) .none kV21 dc21 pm21 an21 cd21 ct21), sl21⟩) (c21 : PySem.W.codeIn K cd21 "_law_pick" = true) (k21 : PySem.W.keepIn K (.ref f21) = true)
    {od22 an22 : Option Addr} {sl22 : Array (Option Value)} {oc22 kV22 dc22 pm22 cd22 ct22 : Value} {f22 : Addr}
    (a22 : PySem.W.nsIn K mainGlobals "_law_alike" = some (some (.ref f22))) (l22 : K.lookup f22 = some ⟨oc22, od22, .func (PySem.W.fnOf "_law_alike" "_law_alike" (defArgs s_alike) (defBody s_alike) (defScope s_alike) .none kV22 dc22 pm22 an22 cd22 ct22), sl22⟩) (c22 : PySem.W.codeIn K cd22 "_law_alike" = true) (k22 : PySem.W.keepIn K (.ref f22) = true)
    {od23 an23 : Option Addr} {sl23 : Array (Option Value)} {oc23 kV23 dc23 pm23 cd23 ct23 : Value} {f23 : Addr}
    (a23 : PySem.W.nsIn K mainGlobals "_law_pool" = some (some (.ref f23))) (l23 : K.lookup f23 = some ⟨oc23, od23, .func (PySem.W.fnOf "_law_pool" "_law_pool" (defArgs s_pool) (defBody s_pool) (defScope s_pool) .none kV23 dc23 pm23 an23 cd23 ct23), sl23⟩) (c23 : PySem.W.codeIn K cd23 "_law_pool" = true) (k23 : PySem.W.keepIn K (.ref f23) = true)
    {od24 an24 : Option Addr} {sl24 : Array (Option Value)} {oc24 kV24 dc24 pm24 cd24 ct24 : Value} {f24 : Addr}
    (a24 : PySem.W.nsIn K mainGlobals "_law_grown" = some (some (.ref f24))) (l24 : K.lookup f24 = some ⟨oc24, od24, .func (PySem.W.fnOf "_law_grown" "_law_grown" (defArgs s_grown) (defBody s_grown) (defScope s_grown) .none kV24 dc24 pm24 an24 cd24 ct24), sl24⟩) (c24 : PySem.W.codeIn K cd24 "_law_grown" = true) (k24 : PySem.W.keepIn K (.ref f24) = true)
    {od25 an25 : Option Addr} {sl25 : Array (Option Value)} {oc25 kV25 dc25 pm25 cd25 ct25 : Value} {f25 : Addr}
    (a25 : PySem.W.nsIn K mainGlobals "_law_places" = some (some (.ref f25))) (l25 : K.lookup f25 = some ⟨oc25, od25, .func (PySem.W.fnOf "_law_places" "_law_places" (defArgs s_places) (defBody s_places) (defScope s_places) .none kV25 dc25 pm25 an25 cd25 ct25), sl25⟩) (c25 : PySem.W.codeIn K cd25 "_law_places" = true) (k25 : PySem.W.keepIn K (.ref f25) = true)
    {od26 an26 : Option Addr} {sl26 : Array (Option Value)} {oc26 kV26 dc26 pm26 cd26 ct26 : Value} {f26 : Addr}
    (a26 : PySem.W.nsIn K mainGlobals "_law_mirror" = some (some (.ref f26))) (l26 : K.lookup f26 = some ⟨oc26, od26, .func (PySem.W.fnOf "_law_mirror" "_law_mirror" (defArgs s_mirror) (defBody s_mirror) (defScope s_mirror) .none kV26 dc26 pm26 an26 cd26 ct26), sl26⟩) (c26 : PySem.W.codeIn K cd26 "_law_mirror" = true) (k26 : PySem.W.keepIn K (.ref f26) = true)
    {od27 an27 : Option Addr} {sl27 : Array (Option Value)} {oc27 kV27 dc27 pm27 cd27 ct27 : Value} {f27 : Addr}
    (a27 : PySem.W.nsIn K mainGlobals "_law_row" = some (some (.ref f27))) (l27 : K.lookup f27 = some ⟨oc27, od27, .func (PySem.W.fnOf "_law_row" "_law_row" (defArgs s_row) (defBody s_row) (defScope s_row) .none kV27 dc27 pm27 an27 cd27 ct27), sl27⟩) (c27 : PySem.W.codeIn K cd27 "_law_row" = true) (k27 : PySem.W.keepIn K (.ref f27) = true)
    {od28 an28 : Option Addr} {sl28 : Array (Option Value)} {oc28 kV28 dc28 pm28 cd28 ct28 : Value} {f28 : Addr}
    (a28 : PySem.W.nsIn K mainGlobals "_law_of_kind" = some (some (.ref f28))) (l28 : K.lookup f28 = some ⟨oc28, od28, .func (PySem.W.fnOf "_law_of_kind" "_law_of_kind" (defArgs s_of_kind) (defBody s_of_kind) (defScope s_of_kind) .none kV28 dc28 pm28 an28 cd28 ct28), sl28⟩) (c28 : PySem.W.codeIn K cd28 "_law_of_kind" = true) (k28 : PySem.W.keepIn K (.ref f28) = true)
    {od29 an29 : Option Addr} {sl29 : Array (Option Value)} {oc29 kV29 dc29 pm29 cd29 ct29 : Value} {f29 : Addr}
    (a29 : PySem.W.nsIn K mainGlobals "law" = some (some (.ref f29))) (l29 : K.lookup f29 = some ⟨oc29, od29, .func (PySem.W.fnOf "law" "law" (defArgs s_law) (defBody s_law) (defScope s_law) .none kV29 dc29 pm29 an29 cd29 ct29), sl29⟩) (c29 : PySem.W.codeIn K cd29 "law" = true) (k29 : PySem.W.keepIn K (.ref f29) = true)
    (z_bool : PySem.W.nsIn K mainGlobals "bool" = some none)
    (z_int : PySem.W.nsIn K mainGlobals "int" = some none)
    (z_isinstance : PySem.W.nsIn K mainGlobals "isinstance" = some none)
    (z_len : PySem.W.nsIn K mainGlobals "len" = some none)
    (z_list : PySem.W.nsIn K mainGlobals "list" = some none)
    (z_max : PySem.W.nsIn K mainGlobals "max" = some none)
    (z_min : PySem.W.nsIn K mainGlobals "min" = some none)
    (z_range : PySem.W.nsIn K mainGlobals "range" = some none)
    (z_set : PySem.W.nsIn K mainGlobals "set" = some none)
    (z_sorted : PySem.W.nsIn K mainGlobals "sorted" = some none)
    (z_str : PySem.W.nsIn K mainGlobals "str" = some none)
    (z_tuple : PySem.W.nsIn K mainGlobals "tuple" = some none)
    (z_zip : PySem.W.nsIn K mainGlobals "zip" = some none)
    {t_LETTERS : Tok} (g_LETTERS : PySem.W.nsIn K mainGlobals "LETTERS" = some (some (.str "abcdefghijklmnopqrstuvwxyz" t_LETTERS)))
    {o_TURNS : Addr} {e_TURNS : Array DictEntry} {n_TURNS : Nat} (g_TURNS : PySem.W.nsIn K mainGlobals "TURNS" = some (some (.ref o_TURNS))) (l_TURNS : K.lookup o_TURNS = some ⟨.type "dict", none, .dict e_TURNS n_TURNS, #[]⟩) (i_TURNS : PySem.W.KeysLit w.params e_TURNS.toList) (j_TURNS : (o_TURNS == sysModules) = false)
    {t0_TURNS : Tok} (v0_TURNS : PySem.W.nsIn K o_TURNS "behind" = some (some (.str "ahead" t0_TURNS)))
    {t1_TURNS : Tok} (v1_TURNS : PySem.W.nsIn K o_TURNS "ahead" = some (some (.str "behind" t1_TURNS)))
    {t2_TURNS : Tok} (v2_TURNS : PySem.W.nsIn K o_TURNS "with" = some (some (.str "with" t2_TURNS)))
    : ∃ fd : FuncData, (∀ (s : Shared) (v : Value), BindsTo s fd ⟨[v], []⟩ [("_law_script", v)]) ∧ ∀ base : Heap, K.In base → base.Ns mainGlobals mg → FnOk P w K mg base CX0 15 fa fd ["_law_script"] (spLaw K) := by
  have e := hfa.symm.trans (PySem.W.mg_of X G a29)
  cases e
  let T : Txt w K mg := {
    a_is_letter := f0, d_is_letter := _, F_is_letter := fun_mk (st := s_is_letter) l0 c0 k0, m_is_letter := PySem.W.mg_of X G a0, B_is_letter := (fun_mk (st := s_is_letter) l0 c0 k0).binds (ps := P_is_letter) (fun _ _ _ _ _ _ us hl => match us, hl with | [_], _ => rfl),
    a_wrong_part := f1, d_wrong_part := _, F_wrong_part := fun_mk (st := s_wrong_part) l1 c1 k1, m_wrong_part := PySem.W.mg_of X G a1, B_wrong_part := (fun_mk (st := s_wrong_part) l1 c1 k1).binds (ps := P_wrong_part) (fun _ _ _ _ _ _ us hl => match us, hl with | [_], _ => rfl),
    a_checked_kind := f2, d_checked_kind := _, F_checked_kind := fun_mk (st := s_checked_kind) l2 c2 k2, m_checked_kind := PySem.W.mg_of X G a2, B_checked_kind := (fun_mk (st := s_checked_kind) l2 c2 k2).binds (ps := P_checked_kind) (fun _ _ _ _ _ _ us hl => match us, hl with | [_], _ => rfl),
    a_checked_kinds := f3, d_checked_kinds := _, F_checked_kinds := fun_mk (st := s_checked_kinds) l3 c3 k3, m_checked_kinds := PySem.W.mg_of X G a3, B_checked_kinds := (fun_mk (st := s_checked_kinds) l3 c3 k3).binds (ps := P_checked_kinds) (fun _ _ _ _ _ _ us hl => match us, hl with | [_], _ => rfl),
    a_checked_row := f4, d_checked_row := _, F_checked_row := fun_mk (st := s_checked_row) l4 c4 k4, m_checked_row := PySem.W.mg_of X G a4, B_checked_row := (fun_mk (st := s_checked_row) l4 c4 k4).binds (ps := P_checked_row) (fun _ _ _ _ _ _ us hl => match us, hl with | [_], _ => rfl),
    a_single := f5, d_single := _, F_single := fun_mk (st := s_single) l5 c5 k5, m_single := PySem.W.mg_of X G a5, B_single := (fun_mk (st := s_single) l5 c5 k5).binds (ps := P_single) (fun _ _ _ _ _ _ us hl => match us, hl with | [_], _ => rfl),
    a_letters_of := f6, d_letters_of := _, F_letters_of := fun_mk (st := s_letters_of) l6 c6 k6, m_letters_of := PySem.W.mg_of X G a6, B_letters_of := (fun_mk (st := s_letters_of) l6 c6 k6).binds (ps := P_letters_of) (fun _ _ _ _ _ _ us hl => match us, hl with | [_], _ => rfl),
    a_depth_of := f7, d_depth_of := _, F_depth_of := fun_mk (st := s_depth_of) l7 c7 k7, m_depth_of := PySem.W.mg_of X G a7, B_depth_of := (fun_mk (st := s_depth_of) l7 c7 k7).binds (ps := P_depth_of) (fun _ _ _ _ _ _ us hl => match us, hl with | [_], _ => rfl),
    a_turned_kind := f8, d_turned_kind := _, F_turned_kind := fun_mk (st := s_turned_kind) l8 c8 k8, m_turned_kind := PySem.W.mg_of X G a8, B_turned_kind := (fun_mk (st := s_turned_kind) l8 c8 k8).binds (ps := P_turned_kind) (fun _ _ _ _ _ _ us hl => match us, hl with | [_], _ => rfl),
    a_signed := f9, d_signed := _, F_signed := fun_mk (st := s_signed) l9 c9 k9, m_signed := PySem.W.mg_of X G a9, B_signed := (fun_mk (st := s_signed) l9 c9 k9).binds (ps := P_signed) (fun _ _ _ _ _ _ us hl => match us, hl with | [_, _], _ => rfl),
    a_row_signed := f10, d_row_signed := _, F_row_signed := fun_mk (st := s_row_signed) l10 c10 k10, m_row_signed := PySem.W.mg_of X G a10, B_row_signed := (fun_mk (st := s_row_signed) l10 c10 k10).binds (ps := P_row_signed) (fun _ _ _ _ _ _ us hl => match us, hl with | [_], _ => rfl),
    a_cancelled := f11, d_cancelled := _, F_cancelled := fun_mk (st := s_cancelled) l11 c11 k11, m_cancelled := PySem.W.mg_of X G a11, B_cancelled := (fun_mk (st := s_cancelled) l11 c11 k11).binds (ps := P_cancelled) (fun _ _ _ _ _ _ us hl => match us, hl with | [_], _ => rfl),
    a_letters := f12, d_letters := _, F_letters := fun_mk (st := s_letters) l12 c12 k12, m_letters := PySem.W.mg_of X G a12, B_letters := (fun_mk (st := s_letters) l12 c12 k12).binds (ps := P_letters) (fun _ _ _ _ _ _ us hl => match us, hl with | [_], _ => rfl),
    a_size := f13, d_size := _, F_size := fun_mk (st := s_size) l13 c13 k13, m_size := PySem.W.mg_of X G a13, B_size := (fun_mk (st := s_size) l13 c13 k13).binds (ps := P_size) (fun _ _ _ _ _ _ us hl => match us, hl with | [_], _ => rfl),
    a_depth := f14, d_depth := _, F_depth := fun_mk (st := s_depth) l14 c14 k14, m_depth := PySem.W.mg_of X G a14, B_depth := (fun_mk (st := s_depth) l14 c14 k14).binds (ps := P_depth) (fun _ _ _ _ _ _ us hl => match us, hl with | [_], _ => rfl),
    a_is_single := f15, d_is_single := _, F_is_single := fun_mk (st := s_is_single) l15 c15 k15, m_is_single := PySem.W.mg_of X G a15, B_is_single := (fun_mk (st := s_is_single) l15 c15 k15).binds (ps := P_is_single) (fun _ _ _ _ _ _ us hl => match us, hl with | [_], _ => rfl),
    a_turned := f16, d_turned := _, F_turned := fun_mk (st := s_turned) l16 c16 k16, m_turned := PySem.W.mg_of X G a16, B_turned := (fun_mk (st := s_turned) l16 c16 k16).binds (ps := P_turned) (fun _ _ _ _ _ _ us hl => match us, hl with | [_], _ => rfl),
    K_turned := kb_one (fun_mk (st := s_turned) l16 c16 k16) fun _ _ _ _ _ _ _ => rfl,
    a_turned_row := f17, d_turned_row := _, F_turned_row := fun_mk (st := s_turned_row) l17 c17 k17, m_turned_row := PySem.W.mg_of X G a17, B_turned_row := (fun_mk (st := s_turned_row) l17 c17 k17).binds (ps := P_turned_row) (fun _ _ _ _ _ _ us hl => match us, hl with | [_], _ => rfl),
    K_turned_row := kb_one (fun_mk (st := s_turned_row) l17 c17 k17) fun _ _ _ _ _ _ _ => rfl,
    a_balance := f18, d_balance := _, F_balance := fun_mk (st := s_balance) l18 c18 k18, m_balance := PySem.W.mg_of X G a18, B_balance := (fun_mk (st := s_balance) l18 c18 k18).binds (ps := P_balance) (fun _ _ _ _ _ _ us hl => match us, hl with | [_], _ => rfl),
    a_word := f19, d_word := _, F_word := fun_mk (st := s_word) l19 c19 k19, m_word := PySem.W.mg_of X G a19, B_word := (fun_mk (st := s_word) l19 c19 k19).binds (ps := P_word) (fun _ _ _ _ _ _ us hl => match us, hl with | [_], _ => rfl),
    a_begun := f20, d_begun := _, F_begun := fun_mk (st := s_begun) l20 c20 k20, m_begun := PySem.W.mg_of X G a20, B_begun := (fun_mk (st := s_begun) l20 c20 k20).binds (ps := P_begun) (fun _ _ _ _ _ _ us hl => match us, hl with | [_], _ => rfl),
    a_pick := f21, d_pick := _, F_pick := fun_mk (st := s_pick) l21 c21 k21, m_pick := PySem.W.mg_of X G a21, B_pick := (fun_mk (st := s_pick) l21 c21 k21).binds (ps := P_pick) (fun _ _ _ _ _ _ us hl => match us, hl with | [_, _], _ => rfl),
    a_alike := f22, d_alike := _, F_alike := fun_mk (st := s_alike) l22 c22 k22, m_alike := PySem.W.mg_of X G a22, B_alike := (fun_mk (st := s_alike) l22 c22 k22).binds (ps := P_alike) (fun _ _ _ _ _ _ us hl => match us, hl with | [_, _], _ => rfl),
    a_pool := f23, d_pool := _, F_pool := fun_mk (st := s_pool) l23 c23 k23, m_pool := PySem.W.mg_of X G a23, B_pool := (fun_mk (st := s_pool) l23 c23 k23).binds (ps := P_pool) (fun _ _ _ _ _ _ us hl => match us, hl with | [_], _ => rfl),
    a_grown := f24, d_grown := _, F_grown := fun_mk (st := s_grown) l24 c24 k24, m_grown := PySem.W.mg_of X G a24, B_grown := (fun_mk (st := s_grown) l24 c24 k24).binds (ps := P_grown) (fun _ _ _ _ _ _ us hl => match us, hl with | [_, _, _, _, _], _ => rfl),
    a_places := f25, d_places := _, F_places := fun_mk (st := s_places) l25 c25 k25, m_places := PySem.W.mg_of X G a25, B_places := (fun_mk (st := s_places) l25 c25 k25).binds (ps := P_places) (fun _ _ _ _ _ _ us hl => match us, hl with | [_], _ => rfl),
    a_mirror := f26, d_mirror := _, F_mirror := fun_mk (st := s_mirror) l26 c26 k26, m_mirror := PySem.W.mg_of X G a26, B_mirror := (fun_mk (st := s_mirror) l26 c26 k26).binds (ps := P_mirror) (fun _ _ _ _ _ _ us hl => match us, hl with | [_], _ => rfl),
    a_row := f27, d_row := _, F_row := fun_mk (st := s_row) l27 c27 k27, m_row := PySem.W.mg_of X G a27, B_row := (fun_mk (st := s_row) l27 c27 k27).binds (ps := P_row) (fun _ _ _ _ _ _ us hl => match us, hl with | [_], _ => rfl),
    a_of_kind := f28, d_of_kind := _, F_of_kind := fun_mk (st := s_of_kind) l28 c28 k28, m_of_kind := PySem.W.mg_of X G a28, B_of_kind := (fun_mk (st := s_of_kind) l28 c28 k28).binds (ps := P_of_kind) (fun _ _ _ _ _ _ us hl => match us, hl with | [_], _ => rfl),
    a_law := fa, d_law := _, F_law := fun_mk (st := s_law) l29 c29 k29, m_law := PySem.W.mg_of X G a29, B_law := (fun_mk (st := s_law) l29 c29 k29).binds (ps := P_law) (fun _ _ _ _ _ _ us hl => match us, hl with | [_], _ => rfl),
    b_bool := PySem.W.mg_none_of X G z_bool,
    b_int := PySem.W.mg_none_of X G z_int,
    b_isinstance := PySem.W.mg_none_of X G z_isinstance,
    b_len := PySem.W.mg_none_of X G z_len,
    b_list := PySem.W.mg_none_of X G z_list,
    b_max := PySem.W.mg_none_of X G z_max,
    b_min := PySem.W.mg_none_of X G z_min,
    b_range := PySem.W.mg_none_of X G z_range,
    b_set := PySem.W.mg_none_of X G z_set,
    b_sorted := PySem.W.mg_none_of X G z_sorted,
    b_str := PySem.W.mg_none_of X G z_str,
    b_tuple := PySem.W.mg_none_of X G z_tuple,
    b_zip := PySem.W.mg_none_of X G z_zip,
    t_LETTERS := t_LETTERS, g_LETTERS := PySem.W.mg_of X G g_LETTERS,
    o_TURNS := o_TURNS, e_TURNS := e_TURNS, n_TURNS := n_TURNS, g_TURNS := PySem.W.mg_of X G g_TURNS, D_TURNS := ⟨l_TURNS, i_TURNS, j_TURNS⟩,
    t0_TURNS := t0_TURNS, v0_TURNS := v0_TURNS,
    t1_TURNS := t1_TURNS, v1_TURNS := v1_TURNS,
    t2_TURNS := t2_TURNS, v2_TURNS := v2_TURNS }
  exact ⟨T.d_law, fun s v => .of_eq rfl, fun base _ _ => ok_law (P := P) (base := base) T⟩
end K02

open PySem PySem.W PyProof.Rows L2
set_option maxRecDepth 100000 in
set_option maxHeartbeats 0 in
theorem PySem.Challenge.cw_waitwords_k02_whole_turned_kinds_holds : PySem.Challenge.rw_waitwords_k02_whole_turned_kinds.Holds := by
  w_on; o_law; k_head; (case hw => w_witness2)
  k_fill
  refine L2.walk_ofK (l := PySem.Challenge.rw_waitwords_k02_whole_turned_kinds) (n := 63) (k := 15) (x := "_law_script") (CX := CX0) (sp := K02.spLaw) rfl (by decide) rfl ⟨rfl, by decide, by decide⟩ (fun w h Y => PySem.W.kIn_of Y) ?F (fun _ _ a ns hl _ hS => ⟨a, ns, rfl, hS, hl, fun _ => rfl⟩) fun _ _ _ _ z => z
  case F =>
    intro w mg fa h KX G hmg
    refine' K02.all_mk KX G hmg ?a0 ?l0 ?c0 ?k0 ?a1 ?l1 ?c1 ?k1 ?a2 ?l2 ?c2 ?k2 ?a3 ?l3 ?c3 ?k3 ?a4 ?l4 ?c4 ?k4 ?a5 ?l5 ?c5 ?k5 ?a6 ?l6 ?c6 ?k6 ?a7 ?l7 ?c7 ?k7 ?a8 ?l8 ?c8 ?k8 ?a9 ?l9 ?c9 ?k9 ?a10 ?l10 ?c10 ?k10 ?a11 ?l11 ?c11 ?k11 ?a12 ?l12 ?c12 ?k12 ?a13 ?l13 ?c13 ?k13 ?a14 ?l14 ?c14 ?k14 ?a15 ?l15 ?c15 ?k15 ?a16 ?l16 ?c16 ?k16 ?a17 ?l17 ?c17 ?k17 ?a18 ?l18 ?c18 ?k18 ?a19 ?l19 ?c19 ?k19 ?a20 ?l20 ?c20 ?k20 ?a21 ?l21 ?c21 ?k21 ?a22 ?l22 ?c22 ?k22 ?a23 ?l23 ?c23 ?k23 ?a24 ?l24 ?c24 ?k24 ?a25 ?l25 ?c25 ?k25 ?a26 ?l26 ?c26 ?k26 ?a27 ?l27 ?c27 ?k27 ?a28 ?l28 ?c28 ?k28 ?a29 ?l29 ?c29 ?k29 ?z_bool ?z_int ?z_isinstance ?z_len ?z_list ?z_max ?z_min ?z_range ?z_set ?z_sorted ?z_str ?z_tuple ?z_zip ?g_LETTERS ?g_TURNS ?l_TURNS ?i_TURNS ?j_TURNS ?v0_TURNS ?v1_TURNS ?v2_TURNS
    (case a0 => k_is); (case l0 => k_is); (case c0 => k_is); (case k0 => k_is)
    (case a1 => k_is); (case l1 => k_is); (case c1 => k_is); (case k1 => k_is)
    (case a2 => k_is); (case l2 => k_is); (case c2 => k_is); (case k2 => k_is)
    (case a3 => k_is); (case l3 => k_is); (case c3 => k_is); (case k3 => k_is)
    (case a4 => k_is); (case l4 => k_is); (case c4 => k_is); (case k4 => k_is)
    (case a5 => k_is); (case l5 => k_is); (case c5 => k_is); (case k5 => k_is)
    (case a6 => k_is); (case l6 => k_is); (case c6 => k_is); (case k6 => k_is)
    (case a7 => k_is); (case l7 => k_is); (case c7 => k_is); (case k7 => k_is)
    (case a8 => k_is); (case l8 => k_is); (case c8 => k_is); (case k8 => k_is)
    (case a9 => k_is); (case l9 => k_is); (case c9 => k_is); (case k9 => k_is)
    (case a10 => k_is); (case l10 => k_is); (case c10 => k_is); (case k10 => k_is)
    (case a11 => k_is); (case l11 => k_is); (case c11 => k_is); (case k11 => k_is)
    (case a12 => k_is); (case l12 => k_is); (case c12 => k_is); (case k12 => k_is)
    (case a13 => k_is); (case l13 => k_is); (case c13 => k_is); (case k13 => k_is)
    (case a14 => k_is); (case l14 => k_is); (case c14 => k_is); (case k14 => k_is)
    (case a15 => k_is); (case l15 => k_is); (case c15 => k_is); (case k15 => k_is)
    (case a16 => k_is); (case l16 => k_is); (case c16 => k_is); (case k16 => k_is)
    (case a17 => k_is); (case l17 => k_is); (case c17 => k_is); (case k17 => k_is)
    (case a18 => k_is); (case l18 => k_is); (case c18 => k_is); (case k18 => k_is)
    (case a19 => k_is); (case l19 => k_is); (case c19 => k_is); (case k19 => k_is)
    (case a20 => k_is); (case l20 => k_is); (case c20 => k_is); (case k20 => k_is)
    (case a21 => k_is); (case l21 => k_is); (case c21 => k_is); (case k21 => k_is)
    (case a22 => k_is); (case l22 => k_is); (case c22 => k_is); (case k22 => k_is)
    (case a23 => k_is); (case l23 => k_is); (case c23 => k_is); (case k23 => k_is)
    (case a24 => k_is); (case l24 => k_is); (case c24 => k_is); (case k24 => k_is)
    (case a25 => k_is); (case l25 => k_is); (case c25 => k_is); (case k25 => k_is)
    (case a26 => k_is); (case l26 => k_is); (case c26 => k_is); (case k26 => k_is)
    (case a27 => k_is); (case l27 => k_is); (case c27 => k_is); (case k27 => k_is)
    (case a28 => k_is); (case l28 => k_is); (case c28 => k_is); (case k28 => k_is)
    (case a29 => k_is); (case l29 => k_is); (case c29 => k_is); (case k29 => k_is)
    (case z_bool => k_is); (case z_int => k_is); (case z_isinstance => k_is); (case z_len => k_is)
    (case z_list => k_is); (case z_max => k_is); (case z_min => k_is); (case z_range => k_is)
    (case z_set => k_is); (case z_sorted => k_is); (case z_str => k_is); (case z_tuple => k_is)
    (case z_zip => k_is); (case g_LETTERS => k_is); (case g_TURNS => k_is); (case l_TURNS => k_is)
    (case i_TURNS => exact ⟨⟨_, _, rfl, rfl⟩, ⟨_, _, rfl, rfl⟩, ⟨_, _, rfl, rfl⟩, trivial⟩); (case j_TURNS => decide +kernel); (case v0_TURNS => k_is); (case v1_TURNS => k_is)
    (case v2_TURNS => k_is)
