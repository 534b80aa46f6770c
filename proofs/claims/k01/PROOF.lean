import PyProof.Rows.All
import Wide.All
import OpenK.AllK
import Wide.FinOn
import HandS.ForMost
import HandS.Wide
import HandS.IsInst
import HandS.Zip
import HandS.SetTxt0
import HandS.Strs
import HandS.Style
import HandS.Evl
import PyProof.Rows.SortStr
import PyProof.Rows.SetFrom
import HandS.SetFor
import KE.KxText
import PySem.Challenge.RW_waitwords_k01_letters_size_depth_single
set_option Elab.async false
set_option linter.all false
set_option maxRecDepth 100000
set_option maxHeartbeats 4000000
namespace Ww
open PySem PySem.Spec PyProof.Rows L2

/-! ### calls by keywords alone -/
/-- how the keywords' values come to the parameters -/
structure KB0 (K : PySem.W.Frag) (fd : FuncData) (ps ks : List Str) (g : List Value → List Value) (gV : List V → List V) : Prop where
  to : ∀ (s : Shared) (ws : List Value), ws.length = ks.length → BindsTo s fd ⟨[], ks.zip ws⟩ (ps.zip (g ws))
  rel : ∀ {zs : List V} {ws : List Value}, Vals zs ws → Vals (gV zs) (g ws)
section
variable {X : Cx} {CX : CXT} {k : Nat} {f : Addr} {fd : FuncData} {ps ks : List Str} {sp : Sp} {E : XK} {x : Str} {p pos : Pos} {kws : List Keyword} {tk : TA} {g : List Value → List Value} {gV : List V → List V}
def tCallQ (n : Nat) (sp : Sp) (gV : List V → List V) (E : XK) (tk : TA) : TE := fun σ H Q => tk σ H fun zs H2 => zs.length = n ∧ sp (gV zs) H2 Q E
theorem pe_callQ (F : FnOk X.prog X.w X.K X.mg X.base CX k f fd ps sp) (hr : Room k X.A) (hg : Gl X x) (hm : X.mg x = some (.ref f)) (hk : PySem.W.keepIn X.K (.ref f) = true) (hb : KB0 X.K fd ps ks g gV) (hx : Passes CX X E)
    (hkw : PK X kws tk) (hall : (backToKw pos (keywordEach kws X.env)).all (·.1.isSome) = true := by rfl) (hks : (backToKw pos (keywordEach kws X.env)).filterMap (·.1) = ks := by rfl)
    (hdb : (x == ("__debug__" : Str)) = false := by decide)
    (hpl : ((backTo pos (starEach [] X.env)).any (·.1) || (backToKw pos (keywordEach kws X.env)).any (·.1.isNone)) = false := by rfl) :
    PE X (.Call (.Name x p) [] kws pos) (tCallQ ks.length sp gV E tk) := by
  refine ⟨fun pins s σ H Q I h => ?_⟩
  refine wpAny_Call_Name_kw (ld_glob I hg hm ?_ hdb)
  refine PySem.W.callWith_KW0 (h₀ := X.base) I.ok.mod.kin hk hall (thn (hkw.run pos pins s σ H _ I h) fun ws s2 ⟨zs, H2, I2, rz, hl, q2⟩ => ⟨I2.kIn, ?_⟩) hpl
  rw [hks]
  refine wpAny_call (codeAny_mono (F.run X.A X.stack s2 H2 ⟨[], ks.zip ws⟩ (g ws) (gV zs) Q E hr I2.env0 (hb.to s2 ws (rz.length.symm.trans hl)) (hb.rel rz) q2) fun r s' hq => ?_)
  match r, hq with
  | .error e, hq => exact hx pins σ H2 s2 e s' I2 hq
  | .ok (.ret u), hq => exact I2.after hq
  | .ok .next, hq => exact hq.elim
  | .ok .brk, hq => exact hq.elim
  | .ok .cont, hq => exact hq.elim
/-- one keyword, the def's one parameter -/
theorem kb_one {K : PySem.W.Frag} {x qual y : Str} {st : Stmt} {f : Addr} {fd : FuncData} (F : Fun K x qual st f fd)
    (h : ∀ (kV doc pm : Value) (an : Option Addr) (cdv ct u : Value), bindArgs (PySem.W.fnOf x qual (defArgs st) (defBody st) (defScope st) .none kV doc pm an cdv ct) ⟨[], [(y, u)]⟩ = pure [(y, u)]) :
    KB0 K fd [y] [y] (fun ws => ws) (fun zs => zs) := by
  obtain ⟨oc, od, kV, doc, pm, an, cdv, ct, osl, rfl, lk, hcd⟩ := F.ex
  refine ⟨fun s ws hl => ?_, fun r => r⟩
  match ws, hl with
  | [u], _ => exact .of_eq (h kV doc pm an cdv ct u)
end

/-! ### heaps -/
theorem same_new {H : Hp} {p : Addr} (h : H p = none) (o : HO) : Same H (upd H p o) := fun b u q => by
  rw [upd_ne (ne_of_none q h)]
  exact q
theorem Same.at {H H' : Hp} {a : Addr} {o : HO} (e : Same H H') (h : H a = some o) : H' a = some o := e a o h
/-- the tuples stand -/
def Tps (H H' : Hp) : Prop := ∀ b xs, H b = some (.tup xs) → H' b = some (.tup xs)
theorem Tps.refl (H : Hp) : Tps H H := fun _ _ h => h
theorem Tps.trans {H H1 H2 : Hp} (a : Tps H H1) (b : Tps H1 H2) : Tps H H2 := fun c o h => b c o (a c o h)
theorem Tps.of {H H' : Hp} (e : Same H H') : Tps H H' := fun b xs h => e b _ h
theorem Tps.lst {H : Hp} {a : Addr} {xs : List V} {o : HO} (h : H a = some (.lst xs)) : Tps H (upd H a o) := fun b ys q => by
  rw [upd_ne (ne_of q h (fun z => by cases z))]
  exact q
theorem Tps.new {H : Hp} {a : Addr} {o : HO} (h : H a = none) : Tps H (upd H a o) := .of (same_new h o)
/-- all but a stands -/
def But (a : Addr) (H H' : Hp) : Prop := ∀ b o, b ≠ a → H b = some o → H' b = some o
theorem But.refl (a : Addr) (H : Hp) : But a H H := fun _ _ _ h => h
theorem But.trans {a : Addr} {H H1 H2 : Hp} (x : But a H H1) (y : But a H1 H2) : But a H H2 := fun c o n h => y c o n (x c o n h)
theorem But.of {a : Addr} {H H' : Hp} (e : Same H H') : But a H H' := fun b o _ h => e b o h
theorem But.upd {a : Addr} {H : Hp} {o : HO} : But a H (upd H a o) := fun b u n h => by
  rw [upd_ne n]
  exact h
theorem But.new {a p : Addr} {H : Hp} {o : HO} (h : H p = none) : But a H (L2.upd H p o) := .of (same_new h o)
theorem But.tps {a : Addr} {H H' : Hp} {xs : List V} (e : But a H H') (h : H a = some (.lst xs)) : Tps H H' := fun b ys q => e b _ (ne_of q h (fun z => by cases z)) q
/-- what H does not know is not told of H' either, if H' is behind it: backwards -/
theorem free_of {H H' : Hp} (e : Same H H') {l : Addr} (h : H' l = none) : H l = none := e.free h

/-! ### kinds -/
inductive Kd where
  | pl (s : Str)
  | nd (f : Str) (a b : Kd)
def KAt (H : Hp) : V → Kd → Prop
  | v, .pl s => ∃ p, v = .ref p ∧ H p = some (.tup [.str "plain", .str s])
  | v, .nd f a b => ∃ p x y, v = .ref p ∧ H p = some (.tup [.str f, x, y]) ∧ KAt H x a ∧ KAt H y b
theorem KAt.mono {H H' : Hp} (e : Tps H H') : ∀ {k : Kd} {v : V}, KAt H v k → KAt H' v k
  | .pl _, _, ⟨p, q, h⟩ => ⟨p, q, e _ _ h⟩
  | .nd _ _ _, _, ⟨p, x, y, q, h, h1, h2⟩ => ⟨p, x, y, q, e _ _ h, KAt.mono e h1, KAt.mono e h2⟩
/-- a letter from a to z -/
def Let (s : Str) : Prop := ∃ c : Nat, s = ⟨#[c]⟩ ∧ 97 ≤ c ∧ c ≤ 122
def Form (f : Str) : Prop := f = "behind" ∨ f = "ahead" ∨ f = "with"
def Kd.ok : Kd → Prop
  | .pl s => Let s
  | .nd f a b => Form f ∧ a.ok ∧ b.ok
def Kd.deep : Kd → Nat
  | .pl _ => 1
  | .nd _ a b => 1 + max a.deep b.deep
def Kd.letters : Kd → List Str
  | .pl s => [s]
  | .nd _ a b => a.letters ++ b.letters
def Kd.single : Kd → Bool
  | .pl _ => true
  | .nd f a b => !decide (f = "with") && (a.single && b.single)
theorem Kd.deep_pos : ∀ k : Kd, 1 ≤ k.deep
  | .pl _ => Nat.le_refl 1
  | .nd _ a b => by show 1 ≤ 1 + max a.deep b.deep; omega
theorem Kd.letters_pos : ∀ k : Kd, 1 ≤ k.letters.length
  | .pl _ => Nat.le_refl 1
  | .nd _ a b => by
    show 1 ≤ (a.letters ++ b.letters).length
    have := Kd.letters_pos a
    rw [List.length_append]
    omega
/-- as data -/
def Kd.dat : Kd → PyData
  | .pl s => .tuple [.str "plain", .str s]
  | .nd f a b => .tuple [.str f, a.dat, b.dat]
theorem KAt.dp {K : PySem.W.Frag} {H : Hp} : ∀ {k : Kd} {v : V}, KAt H v k → Dp K H v k.dat
  | .pl _, _, ⟨p, q, h⟩ => by
    subst q
    exact .tup (SqT.of h) (.cons (.str _) (.cons (.str _) .nil))
  | .nd _ _ _, _, ⟨p, x, y, q, h, h1, h2⟩ => by
    subst q
    exact .tup (SqT.of h) (.cons (.str _) (.cons h1.dp (.cons h2.dp .nil)))

/-! ### data -/
mutual
theorem dp_same {K : PySem.W.Frag} {H H' : Hp} (e : Same H H') : ∀ {d : PyData} {v : V}, Dp K H v d → Dp K H' v d
  | .none, _, h => by
    cases h
    exact .non
  | .bool _, _, h => by
    cases h
    exact .bl _
  | .int _, _, h => by
    cases h
    exact .int _
  | .str _, _, h => by
    cases h
    exact .str _
  | .list _, _, h => by
    cases h with
    | lst hs ha => exact .lst (e.seq hs) (dps_same e ha)
  | .tuple _, _, h => by
    cases h with
    | tup hs ha => exact .tup (Evl.ex_t e hs) (dps_same e ha)
  | .dict _, _, h => by cases h
theorem dps_same {K : PySem.W.Frag} {H H' : Hp} (e : Same H H') : ∀ {ds : List PyData} {vs : List V}, DpAll K H vs ds → DpAll K H' vs ds
  | [], _, h => by
    cases h
    exact .nil
  | _ :: _, _, h => by
    cases h with
    | cons h1 h2 => exact .cons (dp_same e h1) (dps_same e h2)
end
end Ww

namespace Ww
open PySem PySem.Spec PyProof.Rows L2 PySem.Froz

/-! ### texts in strict order -/
/-- a is xs without doubles, ascending -/
structure Srt (xs a : List Str) : Prop where
  up : a.Pairwise fun x y => x.cps.toList < y.cps.toList
  mem : ∀ k, k ∈ a ↔ k ∈ xs
theorem str_ext {x y : Str} (h : x.cps.toList = y.cps.toList) : x = y := by
  cases x with
  | mk a =>
    cases y with
    | mk b =>
      have e : a = b := Array.ext' h
      rw [e]
theorem up_unique {α : Type} {R : α → α → Prop} (irr : ∀ x, ¬ R x x) (asy : ∀ x y, R x y → ¬ R y x) : ∀ {a b : List α}, a.Pairwise R → b.Pairwise R → (∀ k, k ∈ a ↔ k ∈ b) → a = b
  | [], [], _, _, _ => rfl
  | [], y :: b, _, _, m => absurd ((m y).2 List.mem_cons_self) (by simp)
  | x :: a, [], _, _, m => absurd ((m x).1 List.mem_cons_self) (by simp)
  | x :: a, y :: b, ha, hb, m => by
    obtain ⟨a1, a2⟩ := List.pairwise_cons.mp ha
    obtain ⟨b1, b2⟩ := List.pairwise_cons.mp hb
    have e : x = y := by
      rcases List.mem_cons.mp ((m x).1 List.mem_cons_self) with e | hx
      · exact e
      · rcases List.mem_cons.mp ((m y).2 List.mem_cons_self) with e | hy
        · exact e.symm
        · exact absurd (a1 y hy) (asy _ _ (b1 x hx))
    subst e
    congr 1
    refine up_unique irr asy a2 b2 fun k => ⟨fun hk => ?_, fun hk => ?_⟩
    · rcases List.mem_cons.mp ((m k).1 (List.mem_cons_of_mem _ hk)) with e | h
      · subst e
        exact absurd (a1 _ hk) (irr _)
      · exact h
    · rcases List.mem_cons.mp ((m k).2 (List.mem_cons_of_mem _ hk)) with e | h
      · subst e
        exact absurd (b1 _ hk) (irr _)
      · exact h
theorem lt_irr (x : List Nat) : ¬ x < x := List.lt_irrefl x
theorem Srt.eq {xs a b : List Str} (h : Srt xs a) (k : Srt xs b) : a = b :=
  up_unique (R := fun x y : Str => x.cps.toList < y.cps.toList) (fun x => lt_irr _) (fun x y h1 h2 => List.lt_asymm h1 h2) h.up k.up fun z => (h.mem z).trans (k.mem z).symm
theorem Srt.same {xs ys a : List Str} (h : Srt xs a) (e : ∀ k, k ∈ xs ↔ k ∈ ys) : Srt ys a := ⟨h.up, fun k => (h.mem k).trans (e k)⟩
theorem Srt.nodup {xs a : List Str} (h : Srt xs a) : a.Nodup := h.up.imp fun {x y} q e => by
  subst e
  exact lt_irr _ q
theorem rises {p : Str} : ∀ {l : List Str}, risingS p l = true → (p :: l).Pairwise fun x y => ¬ y.cps.toList < x.cps.toList
  | [], _ => List.pairwise_singleton _ _
  | x :: r, h => by
    unfold risingS at h
    rw [Bool.and_eq_true] at h
    have h1 : ¬ x.cps.toList < p.cps.toList := by
      have z := h.1
      rw [ltCps_eq] at z
      simpa using z
    have ih := rises h.2
    refine List.pairwise_cons.mpr ⟨fun y hy => ?_, ih⟩
    rcases List.mem_cons.mp hy with e | hy
    · subst e
      exact h1
    · have h2 := (List.pairwise_cons.mp ih).1 y hy
      exact List.not_lt.mpr (List.le_trans (List.not_lt.mp h1) (List.not_lt.mp h2))
theorem srt_of {xs a : List Str} (hs : sortedS a = true) (nd : a.Nodup) (m : ∀ k, k ∈ a ↔ k ∈ xs) : Srt xs a := by
  refine ⟨?_, m⟩
  have h : a.Pairwise fun x y => ¬ y.cps.toList < x.cps.toList := by
    cases a with
    | nil => exact List.Pairwise.nil
    | cons p l => exact rises hs
  refine (List.pairwise_iff_getElem.mpr fun i j hi hj hij => ?_)
  have h1 := List.pairwise_iff_getElem.mp h i j hi hj hij
  have h2 : a[i] ≠ a[j] := List.pairwise_iff_getElem.mp nd i j hi hj hij
  rcases Decidable.em (a[i].cps.toList < a[j].cps.toList) with z | z
  · exact z
  · exact absurd (str_ext (List.le_antisymm (List.not_lt.mp h1) (List.not_lt.mp z))) h2

/-! ### a set of texts -/
/-- the set at a holds the texts l (each once, in some order); it can be walked -/
def SetS (P : Program) (w : World) (h : Heap) (a : Addr) (l : List Str) : Prop :=
  ∃ D : SD, h.get? a = some (sObj "set" D) ∧ TxOk P w D l ∧ l.Nodup ∧ Ris D.2.2.place.toList ∧ (w.params.followText "set-order" = true ∨ D.2.2.led = true)
section
variable {P : Program} {w : World} {h h' : Heap} {a : Addr} {l : List Str}
theorem SetS.at (R : SetS P w h a l) (k : ∀ o, h.get? a = some o → h'.get? a = some o) : SetS P w h' a l := by
  obtain ⟨D, ho, r⟩ := R
  exact ⟨D, k _ ho, r⟩
theorem SetS.lt (R : SetS P w h a l) : a < h.objs.size := by
  obtain ⟨D, ho, _⟩ := R
  exact Heap.lt_size ho
theorem fresh_ris (led : Bool) : Ris (SetTable.fresh 0 0 led).place.toList := List.Pairwise.nil
theorem tail_ris {ep : Nat} {es : Array (Int × Value)} {t : SetTable} {d : Bool} (r : Ris t.place.toList) : Ris (tailTx ep es t d).2.2.place.toList := by
  unfold tailTx
  split
  · exact relayAll_ris _ _ _
  · exact r
theorem tail_led {ep : Nat} {es : Array (Int × Value)} {t : SetTable} {d : Bool} : (tailTx ep es t d).2.2.led = t.led := by
  unfold tailTx
  split
  · exact relayAll_led _ _ _
  · rfl
theorem off_ris {t : SetTable} (r : Ris t.place.toList) : Ris (if t.plain = true then { t with plain := false } else t).place.toList := by
  split <;> exact r
theorem off_led {t : SetTable} : (if t.plain = true then { t with plain := false } else t).led = t.led := by
  split <;> rfl
theorem add_ris {D : SD} {hs : Int} {v : Value} (r : Ris D.2.2.place.toList) : Ris (addTx hs v D).2.2.place.toList :=
  tail_ris (off_ris (layNew_ris D.2.2 D.1 hs v r))
theorem add_led {D : SD} {hs : Int} {v : Value} : (addTx hs v D).2.2.led = D.2.2.led :=
  tail_led.trans (off_led.trans (layNew_led D.2.2 D.1 hs v))
end
section
variable {P : Program} {w : World} {A : Around} {E : Value → Shared → Prop} {s : Shared} {a : Addr} {l : List Str}
/-- a text that the set holds, added once more -/
theorem add_old {D : SD} {k : Str} {u : Tok} {Q : Bool → Shared → Prop} (ho : s.heap.get? a = some (sObj "set" D)) (F : TxOk P w D l) (hk : k ∈ l) (hb : l.length < scanBound) (h : Q false s) :
    wpAny (model P w) A (setAddHashed a (.str k u) (hashStr w k)) Q E s := by
  obtain ⟨es, ep, t⟩ := D
  have hd : (sObj "set" (es, ep, t)).data = .set es ep t := rfl
  have hf : t.fits es.size = true := F.fit
  have hel : ElemsOf (strKind P w) es.toList := F.el
  have hb0 : es.size < scanBound := by
    have := F.sz
    simp only at this
    omega
  have hkey : (strKind P w).is k (.str k u) = true := is_str k u
  unfold setAddHashed setAddHashedIn
  refine wpAny_holding (wpAny_bind (wpAny_setState_of ho hd hf ?_))
  dsimp only
  rw [byScan_of rfl hb0 hel]
  simp only [↓reduceIte]
  unfold setAddByScan
  refine wpAny_bind (wpAny_bind (wpAny_rule (wpAny_bind (wpAny_setScan_of (knd := strKind P w) (k := k) hkey ho hd hf hel ?_))))
  cases hfi : List.findIdx? (fun e => (strKind P w).is k e.2) es.toList with
  | some j =>
    dsimp only
    exact wpAny_pure (wpAny_pure h)
  | none =>
    obtain ⟨e, he, q⟩ := (F.mem k).mp hk
    have c := List.findIdx?_eq_none_iff.mp hfi e he
    rw [q] at c
    cases c
theorem setS_add {k : Str} {u : Tok} {Q : Bool → Shared → Prop} (R : SetS P w s.heap a l) (hb : l.length + 1 < scanBound)
    (h : ∀ (h' : Heap) (b : Bool), Heap.SameBut a s.heap h' → SetS P w h' a (if k ∈ l then l else k :: l) → Q b { s with heap := h' }) :
    wpAny (model P w) A (setAddHashed a (.str k u) (hashStr w k)) Q E s := by
  obtain ⟨D, ho, F, nd, r, hl⟩ := R
  by_cases hk : k ∈ l
  · refine add_old ho F hk (by omega) ?_
    have q := h s.heap false (Heap.SameBut.refl a s.heap)
    rw [if_pos hk] at q
    exact q ⟨D, ho, F, nd, r, hl⟩
  · refine add_x ho F hk hb ?_
    have q := h _ true (Heap.SameBut.update s.heap a (fun _ => sObj "set" (addTx (hashStr w k) (.str k u) D)))
    rw [if_neg hk] at q
    exact q ⟨_, get_upd _ ho rfl, add_ok u F, List.nodup_cons.mpr ⟨hk, nd⟩, add_ris r, hl.imp id fun z => by rw [add_led]; exact z⟩
end
/-- what set(xs) holds -/
def dedup : List Str → List Str → List Str
  | l, [] => l
  | l, k :: r => dedup (if k ∈ l then l else k :: l) r
theorem mem_dedup : ∀ (xs l : List Str) (k : Str), k ∈ dedup l xs ↔ k ∈ l ∨ k ∈ xs
  | [], l, k => by simp [dedup]
  | x :: r, l, k => by
    unfold dedup
    rw [mem_dedup r]
    by_cases hx : x ∈ l
    · rw [if_pos hx, List.mem_cons]
      constructor
      · rintro (z | z)
        · exact .inl z
        · exact .inr (.inr z)
      · rintro (z | z | z)
        · exact .inl z
        · exact .inl (z ▸ hx)
        · exact .inr z
    · rw [if_neg hx, List.mem_cons, List.mem_cons]
      constructor
      · rintro ((z | z) | z)
        · exact .inr (.inl z)
        · exact .inl z
        · exact .inr (.inr z)
      · rintro (z | z | z)
        · exact .inl (.inr z)
        · exact .inl (.inl z)
        · exact .inr z
theorem dedup_len : ∀ (xs l : List Str), (dedup l xs).length ≤ l.length + xs.length
  | [], l => Nat.le_refl _
  | x :: r, l => by
    unfold dedup
    have h := dedup_len r (if x ∈ l then l else x :: l)
    have h2 : (if x ∈ l then l else x :: l).length ≤ l.length + 1 := by split <;> simp
    rw [List.length_cons]
    omega
theorem dedup_more (xs : List Str) : ∀ (l : List Str) (i : Nat) (x : Str), xs[i]? = some x → dedup l (xs.take (i + 1)) = (if x ∈ dedup l (xs.take i) then dedup l (xs.take i) else x :: dedup l (xs.take i)) := by
  induction xs with
  | nil => intro l i x h; simp at h
  | cons y r ih =>
    intro l i x h
    cases i with
    | zero =>
      have e : y = x := by simpa using h
      subst e
      rfl
    | succ i =>
      have h' : r[i]? = some x := by simpa using h
      show dedup (if y ∈ l then l else y :: l) (r.take (i + 1)) = _
      rw [ih _ i x h']
      rfl
end Ww

namespace Ww
open PySem PySem.Spec PyProof.Rows L2 PySem.Froz
theorem strs_ix : ∀ {us : List Value} {xs : List Str}, StrsAre us xs → ∀ (i : Nat) (v : Value), us[i]? = some v → ∃ k t, xs[i]? = some k ∧ v = .str k t
  | _, _, .nil, i, v, h => by simp at h
  | _, _, .cons y t _, 0, v, h => ⟨y, t, rfl, by simpa using h.symm⟩
  | _, _, .cons _ _ hr, i + 1, v, h => by
    obtain ⟨k, t, a, b⟩ := strs_ix hr i v (by simpa using h)
    exact ⟨k, t, by simpa using a, b⟩
theorem strs_len {us : List Value} {xs : List Str} (h : StrsAre us xs) : us.length = xs.length := by
  induction h with
  | nil => rfl
  | cons y t _ ih => rw [List.length_cons, List.length_cons, ih]
section
variable {P : Program} {w : World} {A : Around} {E : Value → Shared → Prop} {s : Shared}
theorem loop_strs {I : Addr} {fp wr : List Addr} {G : Array GenState → Array GenState → Prop} {n : Nat} {Pv : Nat → Value → Prop} {St : Nat → Shared → Prop} {R : Result → Shared → Prop}
    (W : WalksS P w A.in1 I fp wr G n Pv St) (S : Addr) (hf : S ∉ fp) (xs : List Str) (hn : n = xs.length) (hb : xs.length + 1 < scanBound)
    (hv : ∀ i v, Pv i v → ∃ k t, xs[i]? = some k ∧ v = .str k t) : ∀ (m i : Nat) (s : Shared), n - i = m → i ≤ n → St i s → SetS P w s.heap S (dedup [] (xs.take i)) →
      (∀ s', Moved (S :: wr) G s s' → SetS P w s'.heap S (dedup [] xs) → R (.ok (.ret .none)) s') →
      codeAny (model P w) A (.builtin "set.update.loop" ⟨[.ref S, .ref I], []⟩) R s := by
  have nw : S ∉ wr := fun z => hf (W.sub _ z)
  have up : ∀ b ∈ wr, b ∈ S :: wr := fun b z => List.mem_cons_of_mem _ z
  intro m
  induction m with
  | zero =>
    intro i s em hi st hS hR
    obtain rfl : i = n := by omega
    refine codeAny_builtin PyProof.Rows.F.entry_set_update_loop ?_
    rw [Around.under_plainId PyProof.Rows.F.plain_set_update_loop _]
    show wpAny _ A.in1 (pyNext (.ref I) >>= _) _ _ s
    refine wpAny_bind (W.done s _ _ st fun s' mv => ?_)
    show wpAny _ A.in1 (ret Value.none) _ _ s'
    rw [List.take_of_length_le (by omega)] at hS
    exact wpAny_pure (hR s' (mv.mono up) (hS.at fun o e => mv.heap S o nw e))
  | succ m ih =>
    intro i s em hi st hS hR
    have lt : i < n := by omega
    refine codeAny_builtin PyProof.Rows.F.entry_set_update_loop ?_
    rw [Around.under_plainId PyProof.Rows.F.plain_set_update_loop _]
    show wpAny _ A.in1 (pyNext (.ref I) >>= _) _ _ s
    refine wpAny_bind (W.item i s _ _ lt st fun v s1 hP st1 mv => ?_)
    obtain ⟨k, t, ek, rfl⟩ := hv i v hP
    have h1 : SetS P w s1.heap S (dedup [] (xs.take i)) := hS.at fun o e => mv.heap S o nw e
    have room : (dedup [] (xs.take i)).length + 1 < scanBound := by
      have q := dedup_len (xs.take i) []
      rw [List.length_take] at q
      simp only [List.length_nil] at q
      omega
    show wpAny _ A.in1 (holding [Value.str k t] (setAdd S (.str k t)) >>= _) _ _ s1
    refine wpAny_bind (wpAny_holding ?_)
    unfold setAdd
    refine wpAny_holding (wpAny_bind ((strKind P w).pyHash (k := k) (is_str k t) ?_))
    refine setS_add (s := { s1 with toks := s1.toks + 1 }) h1 room fun h' b sb h2 => ?_
    rw [← dedup_more xs [] i k ek] at h2
    refine wpAny_pure ⟨plainId_quiet PyProof.Rows.F.plain_set_update_loop _, ih (i + 1) _ (by omega) lt (W.frame _ s1 _ _ st1 (Nat.le_succ _) fun c hc o e => ?_) h2 fun s2 mv2 h3 => ?_⟩
    · exact (sb.2 c fun z => hf (z ▸ hc)).trans e
    · refine hR s2 (Moved.trans W.gtrans ((mv.mono up).then_heap (Nat.le_succ _) fun c o hc e => ?_) mv2) h3
      exact (sb.2 c fun z => hc (z ▸ List.mem_cons_self)).trans e
theorem setS_nil {h : Heap} {a : Addr} (ho : h.get? a = some { cls := .type "set", dict := none, data := .set #[] 0 (.fresh 0 0 (!w.params.followText "set-order")) }) : SetS P w h a [] :=
  ⟨(#[], 0, .fresh 0 0 (!w.params.followText "set-order")), ho, TxOk.nil rfl, List.nodup_nil, fresh_ris _, by
    cases w.params.followText "set-order"
    · exact .inr rfl
    · exact .inl rfl⟩
set_option maxHeartbeats 8000000 in
/-- set(a list of texts) -/
theorem call_set_strs {l : Addr} {items : Array Value} (xs : List Str) {Q : Value → Shared → Prop} (hh : A.handled = none) (hl : s.heap.IsList l items) (hit : StrsAre items.toList xs) (hb : xs.length + 1 < scanBound)
    (h : ∀ (h' : Heap) (tk : Nat), SetS P w h' s.heap.objs.size (dedup [] xs) → (∀ b o, s.heap.get? b = some o → h'.get? b = some o) → Q (.ref s.heap.objs.size) { s with heap := h', toks := tk }) :
    wpAny (model P w) A (call (.type "set") [.ref l]) Q E s := by
  have size : items.size = xs.length := by
    rw [← Array.length_toList]
    exact strs_len hit
  obtain ⟨c, tl, hmro⟩ := PySem.F.called_set.mro
  have hmade := PySem.F.called_set.made
  have hsub := PySem.F.called_set.sub
  refine wpAny_call (codeAny_of_tree ?_)
  show wpAny _ _ (callAny (.type "set") _) _ _ _
  refine wpAny_pure ⟨Code.quiet_builtin _ (by decide +kernel), codeAny_builtin PySem.F.entry_type_call ?_⟩
  rw [Around.under_plain (weight_type_call_type "set" [.ref l] []) rfl]
  have h1 := PySem.F.called_set.notType
  have h2 := PySem.F.called_set.canCreate
  have hct := PySem.F.typeCall_set_1 (.ref l)
  repeat (any_goals (first | assumption | wp_step))
  refine codeAny_mono (code_set_led1 (.ref l) (E := E) (Q₁ := fun obj s₁ => obj = .ref s.heap.objs.size ∧ s₁ = { s with heap := s.heap.push { cls := .type "set", dict := none, data := .set #[] 0 (.fresh 0 0 (!w.params.followText "set-order")) } }) ⟨rfl, rfl⟩) fun r s₁ hr => ?_
  match r, hr with
  | .error e, hr => exact hr
  | .ok .next, hr => exact hr.elim
  | .ok .brk, hr => exact hr.elim
  | .ok .cont, hr => exact hr.elim
  | .ok (.ret obj), hr =>
    obtain ⟨rfl, rfl⟩ := hr
    have hS : (s.heap.push { cls := .type "set", dict := none, data := .set #[] 0 (.fresh 0 0 (!w.params.followText "set-order")) }).get? s.heap.objs.size = some { cls := .type "set", dict := none, data := .set #[] 0 (.fresh 0 0 (!w.params.followText "set-order")) } := Heap.get?_push_size _ rfl
    have hT : Shared.TypeIs { s with heap := s.heap.push { cls := .type "set", dict := none, data := .set #[] 0 (.fresh 0 0 (!w.params.followText "set-order")) } } (.ref s.heap.objs.size) "set" := ⟨_, hS, rfl⟩
    have hli := PySem.F.called_set.init.lookup
    have hbi := PySem.F.called_set.init.bind (.ref s.heap.objs.size)
    repeat (any_goals (first | assumption | wp_step))
    refine codeAny_mono (codeAny_call_builtin (R := wants (fun r s₂ => r = .none ∧ ∃ h' tk, s₂ = { s with heap := h', toks := tk } ∧ SetS P w h' s.heap.objs.size (dedup [] xs) ∧
        (∀ b o, s.heap.get? b = some o → h'.get? b = some o)) E) PySem.F.called_set.init.plain PySem.F.entry_set_init (PySem.check_set_init_1 hT ?_)) fun r₂ s₂ hr₂ => ?_
    · obtain ⟨⟨ocls, odict, odata, oslots⟩, hol, hcl, nl, hdl⟩ := hl
      simp only at hcl hdl
      subst hcl
      subst hdl
      have hol' : (s.heap.push { cls := .type "set", dict := none, data := .set #[] 0 (.fresh 0 0 (!w.params.followText "set-order")) }).get? l = some { cls := .type "list", dict := odict, data := .seq items nl, slots := oslots } := Heap.get?_push_of_some _ hol
      have hsls := PySem.F.sub_list_set
      have hslf := PySem.F.sub_list_frozenset
      have hne : (Value.type "list" == Value.type "dict") = false := by decide
      have hl1 : (s.heap.push { cls := .type "set", dict := none, data := .set #[] 0 (.fresh 0 0 (!w.params.followText "set-order")) }).IsList l items := ⟨_, hol', rfl, nl, rfl⟩
      unfold Builtin.«set.__init__» noKeywords Builtin.Frozenset.updateFrom
      generalize hPI : pyIter = PI
      wp_walk
      subst hPI
      refine wpAny_pyIter_list hl1 ?_
      refine wpAny_bind (wpAny_runValue ?_)
      have lS : l < s.heap.objs.size := Heap.lt_size hol
      have hh3 : A.in1.in1.in1.handled = none := by simp [hh]
      have hz : (s.heap.push { cls := .type "set", dict := none, data := .set #[] 0 (.fresh 0 0 (!w.params.followText "set-order")) }).objs.size = s.heap.objs.size + 1 := Heap.size_push ..
      have nI : l ≠ (s.heap.push { cls := .type "set", dict := none, data := .set #[] 0 (.fresh 0 0 (!w.params.followText "set-order")) }).objs.size := by
        rw [hz]
        exact Nat.ne_of_lt (Nat.lt_succ_of_lt lS)
      have nf : s.heap.objs.size ∉ [(s.heap.push { cls := .type "set", dict := none, data := .set #[] 0 (.fresh 0 0 (!w.params.followText "set-order")) }).objs.size, l] := by
        rw [hz]
        simp only [List.mem_cons, List.not_mem_nil, or_false, not_or]
        exact ⟨Nat.ne_of_lt (Nat.lt_succ_self _), Nat.ne_of_gt lS⟩
      refine loop_strs ((Walks.list hh3 _ l nI items).toS) s.heap.objs.size nf xs size hb (fun i v q => strs_ix hit i v (by rw [Array.getElem?_toList]; exact q)) (items.size - 0) 0 _ (by omega) (Nat.zero_le _)
        ⟨⟨_, Heap.get?_push_size _ rfl, rfl, rfl⟩, (hl1.push _)⟩ (setS_nil (Heap.get?_push_of_some _ hS)) ?_
      intro s' mv h3
      obtain ⟨h', g2, d', tk', os'⟩ := s'
      have eg : g2 = s.gens := mv.gens
      have ed : d' = s.drawn := mv.drawn
      have eo : os' = s.os := mv.os
      subst eg ed eo
      show wpAny _ _ _ _ _ _
      refine wpAny_pure ?_
      show wpAny _ _ (ret Value.none) _ _ _
      refine wpAny_pure ⟨rfl, h', tk', rfl, h3, fun b o e => ?_⟩
      have b0 : b < s.heap.objs.size := Heap.lt_size e
      refine mv.heap b o ?_ (Heap.get?_push_of_some _ (Heap.get?_push_of_some _ e))
      simp only [List.mem_cons, List.not_mem_nil, or_false, not_or]
      refine ⟨Nat.ne_of_lt b0, ?_⟩
      rw [hz]
      exact Nat.ne_of_lt (Nat.lt_succ_of_lt b0)
    · match r₂, hr₂ with
      | .error e, hr₂ => exact hr₂
      | .ok .next, hr₂ => exact hr₂.elim
      | .ok .brk, hr₂ => exact hr₂.elim
      | .ok .cont, hr₂ => exact hr₂.elim
      | .ok (.ret r), hr₂ =>
        obtain ⟨rfl, h', tk, rfl, h3, hk⟩ := hr₂
        repeat (any_goals (first | assumption | wp_step))
        exact h _ _ h3 hk
end
end Ww

namespace Ww
open PySem PySem.Spec PyProof.Rows L2 PySem.Froz
theorem ne_mem {α : Type} {l : List α} {k x : α} (hk : k ∈ l) (n : x ∉ l) : k ≠ x := fun e => by
  subst e
  exact n hk
theorem nd_perm {α : Type} [DecidableEq α] : ∀ {l m : List α}, l.Nodup → (∀ k ∈ l, k ∈ m) → m.length ≤ l.length → l.Perm m
  | [], m, _, _, h => by
    have e : m = [] := List.length_eq_zero_iff.mp (Nat.le_zero.mp h)
    rw [e]
  | x :: l, m, nd, sub, h => by
    obtain ⟨n1, n2⟩ := List.nodup_cons.mp nd
    have hx := sub x List.mem_cons_self
    have pm := List.perm_cons_erase hx
    have le := List.length_erase_of_mem hx
    have ih : l.Perm (m.erase x) := nd_perm n2 (fun k hk => (List.mem_erase_of_ne (ne_mem hk n1)).mpr (sub k (List.mem_cons_of_mem _ hk))) (by
      rw [List.length_cons] at h
      omega)
    exact (ih.cons x).trans pm.symm
theorem nd_len {α : Type} [DecidableEq α] : ∀ {l m : List α}, l.Nodup → (∀ k ∈ l, k ∈ m) → l.length ≤ m.length
  | [], m, _, _ => Nat.zero_le _
  | x :: l, m, nd, sub => by
    obtain ⟨n1, n2⟩ := List.nodup_cons.mp nd
    have hx := sub x List.mem_cons_self
    have le := List.length_erase_of_mem hx
    have pos : 0 < m.length := List.length_pos_of_mem hx
    have ih := nd_len (m := m.erase x) n2 fun k hk => (List.mem_erase_of_ne (ne_mem hk n1)).mpr (sub k (List.mem_cons_of_mem _ hk))
    rw [List.length_cons]
    omega
section
variable {P : Program} {w : World} {A : Around} {E : Value → Shared → Prop} {s : Shared}
/-- an entry of such a set is a text -/
theorem ent_str {D : SD} {l : List Str} (F : TxOk P w D l) : ∀ v ∈ D.1.toList.map (·.2), ∃ x t, v = Value.str x t := fun v hv => by
  obtain ⟨e, he, rfl⟩ := List.mem_map.mp hv
  obtain ⟨⟨k, h1, _⟩, _⟩ := F.el e he
  obtain ⟨t, q⟩ := Value.isStrOf_shape (x := k) (v := e.2) h1
  exact ⟨k, t, q⟩
theorem ent_perm {D : SD} {l : List Str} (F : TxOk P w D l) (nd : l.Nodup) : ((D.1.toList.map (·.2)).map strOf).Perm l := by
  have mem : ∀ k : Str, k ∈ (D.1.toList.map (·.2)).map strOf ↔ k ∈ l := fun k => by
    rw [F.mem k, List.mem_map]
    constructor
    · rintro ⟨v, hv, q⟩
      obtain ⟨x, t, e⟩ := ent_str F v hv
      obtain ⟨en, hen, e2⟩ := List.mem_map.mp hv
      refine ⟨en, hen, ?_⟩
      rw [e2, e]
      have : x = k := by rw [← q, e]; rfl
      rw [← this]
      exact is_str x t
    · rintro ⟨en, hen, q⟩
      refine ⟨en.2, List.mem_map_of_mem hen, ?_⟩
      obtain ⟨t, e⟩ := Value.isStrOf_shape (x := k) (v := en.2) q
      rw [e]
      rfl
  have len : ((D.1.toList.map (·.2)).map strOf).length = l.length := by
    rw [List.length_map, List.length_map, Array.length_toList]
    exact F.sz
  exact (nd_perm nd (fun k hk => (mem k).2 hk) (Nat.le_of_eq len)).symm
theorem sorted_setS {a : Addr} {l : List Str} {Q : Value → Shared → Prop} (R : SetS P w s.heap a l) (hh : A.handled = none) (h64 : l.length < 64)
    (hQ : ∀ s' p (out : Array Value) (c : Nat) (ss : List Str), (∀ b o, s.heap.get? b = some o → s'.heap.get? b = some o) → s'.gens = s.gens → s'.os = s.os → s.heap.objs.size ≤ p →
      s'.heap.get? p = some (seqObj "list" out c) → StrsAre out.toList ss → Srt l ss → Q (.ref p) s') : wpAny (model P w) A (call (.builtin "sorted") [.ref a]) Q E s := by
  obtain ⟨D, ho, F, nd, r, hl⟩ := R
  have hsz : D.1.size = l.length := F.sz
  refine Calls.call_function_entry kind_sorted plain_sorted entry_sorted (args_sorted1 _) ?_
  unfold Builtin.«sorted»
  refine wpAny_bind (m := checkCount "sorted" 1 1 _) (wpAny_pure ?_)
  refine wpAny_bind (collect_set (A := A.in1) (t := D.2.2) (es := D.1) (ep := D.2.1) hh ⟨_, ho, rfl, rfl⟩ F.fit (by rw [hsz]; unfold scanBound; omega) r hl fun s1 vs k1 z1 g1 o1 pm => ?_)
  have lv : vs.length = l.length := by rw [pm.length_eq, List.length_map, Array.length_toList, hsz]
  have hI : StrsAre vs (vs.map strOf) := strsAre_map vs fun v hv => ent_str F v (pm.mem_iff.mp hv)
  have pl : (vs.map strOf).Perm l := (pm.map strOf).trans (ent_perm F nd)
  refine wpAny_bind (wpAny_newList ?_ (by rw [lv, sizeLine_eq]; omega))
  have hoL : (s1.heap.push (seqObj "list" vs.toArray 0)).get? s1.heap.objs.size = some (seqObj "list" vs.toArray 0) := Heap.get?_push_size _ rfl
  refine wpAny_bind (wpAny_holding (wpAny_call_entry slot_list_sort ⟨_, hoL, rfl⟩ entry_list_sort (list_sort_treeK strKind_oneLt hoL hI.keysOf (fun v₁ v₂ rest e => keyKind_strs (by rw [← e]; exact hI)) (by rw [lv]; exact h64) fun st' hp hs => ⟨_, rfl, ?_⟩) (args_list_sort _)))
  obtain ⟨ss, a1, a2, a3⟩ := sorted_out_str hI hp hs
  obtain ⟨c, hc⟩ := sortedHeap_at (vs := vs) (out := (arrOf st').map (·.2)) hoL
  have pn : ss.Perm l := a2.trans pl
  refine wpAny_pure ⟨_, rfl, hQ _ s1.heap.objs.size _ c ss (fun b u e => ?_) g1 o1 z1 hc a1 (srt_of a3 (pn.nodup_iff.mpr nd) fun k => pn.mem_iff)⟩
  have q := k1 b u e
  have lt := Heap.lt_size q
  show (sortedHeap (s1.heap.push (seqObj "list" vs.toArray 0)) s1.heap.objs.size vs _).get? b = some u
  rw [sortedHeap_old (Nat.ne_of_lt lt) (by rw [size_push']; exact Nat.lt_succ_of_lt lt)]
  exact Heap.get?_push_of_some _ q
end
/-! ### over the layer -/
def SetSO (P : Program) (w : World) (a : Addr) (l : List Str) : HO := .ext fun h => SetS P w h a l
theorem setSO_new {P : Program} {w : World} {H : Hp} {h : Heap} {a : Addr} {l : List Str} (R : SetS P w h a l) : ObjOk P w H h a (SetSO P w a l) := by
  have ⟨D, ho, _⟩ := R
  exact ⟨R, ⟨_, ho⟩, fun h1 h2 p k => SetS.at p k⟩
theorem strsAre_vals : ∀ {ys : List Str} {us : List Value}, Vals (ys.map V.str) us → StrsAre us ys
  | [], _, .nil => .nil
  | y :: ys, _, .cons ⟨t, e⟩ r => by
    subst e
    exact .cons y t (strsAre_vals r)
theorem vals_strsAre : ∀ {ys : List Str} {us : List Value}, StrsAre us ys → Vals (ys.map V.str) us
  | _, _, .nil => .nil
  | _, _, .cons y t r => .cons ⟨t, rfl⟩ (vals_strsAre r)
section
variable {X : Cx}
/-- set(a list of texts) -/
def rSetS (K : PySem.W.Frag) (P : Program) (w : World) : List V → Hp → VK → Prop := fun vs H Q => ∃ (l : Addr) (xs : List Str), vs = [.ref l] ∧ SqL K H l (xs.map V.str) ∧ xs.length ≤ 1000 ∧
  ∀ p, H p = none → Q (.ref p) (upd H p (SetSO P w p (dedup [] xs)))
theorem cr_setS (hc : X.calm = true) : CallR X (.type "set") (rSetS X.K X.prog X.w) := by
  intro pins s σ H vs us Q I r h
  obtain ⟨l, xs, rfl, hl, hz, q⟩ := h
  rw [Vals.ref1 r]
  obtain ⟨its, rv, pl, _⟩ := I.list hl
  have hn : H s.heap.objs.size = none := I.hok.fresh (Nat.le_refl _)
  refine call_set_strs (P := X.prog) (w := X.w) xs (I.ok.hd hc) pl.isList (by simpa using strsAre_vals rv) (by unfold scanBound; omega) fun h' tk R k => ?_
  exact ⟨.ref s.heap.objs.size, _, I.laid (t' := tk) k (Nat.le_refl _) (setSO_new R), rfl, q _ hn⟩
/-- sorted(such a set) -/
def rSortS (P : Program) (w : World) : List V → Hp → VK → Prop := fun vs H Q => ∃ (a : Addr) (l : List Str), vs = [.ref a] ∧ H a = some (SetSO P w a l) ∧ l.length < 64 ∧
  ∀ (ss : List Str) (p : Addr), Srt l ss → H p = none → Q (.ref p) (upd H p (.lst (ss.map V.str)))
theorem cr_sortS (hc : X.calm = true) : CallR X (.builtin "sorted") (rSortS X.prog X.w) := by
  intro pins s σ H vs us Q I r h
  obtain ⟨a, l, rfl, ha, h64, q⟩ := h
  have R : SetS X.prog X.w s.heap a l := (I.hok a _ ha).1
  rw [Vals.ref1 r]
  refine sorted_setS R (I.ok.hd hc) h64 fun s' p out c ss k g o hp hg hS hR => ?_
  have lss : ss.length ≤ l.length := nd_len hR.nodup fun k hk => (hR.mem k).1 hk
  have hlen : (ss.map V.str).length ≤ sizeLine := by rw [List.length_map, sizeLine_eq]; omega
  have hn : H p = none := I.hok.fresh hp
  have J : Inv X pins σ (upd H p (.lst (ss.map V.str))) { s with heap := s'.heap, gens := s'.gens, drawn := s'.drawn, toks := s'.toks } :=
    I.call (ch := []) (Un.laid k hp hn) (I.hok.laid k hp ⟨hlen, out.toList, c, vals_strsAre hS, hg⟩) (by rw [g]; exact I.bare) (fun _ z => nomatch z)
  have e : s' = { s with heap := s'.heap, gens := s'.gens, drawn := s'.drawn, toks := s'.toks } := by
    cases s'
    cases s
    cases o
    rfl
  rw [e]
  exact ⟨.ref p, _, J, rfl, q ss p hR hn⟩
/-- both in one: sorted(set(e)) -/
theorem Srt.of_dedup {xs ss : List Str} (h : Srt (dedup [] xs) ss) : Srt xs ss := h.same fun k => by
  rw [mem_dedup]
  simp
end
end Ww

namespace Ww
open PySem PySem.Spec PyProof.Rows L2
theorem hu64 {A : Around} {k : Nat} (hr : Room k A) : A.units + 64 < cLine := by
  have := hr.un
  omega
theorem fn_none {P : Program} {w : World} {K : PySem.W.Frag} {mg : Str → Option Value} {base : Heap} {CX : CXT} {k : Nat} {f : Addr} {fd : FuncData} {ps : List Str} {sp : Sp} (h : ∀ vs H Q E, sp vs H Q E → False) :
    FnOk P w K mg base CX k f fd ps sp :=
  ⟨fun vs H Q E q => (h vs H Q E q).elim, fun A outer s H args us vs Q E _ _ _ _ q => (h vs H Q E q).elim⟩
theorem sz1 {n : Nat} (h : n ≤ 1000000) : n ≤ sizeLine := Nat.le_trans h (by decide)
theorem sz2 {n : Nat} (h : n < 1000000) : n < sizeLine := Nat.lt_of_lt_of_le h (by decide)
theorem bt {A B : Prop} {c : Bool} (hc : c = true) (h : A) : if c = true then A else B := by
  rw [if_pos hc]
  exact h
theorem bf {A B : Prop} {c : Bool} (hc : c = false) (h : B) : if c = true then A else B := by
  rw [if_neg (by rw [hc]; exact Bool.false_ne_true)]
  exact h
theorem bb {A B : Prop} {c : Bool} (h1 : c = true → A) (h2 : c = false → B) : if c = true then A else B := by
  cases c with
  | true => exact h1 rfl
  | false => exact h2 rfl
/-! ### letters -/
def isLet (s : Str) : Bool := match s.cps.toList with
  | [c] => decide (97 ≤ c ∧ c ≤ 122)
  | _ => false
theorem abc_mem (c : Nat) : (c ∈ (Str.ofString "abcdefghijklmnopqrstuvwxyz").cps.toList) ↔ (97 ≤ c ∧ c ≤ 122) := by
  have e : (Str.ofString "abcdefghijklmnopqrstuvwxyz").cps.toList = List.range' 97 26 := by decide +kernel
  rw [e, List.mem_range'_1]
  omega
theorem str_one {s : Str} (h : s.length = 1) : ∃ c, s = ⟨#[c]⟩ := by
  obtain ⟨a⟩ := s
  obtain ⟨l⟩ := a
  match l, h with
  | [c], _ => exact ⟨c, rfl⟩
theorem isLet_iff {s : Str} : isLet s = true ↔ Let s := by
  constructor
  · intro h
    obtain ⟨⟨l⟩⟩ := s
    match l, h with
    | [c], h =>
      have h' : decide (97 ≤ c ∧ c ≤ 122) = true := h
      have := of_decide_eq_true h'
      exact ⟨c, rfl, this.1, this.2⟩
  · rintro ⟨c, rfl, h1, h2⟩
    exact decide_eq_true ⟨h1, h2⟩
theorem isLet_one (c : Nat) : isLet ⟨#[c]⟩ = decide (97 ≤ c ∧ c ≤ 122) := rfl
theorem isLet_many {s : Str} (h : s.length ≠ 1) : isLet s = false := by
  obtain ⟨⟨l⟩⟩ := s
  match l, h with
  | [], _ => rfl
  | [c], h => exact absurd rfl h
  | _ :: _ :: _, _ => rfl
theorem plain_ne : ∀ {f : Str}, Form f → decide (V.str f = V.str "plain") = false := by
  rintro f (rfl | rfl | rfl) <;> decide +kernel
/-! ### the heap at a tuple -/
theorem at0 {x : V} {r : List V} : atI (x :: r) 0 = some x := by
  have := atI_nat (xs := x :: r) (j := 0) (v := x) rfl
  exact this
theorem at1 {x y : V} {r : List V} : atI (x :: y :: r) 1 = some y := by
  have := atI_nat (xs := x :: y :: r) (j := 1) (v := y) rfl
  exact this
theorem at2 {x y z : V} {r : List V} : atI (x :: y :: z :: r) 2 = some z := by
  have := atI_nat (xs := x :: y :: z :: r) (j := 2) (v := z) rfl
  exact this
theorem at3 {x y z u : V} {r : List V} : atI (x :: y :: z :: u :: r) 3 = some u := by
  have := atI_nat (xs := x :: y :: z :: u :: r) (j := 3) (v := u) rfl
  exact this
theorem at4 {x y z u t : V} {r : List V} : atI (x :: y :: z :: u :: t :: r) 4 = some t := by
  have := atI_nat (xs := x :: y :: z :: u :: t :: r) (j := 4) (v := t) rfl
  exact this
theorem ati {ns : List Int} {i : Nat} (h : i < ns.length) : ∃ x : Int, atI (ns.map V.int) ((0 : Int) + (i : Int)) = some (.int x) ∧ ns[i]? = some x := by
  refine ⟨ns[i], ?_, List.getElem?_eq_getElem h⟩
  rw [Int.zero_add]
  refine atI_nat ?_
  rw [List.getElem?_map, List.getElem?_eq_getElem h]
  rfl
theorem same_mut {H H' : Hp} {p : Addr} (e : Same H H') (h : H p = none) (o : HO) : Same H (upd H' p o) := fun a u q => by
  rw [upd_ne (ne_of_none q h)]
  exact e a u q
theorem Let.len {s : Str} (h : Let s) : s.length = 1 := by
  obtain ⟨c, rfl, _⟩ := h
  rfl
theorem Let.small {s : Str} (h : Let s) : s.length ≤ 1000000 := by
  rw [h.len]
  decide
theorem Kd.let_of : ∀ {k : Kd}, k.ok → ∀ s ∈ k.letters, Let s
  | .pl t, h, s, hs => by
    have e : s = t := by simpa [Kd.letters] using hs
    rw [e]
    exact h
  | .nd f a b, ⟨_, h1, h2⟩, s, hs => by
    rcases List.mem_append.mp (show s ∈ a.letters ++ b.letters from hs) with z | z
    · exact Kd.let_of h1 s z
    · exact Kd.let_of h2 s z
theorem sum_one : ∀ {l : List Str}, (∀ s ∈ l, s.length = 1) → (l.map (·.length)).sum = l.length
  | [], _ => rfl
  | x :: l, h => by
    rw [List.map_cons, List.sum_cons, h x List.mem_cons_self, sum_one fun s hs => h s (List.mem_cons_of_mem _ hs), List.length_cons]
    omega
theorem join_small {k : Kd} {ss : List Str} (h : Srt k.letters ss) (ok : k.ok) (hz : k.letters.length ≤ 40) : (ss.map (·.length)).sum + ss.length * (Str.ofString "").length ≤ 16777216 := by
  have e : (Str.ofString "").length = 0 := by decide +kernel
  have l1 : ss.length ≤ k.letters.length := nd_len h.nodup fun x hx => (h.mem x).1 hx
  rw [e, sum_one fun s hs => (k.let_of ok s ((h.mem s).1 hs)).len]
  omega
end Ww

namespace Ww
open PySem PySem.Spec PyProof.Rows L2
/-! ### types of data -/
theorem tyL {K : PySem.W.Frag} {H : Hp} {a : Addr} {xs : List V} (h : SqL K H a xs) : TyX K H (.ref a) (.type "list") := by
  rcases h with (h | ⟨o, h⟩) | ⟨o, its, n, hk, hc, _⟩
  · exact .base (.lst h)
  · exact .base (.frz h)
  · exact .kList hk hc
theorem tyT {K : PySem.W.Frag} {H : Hp} {a : Addr} {xs : List V} (h : SqT K H a xs) : TyX K H (.ref a) (.type "tuple") := by
  rcases h with (h | ⟨o, h⟩) | ⟨o, its, n, hk, hc, _⟩
  · exact .base (.tup h)
  · exact .fTuple h
  · exact .kTuple hk hc
/-- data of nesting below n, its lists short -/
def Gd : Nat → PyData → Prop
  | 0, _ => False
  | _ + 1, .none => True
  | _ + 1, .bool _ => True
  | _ + 1, .int _ => True
  | _ + 1, .str _ => True
  | n + 1, .list ds => ds.length ≤ 100000 ∧ ∀ d ∈ ds, Gd n d
  | n + 1, .tuple ds => ds.length ≤ 100000 ∧ ∀ d ∈ ds, Gd n d
  | _ + 1, .dict _ => False
theorem Gd.mono : ∀ {n m : Nat} {d : PyData}, Gd n d → n ≤ m → Gd m d
  | 0, _, _, h, _ => h.elim
  | n + 1, 0, _, _, l => absurd l (by omega)
  | n + 1, m + 1, .none, h, l => trivial
  | n + 1, m + 1, .bool _, h, l => trivial
  | n + 1, m + 1, .int _, h, l => trivial
  | n + 1, m + 1, .str _, h, l => trivial
  | n + 1, m + 1, .list ds, ⟨h1, h2⟩, l => ⟨h1, fun d hd => (h2 d hd).mono (by omega)⟩
  | n + 1, m + 1, .tuple ds, ⟨h1, h2⟩, l => ⟨h1, fun d hd => (h2 d hd).mono (by omega)⟩
  | n + 1, m + 1, .dict _, h, l => h
theorem dps_len {K : PySem.W.Frag} {H : Hp} : ∀ {ds : List PyData} {vs : List V}, DpAll K H vs ds → vs.length = ds.length
  | [], _, h => by
    cases h
    rfl
  | d :: ds, _, h => by
    cases h with
    | cons _ h2 => rw [List.length_cons, List.length_cons, dps_len h2]
theorem dps_at {K : PySem.W.Frag} {H : Hp} : ∀ {ds : List PyData} {vs : List V} {i : Nat} {v : V}, DpAll K H vs ds → vs[i]? = some v → ∃ d, ds[i]? = some d ∧ Dp K H v d
  | [], _, i, v, h, e => by
    cases h
    simp at e
  | d :: ds, _, 0, v, h, e => by
    cases h with
    | cons h1 _ =>
      have e' := Option.some.inj (show some _ = some v by simpa using e)
      rw [← e']
      exact ⟨d, rfl, h1⟩
  | d :: ds, _, i + 1, v, h, e => by
    cases h with
    | cons _ h2 =>
      obtain ⟨d', a, b⟩ := dps_at h2 (by simpa using e)
      exact ⟨d', by simpa using a, b⟩
theorem Gd.kd : ∀ {k : Kd}, Gd (k.deep + 1) k.dat
  | .pl s => ⟨(show 2 ≤ 100000 by decide), fun d hd => by
    have : d = .str "plain" ∨ d = .str s := by simpa using hd
    rcases this with rfl | rfl <;> trivial⟩
  | .nd f a b => ⟨(show 3 ≤ 100000 by decide), fun d hd => by
    have : d = .str f ∨ d = a.dat ∨ d = b.dat := by simpa using hd
    show Gd (1 + max a.deep b.deep) d
    rcases this with rfl | rfl | rfl
    · exact Gd.mono (n := 1) trivial (by omega)
    · exact Gd.kd.mono (by omega)
    · exact Gd.kd.mono (by omega)⟩
/-! ### answers of isinstance -/
section
variable {K : PySem.W.Frag} {H : Hp}
theorem kLT {t : String} {b c : Bool} (h1 : kitB t "list" = some b) (h2 : kitB t "tuple" = some c) : PySem.W.kitAny K (.type t) [.type "list", .type "tuple"] = some (b || c) := by
  refine kitAny_cons (kit_ty h1) (fun hb => ?_) (fun hb => by rw [hb]; rfl)
  rw [hb]
  refine kitAny_cons (kit_ty h2) (fun hc => by rw [hc]; rfl) (fun hc => by rw [hc]; rfl)
theorem kLT0 {t : String} (h1 : kitB t "list" = some false) (h2 : kitB t "tuple" = some false) : PySem.W.kitAny K (.type t) [.type "list", .type "tuple"] = some false := kLT h1 h2
theorem clsLT : Paired ClsV [V.ty "list", V.ty "tuple"] [Value.type "list", Value.type "tuple"] := .cons (.ty _) (.cons (.ty _) .nil)
end
end Ww

namespace Ww
open PySem PySem.Spec PyProof.Rows L2
theorem empty_cps : (Str.ofString "").cps.toList = [] := by decide +kernel
theorem join_cps : ∀ ys : List Str, (Txt.join (Str.ofString "") ys).cps.toList = ys.flatMap fun y => y.cps.toList := by
  have go : ∀ ys : List Str, (Str.join (Str.ofString "") ys).cps.toList = ys.flatMap fun y => y.cps.toList := by
    intro ys
    induction ys with
    | nil => rfl
    | cons x r ih =>
      cases r with
      | nil =>
        show x.cps.toList = _
        simp
      | cons y r =>
        show (x ++ Str.ofString "" ++ Str.join (Str.ofString "") (y :: r)).cps.toList = _
        rw [PySem.W.KT.app_list, PySem.W.KT.app_list, empty_cps, List.append_nil, ih]
        rfl
  intro ys
  show (Builtin.Str.glued _ _).cps.toList = _
  rw [StrLaws.glued_eq_join]
  exact go ys
/-- a text of letters -/
def AllLet (t : Str) : Prop := ∀ c ∈ t.cps.toList, 97 ≤ c ∧ c ≤ 122
theorem len_cps (t : Str) : t.length = t.cps.toList.length := (Array.length_toList).symm
theorem AllLet.at {t : Str} (h : AllLet t) {r : Int} (r0 : 0 ≤ r) (r1 : r < (t.length : Int)) : ∃ c, t.cps[r.toNat]? = some c ∧ Let ⟨#[c]⟩ := by
  have hr : r.toNat < t.cps.size := by
    have : t.length = t.cps.size := rfl
    omega
  refine ⟨t.cps[r.toNat], Array.getElem?_eq_getElem hr, _, rfl, ?_⟩
  exact h _ (by simp)
theorem abc_all : AllLet (Str.ofString "abcdefghijklmnopqrstuvwxyz") := fun c hc => (abc_mem c).1 hc
theorem abc_len : (Str.ofString "abcdefghijklmnopqrstuvwxyz").length = 26 := by decide +kernel
theorem join_len {ys : List Str} (h : ∀ y ∈ ys, Let y) : (Txt.join (Str.ofString "") ys).length = ys.length := by
  rw [len_cps, join_cps]
  induction ys with
  | nil => rfl
  | cons x r ih =>
    have hx := (h x List.mem_cons_self).len
    rw [len_cps] at hx
    rw [List.flatMap_cons, List.length_append, hx, ih fun y hy => h y (List.mem_cons_of_mem _ hy), List.length_cons]
    omega
theorem join_all {ys : List Str} (h : ∀ y ∈ ys, Let y) : AllLet (Txt.join (Str.ofString "") ys) := fun c hc => by
  rw [join_cps] at hc
  obtain ⟨y, hy, q⟩ := List.mem_flatMap.mp hc
  obtain ⟨d, rfl, h1, h2⟩ := h y hy
  have e : c = d := by simpa using q
  rw [e]
  exact ⟨h1, h2⟩
theorem let_small {ys : List Str} (h : ∀ y ∈ ys, Let y) (l : ys.length ≤ 1000) : (ys.map (·.length)).sum + ys.length * (Str.ofString "").length ≤ 16777216 := by
  have e : (Str.ofString "").length = 0 := by decide +kernel
  rw [e, sum_one fun s hs => (h s hs).len]
  omega
/-! ### an item at a drawn place -/
theorem atI_of {α : Type} {xs : List α} {r : Int} (r0 : 0 ≤ r) (r1 : r < (xs.length : Int)) : ∃ v, atI xs r = some v ∧ xs[r.toNat]? = some v := by
  have h : r.toNat < xs.length := by omega
  have e : ((r.toNat : Nat) : Int) = r := by omega
  obtain ⟨v, hv⟩ : ∃ v, xs[r.toNat]? = some v := ⟨_, List.getElem?_eq_getElem h⟩
  have q := atI_nat hv
  rw [e] at q
  exact ⟨v, q, hv⟩
theorem atI_mem {α : Type} {xs : List α} {r : Int} (r0 : 0 ≤ r) (r1 : r < (xs.length : Int)) : ∃ v, atI xs r = some v ∧ v ∈ xs := by
  obtain ⟨v, h1, h2⟩ := atI_of r0 r1
  exact ⟨v, h1, List.mem_of_getElem? h2⟩
theorem but_mut {a p : Addr} {H H' : Hp} (e : But a H H') (h : H p = none) (o : HO) : But a H (upd H' p o) := fun b u n q => by
  rw [upd_ne (ne_of_none q h)]
  exact e b u n q
theorem But.same {a : Addr} {H H1 H2 : Hp} (e : But a H H1) (k : Same H1 H2) : But a H H2 := fun b o n h => k b o (e b o n h)
/-- fresh in a later heap is fresh in an earlier one -/
theorem But.free {a p : Addr} {H H' : Hp} {o : HO} (e : But a H H') (ha : H' a = some o) (h : H' p = none) : H p = none := by
  cases q : H p with
  | none => rfl
  | some u =>
    have n : p ≠ a := fun z => by
      rw [z, ha] at h
      cases h
    rw [e p u n q] at h
    cases h
theorem But.at {a b : Addr} {H H' : Hp} {o : HO} (e : But a H H') (n : b ≠ a) (h : H b = some o) : H' b = some o := e b o n h
theorem But.sqL {K : PySem.W.Frag} {a b : Addr} {H H' : Hp} {xs : List V} (e : But a H H') (n : b ≠ a) (h : H b = some (.lst xs)) : SqL K H' b xs := SqL.of (e b _ n h)
theorem lc_yes {σ : L2.St} {H : Hp} {t e : Hp → Prop} (h : t H) : tYes σ H (fun b H3 => if b = true then t H3 else e H3) := h
end Ww

namespace Ww
open PySem PySem.Spec PyProof.Rows L2
/-! ### two lists side by side -/
def All2 {α β : Type} (R : α → β → Prop) : List α → List β → Prop
  | [], [] => True
  | x :: xs, y :: ys => R x y ∧ All2 R xs ys
  | _, _ => False
theorem All2.mono {α β : Type} {R S : α → β → Prop} (e : ∀ x y, R x y → S x y) : ∀ {xs : List α} {ys : List β}, All2 R xs ys → All2 S xs ys
  | [], [], _ => trivial
  | _ :: _, _ :: _, h => ⟨e _ _ h.1, All2.mono e h.2⟩
  | [], _ :: _, h => h.elim
  | _ :: _, [], h => h.elim
theorem All2.len {α β : Type} {R : α → β → Prop} : ∀ {xs : List α} {ys : List β}, All2 R xs ys → xs.length = ys.length
  | [], [], _ => rfl
  | _ :: _, _ :: _, h => by rw [List.length_cons, List.length_cons, All2.len h.2]
  | [], _ :: _, h => h.elim
  | _ :: _, [], h => h.elim
theorem All2.snoc {α β : Type} {R : α → β → Prop} {x : α} {y : β} (r : R x y) : ∀ {xs : List α} {ys : List β}, All2 R xs ys → All2 R (xs ++ [x]) (ys ++ [y])
  | [], [], _ => ⟨r, trivial⟩
  | _ :: _, _ :: _, h => ⟨h.1, All2.snoc r h.2⟩
  | [], _ :: _, h => h.elim
  | _ :: _, [], h => h.elim
theorem All2.app {α β : Type} {R : α → β → Prop} {zs : List α} {us : List β} (r : All2 R zs us) : ∀ {xs : List α} {ys : List β}, All2 R xs ys → All2 R (xs ++ zs) (ys ++ us)
  | [], [], _ => r
  | _ :: _, _ :: _, h => ⟨h.1, All2.app r h.2⟩
  | [], _ :: _, h => h.elim
  | _ :: _, [], h => h.elim
theorem All2.get {α β : Type} {R : α → β → Prop} : ∀ {xs : List α} {ys : List β} {i : Nat} {x : α}, All2 R xs ys → xs[i]? = some x → ∃ y, ys[i]? = some y ∧ R x y
  | [], [], _, _, _, e => by simp at e
  | x :: _, y :: _, 0, z, h, e => by
    have e' : x = z := by simpa using e
    subst e'
    exact ⟨y, rfl, h.1⟩
  | _ :: _, _ :: _, i + 1, _, h, e => by
    obtain ⟨y, a, b⟩ := All2.get h.2 (by simpa using e)
    exact ⟨y, by simpa using a, b⟩
  | [], _ :: _, _, _, h, _ => h.elim
  | _ :: _, [], _, _, h, _ => h.elim
theorem All2.mem {α β : Type} {R : α → β → Prop} {xs : List α} {ys : List β} (h : All2 R xs ys) {x : α} (m : x ∈ xs) : ∃ y, y ∈ ys ∧ R x y := by
  obtain ⟨i, hi⟩ := List.getElem?_of_mem m
  obtain ⟨y, a, b⟩ := h.get hi
  exact ⟨y, List.mem_of_getElem? a, b⟩
/-! ### data that == reads -/
def Lk (K : PySem.W.Frag) (H : Hp) (v : V) : Prop := ∃ d, Dp K H v d ∧ d.canLay0 = true ∧ d.depth ≤ 60
theorem lks {K : PySem.W.Frag} {H : Hp} : ∀ {xs : List V}, (∀ v ∈ xs, Lk K H v) → ∃ ds, DpAll K H xs ds ∧ ds.length = xs.length ∧ PyData.canLayAll0 ds = true ∧ PyData.depthAll ds ≤ 60
  | [], _ => ⟨[], .nil, rfl, rfl, by decide⟩
  | x :: xs, h => by
    obtain ⟨d, h1, h2, h3⟩ := h x List.mem_cons_self
    obtain ⟨ds, g1, g2, g3, g4⟩ := lks fun v hv => h v (List.mem_cons_of_mem _ hv)
    refine ⟨d :: ds, .cons h1 g1, by rw [List.length_cons, List.length_cons, g2], ?_, ?_⟩
    · show (d.canLay0 && PyData.canLayAll0 ds) = true
      rw [h2, g3]
      rfl
    · show max d.depth (PyData.depthAll ds) ≤ 60
      omega
theorem shaped_list {ds : List PyData} (h1 : PyData.canLayAll0 ds = true) (h2 : PyData.depthAll ds ≤ 60) : SeqAt.shaped (.list ds) = true := by
  show (PyData.canLayAll0 ds && decide (PyData.depthAll ds + 1 ≤ 64)) = true
  rw [h1, decide_eq_true (by omega)]
  rfl
theorem eqv_nil : ∀ ds : List PyData, PyData.eqv (.list ds) (.list []) = ds.isEmpty
  | [] => rfl
  | _ :: _ => rfl
theorem ne_nil {K : PySem.W.Frag} {H : Hp} {a p : Addr} {xs : List V} {Q : VK} (h : H a = some (.lst xs)) (hp : H p = some (.lst [])) (l : ∀ v ∈ xs, Lk K H v) (q : Q (.bl (!xs.isEmpty)) H) : rNeD K (.ref a) (.ref p) H Q := by
  obtain ⟨ds, g1, g2, g3, g4⟩ := lks l
  refine ⟨.list ds, .list [], .lst (SqL.of h) g1, .lst (SqL.of hp) .nil, shaped_list g3 g4, by decide, ?_⟩
  rw [eqv_nil]
  have e : ds.isEmpty = xs.isEmpty := by
    cases ds <;> cases xs <;> first | rfl | cases g2
  rw [e]
  exact q
theorem let_ok {s : Str} (h : Let s) : PyData.strOk s = true := by
  obtain ⟨c, rfl, h1, h2⟩ := h
  simp [PyData.strOk]
  omega
theorem form_ok {f : Str} (h : Form f) : PyData.strOk f = true := by
  rcases h with rfl | rfl | rfl <;> decide +kernel
theorem Kd.lay : ∀ {k : Kd}, k.ok → k.dat.canLay0 = true
  | .pl s, h => by
    show (PyData.strOk "plain" && (PyData.strOk s && true)) = true
    rw [let_ok h]
    decide +kernel
  | .nd f a b, ⟨h, h1, h2⟩ => by
    show (PyData.strOk f && (a.dat.canLay0 && (b.dat.canLay0 && true))) = true
    rw [form_ok h, Kd.lay h1, Kd.lay h2]
    rfl
theorem Kd.dat_depth : ∀ k : Kd, k.dat.depth = k.deep
  | .pl s => rfl
  | .nd f a b => by
    show max 0 (max a.dat.depth (max b.dat.depth 0)) + 1 = 1 + max a.deep b.deep
    rw [Kd.dat_depth a, Kd.dat_depth b]
    omega
theorem KAt.lk {K : PySem.W.Frag} {H : Hp} {v : V} {k : Kd} (h : KAt H v k) (ok : k.ok) (d : k.deep ≤ 60) : Lk K H v := ⟨k.dat, h.dp, k.lay ok, by rw [k.dat_depth]; exact d⟩
/-! ### the places of a kind's letters -/
def Kd.places : Kd → Int → List (Str × Int)
  | .pl s, d => [(s, d)]
  | .nd _ a b, d => a.places (d + 1) ++ b.places (d + 1)
def Kd.wt : Kd → Nat
  | .pl _ => 1
  | .nd _ a b => 1 + a.wt + b.wt
theorem Kd.places_fst : ∀ (k : Kd) (d : Int), (k.places d).map (·.1) = k.letters
  | .pl s, d => rfl
  | .nd f a b, d => by
    show (a.places (d + 1) ++ b.places (d + 1)).map (·.1) = a.letters ++ b.letters
    rw [List.map_append, Kd.places_fst a, Kd.places_fst b]
theorem Kd.places_len (k : Kd) (d : Int) : (k.places d).length = k.letters.length := by
  rw [← k.places_fst d, List.length_map]
theorem Kd.places_le : ∀ (k : Kd) (d : Int), ∀ x ∈ k.places d, x.2 ≤ d + (k.deep : Int) - 1
  | .pl s, d, x, h => by
    have e : x = (s, d) := by simpa [Kd.places] using h
    rw [e]
    show d ≤ d + (1 : Nat) - 1
    omega
  | .nd f a b, d, x, h => by
    show x.2 ≤ d + ((1 + max a.deep b.deep : Nat) : Int) - 1
    rcases List.mem_append.mp (show x ∈ a.places (d + 1) ++ b.places (d + 1) from h) with z | z
    · have := Kd.places_le a _ x z
      omega
    · have := Kd.places_le b _ x z
      omega
theorem Kd.places_max : ∀ (k : Kd) (d : Int), ∃ x ∈ k.places d, x.2 = d + (k.deep : Int) - 1
  | .pl s, d => ⟨(s, d), by simp [Kd.places], by show d = d + (1 : Nat) - 1; omega⟩
  | .nd f a b, d => by
    show ∃ x ∈ a.places (d + 1) ++ b.places (d + 1), x.2 = d + ((1 + max a.deep b.deep : Nat) : Int) - 1
    by_cases c : b.deep ≤ a.deep
    · obtain ⟨x, m, e⟩ := Kd.places_max a (d + 1)
      exact ⟨x, List.mem_append_left _ m, by omega⟩
    · obtain ⟨x, m, e⟩ := Kd.places_max b (d + 1)
      exact ⟨x, List.mem_append_right _ m, by omega⟩
theorem places_flat : ∀ st : List (Kd × Int), st.length ≤ (st.flatMap fun x => x.1.places x.2).length
  | [] => Nat.le_refl 0
  | x :: st => by
    rw [List.flatMap_cons, List.length_append, List.length_cons, x.1.places_len]
    have := places_flat st
    have := x.1.letters_pos
    omega
theorem at5 {a b c d e f : V} {r : List V} : atI (a :: b :: c :: d :: e :: f :: r) 5 = some f := by
  have := atI_nat (xs := a :: b :: c :: d :: e :: f :: r) (j := 5) (v := f) rfl
  exact this
theorem at6 {a b c d e f g : V} {r : List V} : atI (a :: b :: c :: d :: e :: f :: g :: r) 6 = some g := by
  have := atI_nat (xs := a :: b :: c :: d :: e :: f :: g :: r) (j := 6) (v := g) rfl
  exact this
end Ww

namespace K01
open PySem PySem.Spec PyProof.Rows L2 Ww
def top (i : Nat) : Stmt := PySem.Challenge.pw_waitwords_k01_letters_size_depth_single.main.body.getD i (.Pass ⟨0, 0, 0, 0⟩)
abbrev s_is_letter : Stmt := top 8
abbrev N_is_letter : List Str := ["text"]
abbrev P_is_letter : List Str := ["text"]
theorem sc_is_letter : FnScope N_is_letter P_is_letter (defScope s_is_letter) := ⟨rfl, rfl, rfl, by decide +kernel, rfl, by decide +kernel, by decide +kernel⟩

abbrev s_wrong_part : Stmt := top 9
abbrev N_wrong_part : List Str := ["kind", "wrong"]
abbrev P_wrong_part : List Str := ["kind"]
theorem sc_wrong_part : FnScope N_wrong_part P_wrong_part (defScope s_wrong_part) := ⟨rfl, rfl, rfl, by decide +kernel, rfl, by decide +kernel, by decide +kernel⟩

abbrev s_checked_kind : Stmt := top 10
abbrev N_checked_kind : List Str := ["kind", "wrong"]
abbrev P_checked_kind : List Str := ["kind"]
theorem sc_checked_kind : FnScope N_checked_kind P_checked_kind (defScope s_checked_kind) := ⟨rfl, rfl, rfl, by decide +kernel, rfl, by decide +kernel, by decide +kernel⟩

abbrev s_single : Stmt := top 11
abbrev N_single : List Str := ["kind"]
abbrev P_single : List Str := ["kind"]
theorem sc_single : FnScope N_single P_single (defScope s_single) := ⟨rfl, rfl, rfl, by decide +kernel, rfl, by decide +kernel, by decide +kernel⟩

abbrev s_letters_of : Stmt := top 12
abbrev N_letters_of : List Str := ["kind"]
abbrev P_letters_of : List Str := ["kind"]
theorem sc_letters_of : FnScope N_letters_of P_letters_of (defScope s_letters_of) := ⟨rfl, rfl, rfl, by decide +kernel, rfl, by decide +kernel, by decide +kernel⟩

abbrev s_depth_of : Stmt := top 13
abbrev N_depth_of : List Str := ["kind"]
abbrev P_depth_of : List Str := ["kind"]
theorem sc_depth_of : FnScope N_depth_of P_depth_of (defScope s_depth_of) := ⟨rfl, rfl, rfl, by decide +kernel, rfl, by decide +kernel, by decide +kernel⟩

abbrev s_letters : Stmt := top 14
abbrev N_letters : List Str := ["kind"]
abbrev P_letters : List Str := ["kind"]
theorem sc_letters : FnScope N_letters P_letters (defScope s_letters) := ⟨rfl, rfl, rfl, by decide +kernel, rfl, by decide +kernel, by decide +kernel⟩

abbrev s_size : Stmt := top 15
abbrev N_size : List Str := ["kind"]
abbrev P_size : List Str := ["kind"]
theorem sc_size : FnScope N_size P_size (defScope s_size) := ⟨rfl, rfl, rfl, by decide +kernel, rfl, by decide +kernel, by decide +kernel⟩

abbrev s_depth : Stmt := top 16
abbrev N_depth : List Str := ["kind"]
abbrev P_depth : List Str := ["kind"]
theorem sc_depth : FnScope N_depth P_depth (defScope s_depth) := ⟨rfl, rfl, rfl, by decide +kernel, rfl, by decide +kernel, by decide +kernel⟩

abbrev s_is_single : Stmt := top 17
abbrev N_is_single : List Str := ["kind"]
abbrev P_is_single : List Str := ["kind"]
theorem sc_is_single : FnScope N_is_single P_is_single (defScope s_is_single) := ⟨rfl, rfl, rfl, by decide +kernel, rfl, by decide +kernel, by decide +kernel⟩

abbrev s_begun : Stmt := top 19
abbrev N_begun : List Str := ["_law_script", "_law_great", "_law_number", "_law_k"]
abbrev P_begun : List Str := ["_law_script"]
theorem sc_begun : FnScope N_begun P_begun (defScope s_begun) := ⟨rfl, rfl, rfl, by decide +kernel, rfl, by decide +kernel, by decide +kernel⟩

abbrev s_pick : Stmt := top 20
abbrev N_pick : List Str := ["_law_source", "_law_many", "_law_found", "_law_stirred"]
abbrev P_pick : List Str := ["_law_source", "_law_many"]
theorem sc_pick : FnScope N_pick P_pick (defScope s_pick) := ⟨rfl, rfl, rfl, by decide +kernel, rfl, by decide +kernel, by decide +kernel⟩

abbrev s_alike : Stmt := top 21
abbrev N_alike : List Str := ["_law_found", "_law_due", "_law_one", "_law_other"]
abbrev P_alike : List Str := ["_law_found", "_law_due"]
theorem sc_alike : FnScope N_alike P_alike (defScope s_alike) := ⟨rfl, rfl, rfl, by decide +kernel, rfl, by decide +kernel, by decide +kernel⟩

abbrev s_pool : Stmt := top 22
abbrev N_pool : List Str := ["_law_source", "_law_signs", "_law_many", "_law_k"]
abbrev P_pool : List Str := ["_law_source"]
theorem sc_pool : FnScope N_pool P_pool (defScope s_pool) := ⟨rfl, rfl, rfl, by decide +kernel, rfl, by decide +kernel, by decide +kernel⟩

abbrev s_grown : Stmt := top 23
abbrev N_grown : List Str := ["_law_source", "_law_most", "_law_deep", "_law_forms", "_law_signs", "_law_form", "_law_first", "_law_one"]
abbrev P_grown : List Str := ["_law_source", "_law_most", "_law_deep", "_law_forms", "_law_signs"]
theorem sc_grown : FnScope N_grown P_grown (defScope s_grown) := ⟨rfl, rfl, rfl, by decide +kernel, rfl, by decide +kernel, by decide +kernel⟩

abbrev s_places : Stmt := top 24
abbrev N_places : List Str := ["_law_kind", "_law_found", "_law_left", "_law_part", "_law_deep"]
abbrev P_places : List Str := ["_law_kind"]
theorem sc_places : FnScope N_places P_places (defScope s_places) := ⟨rfl, rfl, rfl, by decide +kernel, rfl, by decide +kernel, by decide +kernel⟩

abbrev s_leaning : Stmt := top 25
abbrev N_leaning : List Str := ["_law_source", "_law_signs", "_law_form", "_law_made", "_law_side", "_law_k", "_law_added"]
abbrev P_leaning : List Str := ["_law_source", "_law_signs"]
theorem sc_leaning : FnScope N_leaning P_leaning (defScope s_leaning) := ⟨rfl, rfl, rfl, by decide +kernel, rfl, by decide +kernel, by decide +kernel⟩

abbrev s_full : Stmt := top 26
abbrev N_full : List Str := ["_law_signs", "_law_some", "_law_k", "_law_one"]
abbrev P_full : List Str := ["_law_signs"]
theorem sc_full : FnScope N_full P_full (defScope s_full) := ⟨rfl, rfl, rfl, by decide +kernel, rfl, by decide +kernel, by decide +kernel⟩

abbrev s_has_with : Stmt := top 27
abbrev N_has_with : List Str := ["_law_kind", "_law_left", "_law_found", "_law_part"]
abbrev P_has_with : List Str := ["_law_kind"]
theorem sc_has_with : FnScope N_has_with P_has_with (defScope s_has_with) := ⟨rfl, rfl, rfl, by decide +kernel, rfl, by decide +kernel, by decide +kernel⟩

abbrev s_dues : Stmt := top 28
abbrev N_dues : List Str := ["_law_kind", "_law_rows", "_law_row"]
abbrev P_dues : List Str := ["_law_kind"]
theorem sc_dues : FnScope N_dues P_dues (defScope s_dues) := ⟨rfl, rfl, rfl, by decide +kernel, rfl, by decide +kernel, by decide +kernel⟩

abbrev s_law : Stmt := top 29
abbrev N_law : List Str := ["_law_script", "_law_source", "_law_kinds", "_law_k", "_law_signs", "_law_forms", "_law_turn", "_law_kind", "_law_due", "_law_found", "_law_again"]
abbrev P_law : List Str := ["_law_script"]
theorem sc_law : FnScope N_law P_law (defScope s_law) := ⟨rfl, rfl, rfl, by decide +kernel, rfl, by decide +kernel, by decide +kernel⟩

/-! ### promises -/
def spIsLetter : Sp := fun vs H Q _ => ∃ s : Str, vs = [.str s] ∧ s.length ≤ 1000000 ∧ Q (.bl (isLet s)) H
def spWrong (n : Nat) : Sp := fun vs H Q _ => ∃ (v : V) (k : Kd), vs = [v] ∧ KAt H v k ∧ k.ok ∧ k.deep ≤ n ∧ Q .non H
theorem spWrong_0 {vs : List V} {H : Hp} {Q : VK} {E : XK} (h : spWrong 0 vs H Q E) : False := by
  obtain ⟨v, k, _, _, _, hd, _⟩ := h
  have := k.deep_pos
  omega
def spChecked : Sp := fun vs H Q _ => ∃ (v : V) (k : Kd), vs = [v] ∧ KAt H v k ∧ k.ok ∧ k.deep ≤ 8 ∧ Q v H
def spSingle (n : Nat) : Sp := fun vs H Q _ => ∃ (v : V) (k : Kd), vs = [v] ∧ KAt H v k ∧ k.ok ∧ k.deep ≤ n ∧ Q (.bl k.single) H
theorem spSingle_0 {vs : List V} {H : Hp} {Q : VK} {E : XK} (h : spSingle 0 vs H Q E) : False := by
  obtain ⟨v, k, _, _, _, hd, _⟩ := h
  have := k.deep_pos
  omega
def spLettersOf (n : Nat) : Sp := fun vs H Q _ => ∃ (v : V) (k : Kd), vs = [v] ∧ KAt H v k ∧ k.ok ∧ k.deep ≤ n ∧ k.letters.length ≤ 1000 ∧
  ∀ p H', Same H H' → H' p = some (.lst (k.letters.map V.str)) → Q (.ref p) H'
theorem spLettersOf_0 {vs : List V} {H : Hp} {Q : VK} {E : XK} (h : spLettersOf 0 vs H Q E) : False := by
  obtain ⟨v, k, _, _, _, hd, _⟩ := h
  have := k.deep_pos
  omega
def spDepthOf (n : Nat) : Sp := fun vs H Q _ => ∃ (v : V) (k : Kd), vs = [v] ∧ KAt H v k ∧ k.ok ∧ k.deep ≤ n ∧ Q (.int (k.deep : Int)) H
theorem spDepthOf_0 {vs : List V} {H : Hp} {Q : VK} {E : XK} (h : spDepthOf 0 vs H Q E) : False := by
  obtain ⟨v, k, _, _, _, hd, _⟩ := h
  have := k.deep_pos
  omega
/-- a kind in the bounds of these laws -/
def KOk (H : Hp) (v : V) (k : Kd) : Prop := KAt H v k ∧ k.ok ∧ k.deep ≤ 8 ∧ k.letters.length ≤ 40
def spLetters : Sp := fun vs H Q _ => ∃ (v : V) (k : Kd), vs = [v] ∧ KOk H v k ∧ ∀ ss H', Same H H' → Srt k.letters ss → Q (.str (Txt.join "" ss)) H'
def spSize : Sp := fun vs H Q _ => ∃ (v : V) (k : Kd), vs = [v] ∧ KOk H v k ∧ ∀ H', Same H H' → Q (.int (k.letters.length : Int)) H'
def spDepth : Sp := fun vs H Q _ => ∃ (v : V) (k : Kd), vs = [v] ∧ KOk H v k ∧ Q (.int (k.deep : Int)) H
def spIsSingle : Sp := fun vs H Q _ => ∃ (v : V) (k : Kd), vs = [v] ∧ KOk H v k ∧ Q (.bl k.single) H
/-- the law's source of draws: the list at a, its great cells at g; at most n draws so far -/
def SrcAt (H : Hp) (a g : Addr) (n : Nat) : Prop := ∃ (gs : List Int) (i o m c : Int), a ≠ g ∧ H a = some (.lst [.ref g, .int i, .int o, .int m, .int c]) ∧ H g = some (.lst (gs.map V.int)) ∧
  gs.length ≤ 63 ∧ (∀ x ∈ gs, 0 ≤ x) ∧ 0 ≤ i ∧ i ≤ gs.length ∧ 0 ≤ o ∧ 0 ≤ m ∧ m < 10 ^ 18 ∧ 0 ≤ c ∧ c ≤ n
theorem SrcAt.mono {H H' : Hp} {a g : Addr} {n n' : Nat} (h : SrcAt H a g n) (e : Same H H') (l : n ≤ n') : SrcAt H' a g n' := by
  obtain ⟨gs, i, o, m, c, h1, h2, h3, h4, h5, h6, h7, h8, h9, h10, h11, h12⟩ := h
  exact ⟨gs, i, o, m, c, h1, e _ _ h2, e _ _ h3, h4, h5, h6, h7, h8, h9, h10, h11, by omega⟩
theorem SrcAt.le {H : Hp} {a g : Addr} {n n' : Nat} (h : SrcAt H a g n) (l : n ≤ n') : SrcAt H a g n' := h.mono (Same.refl H) l
theorem SrcAt.lst {H : Hp} {a g : Addr} {n : Nat} (h : SrcAt H a g n) : ∃ xs, H a = some (.lst xs) := by
  obtain ⟨gs, i, o, m, c, _, h2, _⟩ := h
  exact ⟨_, h2⟩
theorem SrcAt.ne {H : Hp} {a g p : Addr} {n : Nat} (h : SrcAt H a g n) (hp : H p = none) : p ≠ a ∧ p ≠ g := by
  obtain ⟨gs, i, o, m, c, _, h2, h3, _⟩ := h
  exact ⟨(ne_of_none h2 hp).symm, (ne_of_none h3 hp).symm⟩
theorem SrcAt.upd {H : Hp} {a g p : Addr} {n : Nat} {u : HO} (h : SrcAt H a g n) (na : p ≠ a ∧ p ≠ g) : SrcAt (upd H p u) a g n := by
  obtain ⟨gs, i, o, m, c, h1, h2, h3, rest⟩ := h
  refine ⟨gs, i, o, m, c, h1, ?_, ?_, rest⟩
  · rw [upd_ne na.1.symm]
    exact h2
  · rw [upd_ne na.2.symm]
    exact h3
theorem SrcAt.new {H : Hp} {a g p : Addr} {n : Nat} {u : HO} (h : SrcAt H a g n) (hp : H p = none) : SrcAt (L2.upd H p u) a g n := h.upd (h.ne hp)
def spBegun (K : PySem.W.Frag) : Sp := fun vs H Q _ => ∃ (s : Addr) (ns : List Int), vs = [.ref s] ∧ SqL K H s (ns.map V.int) ∧ ns.length ≤ 63 ∧
  ∀ a g H', Same H H' → H a = none → H g = none → SrcAt H' a g 0 → Q (.ref a) H'
def spPick : Sp := fun vs H Q _ => ∃ (a g : Addr) (m : Int) (n : Nat), vs = [.ref a, .int m] ∧ 0 < m ∧ m < 2 ^ 200 ∧ SrcAt H a g n ∧ n ≤ 1000000 ∧
  ∀ r H', 0 ≤ r → r < m → But a H H' → SrcAt H' a g (n + 1) → Q (.int r) H'
def spAlike (K : PySem.W.Frag) (n : Nat) : Sp := fun vs H Q _ => ∃ (x y : V) (d : PyData), vs = [x, y] ∧ Dp K H x d ∧ Dp K H y d ∧ Gd n d ∧ ∀ H', Same H H' → Q (.bl true) H'
theorem spAlike_0 {K : PySem.W.Frag} {vs : List V} {H : Hp} {Q : VK} {E : XK} (h : spAlike K 0 vs H Q E) : False := by
  obtain ⟨x, y, d, _, _, _, g, _⟩ := h
  exact g
/-- a pool of letters -/
def Pool (t : Str) : Prop := AllLet t ∧ 1 ≤ t.length ∧ t.length ≤ 14
def spPool : Sp := fun vs H Q _ => ∃ (a g : Addr) (n : Nat), vs = [.ref a] ∧ SrcAt H a g n ∧ n ≤ 900000 ∧ ∀ t H', But a H H' → SrcAt H' a g (n + 9) → AllLet t → 1 ≤ t.length → t.length ≤ 7 → Q (.str t) H'
/-- a list of forms -/
def Forms (fs : List Str) : Prop := fs ≠ [] ∧ fs.length ≤ 10 ∧ ∀ f ∈ fs, Form f
def spGrown (n : Nat) : Sp := fun vs H Q _ => ∃ (a g l : Addr) (most deep : Int) (fs : List Str) (t : Str) (c : Nat), vs = [.ref a, .int most, .int deep, .ref l, .str t] ∧ SrcAt H a g c ∧ c + 3 * most.toNat ≤ 900000 ∧ l ≠ a ∧ H l = some (.lst (fs.map V.str)) ∧ Forms fs ∧ Pool t ∧
  1 ≤ most ∧ most ≤ 20 ∧ 1 ≤ deep ∧ deep ≤ n ∧ ∀ v k H', But a H H' → SrcAt H' a g (c + 3 * most.toNat - 2) → KAt H' v k → k.ok → (k.deep : Int) ≤ deep → (k.letters.length : Int) ≤ most → Q v H'
theorem spGrown_0 {vs : List V} {H : Hp} {Q : VK} {E : XK} (h : spGrown 0 vs H Q E) : False := by
  obtain ⟨a, g, l, most, deep, fs, t, c, _, _, _, _, _, _, _, _, _, h1, h2, _⟩ := h
  omega
structure Txt (w : World) (K : PySem.W.Frag) (mg : Str → Option Value) where
  a_is_letter : Addr
  d_is_letter : FuncData
  F_is_letter : Fun K "is_letter" "is_letter" s_is_letter a_is_letter d_is_letter
  m_is_letter : mg "is_letter" = some (.ref a_is_letter)
  B_is_letter : Binds K d_is_letter P_is_letter []
  a_wrong_part : Addr
  d_wrong_part : FuncData
  F_wrong_part : Fun K "wrong_part" "wrong_part" s_wrong_part a_wrong_part d_wrong_part
  m_wrong_part : mg "wrong_part" = some (.ref a_wrong_part)
  B_wrong_part : Binds K d_wrong_part P_wrong_part []
  a_checked_kind : Addr
  d_checked_kind : FuncData
  F_checked_kind : Fun K "checked_kind" "checked_kind" s_checked_kind a_checked_kind d_checked_kind
  m_checked_kind : mg "checked_kind" = some (.ref a_checked_kind)
  B_checked_kind : Binds K d_checked_kind P_checked_kind []
  a_single : Addr
  d_single : FuncData
  F_single : Fun K "single" "single" s_single a_single d_single
  m_single : mg "single" = some (.ref a_single)
  B_single : Binds K d_single P_single []
  a_letters_of : Addr
  d_letters_of : FuncData
  F_letters_of : Fun K "letters_of" "letters_of" s_letters_of a_letters_of d_letters_of
  m_letters_of : mg "letters_of" = some (.ref a_letters_of)
  B_letters_of : Binds K d_letters_of P_letters_of []
  a_depth_of : Addr
  d_depth_of : FuncData
  F_depth_of : Fun K "depth_of" "depth_of" s_depth_of a_depth_of d_depth_of
  m_depth_of : mg "depth_of" = some (.ref a_depth_of)
  B_depth_of : Binds K d_depth_of P_depth_of []
  a_letters : Addr
  d_letters : FuncData
  F_letters : Fun K "letters" "letters" s_letters a_letters d_letters
  m_letters : mg "letters" = some (.ref a_letters)
  B_letters : Binds K d_letters P_letters []
  K_letters : KB0 K d_letters ["kind"] ["kind"] (fun ws => ws) (fun zs => zs)
  a_size : Addr
  d_size : FuncData
  F_size : Fun K "size" "size" s_size a_size d_size
  m_size : mg "size" = some (.ref a_size)
  B_size : Binds K d_size P_size []
  K_size : KB0 K d_size ["kind"] ["kind"] (fun ws => ws) (fun zs => zs)
  a_depth : Addr
  d_depth : FuncData
  F_depth : Fun K "depth" "depth" s_depth a_depth d_depth
  m_depth : mg "depth" = some (.ref a_depth)
  B_depth : Binds K d_depth P_depth []
  K_depth : KB0 K d_depth ["kind"] ["kind"] (fun ws => ws) (fun zs => zs)
  a_is_single : Addr
  d_is_single : FuncData
  F_is_single : Fun K "is_single" "is_single" s_is_single a_is_single d_is_single
  m_is_single : mg "is_single" = some (.ref a_is_single)
  B_is_single : Binds K d_is_single P_is_single []
  K_is_single : KB0 K d_is_single ["kind"] ["kind"] (fun ws => ws) (fun zs => zs)
  a_begun : Addr
  d_begun : FuncData
  F_begun : Fun K "_law_begun" "_law_begun" s_begun a_begun d_begun
  m_begun : mg "_law_begun" = some (.ref a_begun)
  B_begun : Binds K d_begun P_begun []
  a_pick : Addr
  d_pick : FuncData
  F_pick : Fun K "_law_pick" "_law_pick" s_pick a_pick d_pick
  m_pick : mg "_law_pick" = some (.ref a_pick)
  B_pick : Binds K d_pick P_pick []
  a_alike : Addr
  d_alike : FuncData
  F_alike : Fun K "_law_alike" "_law_alike" s_alike a_alike d_alike
  m_alike : mg "_law_alike" = some (.ref a_alike)
  B_alike : Binds K d_alike P_alike []
  a_pool : Addr
  d_pool : FuncData
  F_pool : Fun K "_law_pool" "_law_pool" s_pool a_pool d_pool
  m_pool : mg "_law_pool" = some (.ref a_pool)
  B_pool : Binds K d_pool P_pool []
  a_grown : Addr
  d_grown : FuncData
  F_grown : Fun K "_law_grown" "_law_grown" s_grown a_grown d_grown
  m_grown : mg "_law_grown" = some (.ref a_grown)
  B_grown : Binds K d_grown P_grown []
  a_places : Addr
  d_places : FuncData
  F_places : Fun K "_law_places" "_law_places" s_places a_places d_places
  m_places : mg "_law_places" = some (.ref a_places)
  B_places : Binds K d_places P_places []
  a_leaning : Addr
  d_leaning : FuncData
  F_leaning : Fun K "_law_leaning" "_law_leaning" s_leaning a_leaning d_leaning
  m_leaning : mg "_law_leaning" = some (.ref a_leaning)
  B_leaning : Binds K d_leaning P_leaning []
  a_full : Addr
  d_full : FuncData
  F_full : Fun K "_law_full" "_law_full" s_full a_full d_full
  m_full : mg "_law_full" = some (.ref a_full)
  B_full : Binds K d_full P_full []
  a_has_with : Addr
  d_has_with : FuncData
  F_has_with : Fun K "_law_has_with" "_law_has_with" s_has_with a_has_with d_has_with
  m_has_with : mg "_law_has_with" = some (.ref a_has_with)
  B_has_with : Binds K d_has_with P_has_with []
  a_dues : Addr
  d_dues : FuncData
  F_dues : Fun K "_law_dues" "_law_dues" s_dues a_dues d_dues
  m_dues : mg "_law_dues" = some (.ref a_dues)
  B_dues : Binds K d_dues P_dues []
  a_law : Addr
  d_law : FuncData
  F_law : Fun K "law" "law" s_law a_law d_law
  m_law : mg "law" = some (.ref a_law)
  B_law : Binds K d_law P_law []
  b_bool : mg "bool" = none
  b_int : mg "int" = none
  b_isinstance : mg "isinstance" = none
  b_len : mg "len" = none
  b_list : mg "list" = none
  b_max : mg "max" = none
  b_range : mg "range" = none
  b_set : mg "set" = none
  b_sorted : mg "sorted" = none
  b_str : mg "str" = none
  b_tuple : mg "tuple" = none
  b_zip : mg "zip" = none
  t_LETTERS : Tok
  g_LETTERS : mg "LETTERS" = some (.str "abcdefghijklmnopqrstuvwxyz" t_LETTERS)
  o_TURNS : Addr
  e_TURNS : Array DictEntry
  n_TURNS : Nat
  g_TURNS : mg "TURNS" = some (.ref o_TURNS)
  D_TURNS : KDict K w o_TURNS e_TURNS n_TURNS
  t0_TURNS : Tok
  v0_TURNS : PySem.W.nsIn K o_TURNS "behind" = some (some (.str "ahead" t0_TURNS))
  t1_TURNS : Tok
  v1_TURNS : PySem.W.nsIn K o_TURNS "ahead" = some (some (.str "behind" t1_TURNS))
  t2_TURNS : Tok
  v2_TURNS : PySem.W.nsIn K o_TURNS "with" = some (some (.str "with" t2_TURNS))
end K01

namespace K01
open PySem PySem.Spec PyProof.Rows L2 Ww
section
variable {P : Program} {w : World} {K : PySem.W.Frag} {mg : Str → Option Value} {base : Heap}
theorem ok_is_letter (T : Txt w K mg) : FnOk P w K mg base CX0 (1) T.a_is_letter T.d_is_letter P_is_letter (spIsLetter) := by
  refine T.F_is_letter.ok sc_is_letter (fun vs H Q E h => ?_) (fun cdv A outer s H vs Q E hr h => ⟨_, (pss_one (ps_ret (pe_and (pe_cmpR op_eq (pe_callB call_len_str rfl T.b_len PySem.boot_len (pa_cons (pv 0) pa_nil)) pe_int (nomark _)) (pe_one (pe_cmpR op_in_sign (pv 0) (pe_glob (v := .str _) rfl T.g_LETTERS ⟨_, rfl⟩) rfl))))), ?_⟩)
  · obtain ⟨s, rfl, _⟩ := h
    rfl
  · obtain ⟨s, rfl, hz, q⟩ := h
    refine ⟨_, rfl, s, rfl, sz1 hz, rfl, _, rfl, ?_⟩
    by_cases c : s.length = 1
    · obtain ⟨x, rfl⟩ := str_one c
      refine bt rfl ⟨_, rfl, x, _, rfl, rfl, ?_⟩
      have e : decide (x ∈ (Str.ofString "abcdefghijklmnopqrstuvwxyz").cps.toList) = isLet ⟨#[x]⟩ := by
        rw [isLet_one]
        exact decide_eq_decide.mpr (abc_mem x)
      rw [e]
      exact q
    · refine bf (decide_eq_false fun z => c ?_) ?_
      · have z2 : (s.length : Int) = 1 := V.int.inj z
        omega
      · rw [isLet_many c] at q
        exact q
end
end K01

namespace K01
open PySem PySem.Spec PyProof.Rows L2 Ww
section
variable {P : Program} {w : World} {K : PySem.W.Frag} {mg : Str → Option Value} {base : Heap}
theorem turns (T : Txt w K mg) : ∀ {f : Str}, Form f → ∃ u, PySem.W.nsIn K T.o_TURNS f = some (some u) := by
  rintro f (rfl | rfl | rfl)
  · exact ⟨_, T.v0_TURNS⟩
  · exact ⟨_, T.v1_TURNS⟩
  · exact ⟨_, T.v2_TURNS⟩
theorem ok_wrong_part (T : Txt w K mg) : ∀ n : Nat, FnOk P w K mg base CX0 (n + 1) T.a_wrong_part T.d_wrong_part P_wrong_part (spWrong n)
  | 0 => fn_none fun vs H Q E h => spWrong_0 h
  | n + 1 => by
    have IH := ok_wrong_part T n
    refine T.F_wrong_part.ok sc_wrong_part (fun vs H Q E h => ?_) (fun cdv A outer s H vs Q E hr h => ⟨_, (pss_cons (ps_if (pt_cmpR op_eq (pe_ix ix_tup (pv 0) pe_int (fun _ _ => rfl)) pe_str (nomark _))
    (pss_one (ps_ret (pe_ifExp (pt_val (pe_call (ok_is_letter T) (hr.mono (by first | decide | omega)) rfl T.m_is_letter T.F_is_letter.kp T.B_is_letter .nil pass0 (pa_cons (pe_ix ix_tup (pv 0) pe_int (fun _ _ => rfl)) pa_nil))) pe_non (pv 0))))
    pss_nil)
    (pss_cons (ps_if (pt_cmpR (op_notIn_kd T.D_TURNS) (pe_ix ix_tup (pv 0) pe_int (fun _ _ => rfl)) (pe_glob (v := .ref _) rfl T.g_TURNS rfl) rfl)
    (pss_one (ps_ret (pv 0)))
    pss_nil)
    (pss_cons (ps_set (i := 1) sc_wrong_part.nd rfl (Or.inl rfl) (pe_call IH (hr.mono (by first | decide | omega)) rfl T.m_wrong_part T.F_wrong_part.kp T.B_wrong_part .nil pass0 (pa_cons (pe_ix ix_tup (pv 0) pe_int (fun _ _ => rfl)) pa_nil)))
    (pss_one (ps_ret (pe_ifExp (pt_cmp (pc_isN (pv 1))) (pe_call IH (hr.mono (by first | decide | omega)) rfl T.m_wrong_part T.F_wrong_part.kp T.B_wrong_part .nil pass0 (pa_cons (pe_ix ix_tup (pv 0) pe_int (fun _ _ => rfl)) pa_nil)) (pv 1))))))), ?_⟩)
    · obtain ⟨v, k, rfl, _⟩ := h
      rfl
    · obtain ⟨v, k, rfl, hk, ok, hd, q⟩ := h
      cases k with
      | pl s =>
        obtain ⟨p, rfl, hp⟩ := hk
        refine ⟨_, rfl, p, _, _, _, rfl, rfl, SqT.of hp, at0, rfl, _, rfl, bt rfl ?_⟩
        exact ⟨_, rfl, p, _, _, _, rfl, rfl, SqT.of hp, at1, s, rfl, ok.small, _, rfl, bt (isLet_iff.mpr ok) q⟩
      | nd f a b =>
        obtain ⟨p, x, y, rfl, hp, ha, hb⟩ := hk
        obtain ⟨hf, oa, ob⟩ := ok
        have dm : 1 + max a.deep b.deep ≤ n + 1 := hd
        obtain ⟨u, hu⟩ := turns T hf
        refine ⟨_, rfl, p, _, _, _, rfl, rfl, SqT.of hp, at0, rfl, _, rfl, bf (plain_ne hf) ?_⟩
        refine ⟨_, rfl, p, _, _, _, rfl, rfl, SqT.of hp, at0, f, _, rfl, rfl, hu, _, rfl, bf rfl ?_⟩
        refine ⟨_, rfl, p, _, _, _, rfl, rfl, SqT.of hp, at1, x, a, rfl, ha, oa, by omega, ?_⟩
        refine ⟨_, rfl, _, rfl, bt (decide_eq_true rfl) ?_⟩
        exact ⟨_, rfl, p, _, _, _, rfl, rfl, SqT.of hp, at2, y, b, rfl, hb, ob, by omega, q⟩
end
end K01

namespace K01
open PySem PySem.Spec PyProof.Rows L2 Ww
section
variable {P : Program} {w : World} {K : PySem.W.Frag} {mg : Str → Option Value} {base : Heap}
theorem ok_checked_kind (T : Txt w K mg) : FnOk P w K mg base CX0 (10) T.a_checked_kind T.d_checked_kind P_checked_kind (spChecked) := by
  refine T.F_checked_kind.ok sc_checked_kind (fun vs H Q E h => ?_) (fun cdv A outer s H vs Q E hr h => ⟨_, (pss_cons (ps_set (i := 1) sc_checked_kind.nd rfl (Or.inl rfl) (pe_call (ok_wrong_part T 8) (hr.mono (by first | decide | omega)) rfl T.m_wrong_part T.F_wrong_part.kp T.B_wrong_part .nil pass0 (pa_cons (pv 0) pa_nil)))
    (pss_cons (ps_if (pt_cmp (pc_notN (pv 1)))
    (pss_one ps_never)
    pss_nil)
    (pss_one (ps_ret (pv 0))))), ?_⟩)
  · obtain ⟨v, k, rfl, _⟩ := h
    rfl
  · obtain ⟨v, k, rfl, hk, ok, hd, q⟩ := h
    refine ⟨_, rfl, v, k, rfl, hk, ok, hd, ?_⟩
    exact ⟨_, rfl, _, rfl, bf (by decide) ⟨_, rfl, q⟩⟩
end
end K01

namespace K01
open PySem PySem.Spec PyProof.Rows L2 Ww
section
variable {P : Program} {w : World} {K : PySem.W.Frag} {mg : Str → Option Value} {base : Heap}
theorem ok_single (T : Txt w K mg) : ∀ n : Nat, FnOk P w K mg base CX0 (n + 1) T.a_single T.d_single P_single (spSingle n)
  | 0 => fn_none fun vs H Q E h => spSingle_0 h
  | n + 1 => by
    have IH := ok_single T n
    refine T.F_single.ok sc_single (fun vs H Q E h => ?_) (fun cdv A outer s H vs Q E hr h => ⟨_, (pss_cons (ps_if (pt_cmpR op_eq (pe_ix ix_tup (pv 0) pe_int (fun _ _ => rfl)) pe_str (nomark _))
    (pss_one (ps_ret pe_bl))
    pss_nil)
    (pss_one (ps_ret (pe_and (pe_cmpR op_ne (pe_ix ix_tup (pv 0) pe_int (fun _ _ => rfl)) pe_str (nomark _)) (pe_and (pe_call IH (hr.mono (by first | decide | omega)) rfl T.m_single T.F_single.kp T.B_single .nil pass0 (pa_cons (pe_ix ix_tup (pv 0) pe_int (fun _ _ => rfl)) pa_nil)) (pe_one (pe_call IH (hr.mono (by first | decide | omega)) rfl T.m_single T.F_single.kp T.B_single .nil pass0 (pa_cons (pe_ix ix_tup (pv 0) pe_int (fun _ _ => rfl)) pa_nil)))))))), ?_⟩)
    · obtain ⟨v, k, rfl, _⟩ := h
      rfl
    · obtain ⟨v, k, rfl, hk, ok, hd, q⟩ := h
      cases k with
      | pl s =>
        obtain ⟨p, rfl, hp⟩ := hk
        exact ⟨_, rfl, p, _, _, _, rfl, rfl, SqT.of hp, at0, rfl, _, rfl, bt rfl q⟩
      | nd f a b =>
        obtain ⟨p, x, y, rfl, hp, ha, hb⟩ := hk
        obtain ⟨hf, oa, ob⟩ := ok
        have dm : 1 + max a.deep b.deep ≤ n + 1 := hd
        refine ⟨_, rfl, p, _, _, _, rfl, rfl, SqT.of hp, at0, rfl, _, rfl, bf (plain_ne hf) ?_⟩
        refine ⟨_, rfl, p, _, _, _, rfl, rfl, SqT.of hp, at0, rfl, _, rfl, ?_⟩
        have eq : decide (V.str f = V.str "with") = decide (f = "with") := by
          rw [decide_eq_decide]
          exact ⟨fun z => V.str.inj z, fun z => by rw [z]⟩
        have q' : Q (.bl (!decide (f = "with") && (a.single && b.single))) H := q
        refine bb (fun c => ?_) (fun c => ?_)
        · rw [eq] at c
          rw [c] at q'
          refine ⟨_, rfl, p, _, _, _, rfl, rfl, SqT.of hp, at1, x, a, rfl, ha, oa, by omega, _, rfl, ?_⟩
          refine bb (fun c2 => ?_) (fun c2 => ?_)
          · rw [c2] at q'
            exact ⟨_, rfl, p, _, _, _, rfl, rfl, SqT.of hp, at2, y, b, rfl, hb, ob, by omega, q'⟩
          · rw [c2] at q'
            exact q'
        · rw [eq] at c
          rw [c] at q'
          exact q'
end
end K01

namespace K01
open PySem PySem.Spec PyProof.Rows L2 Ww
section
variable {P : Program} {w : World} {K : PySem.W.Frag} {mg : Str → Option Value} {base : Heap}
theorem ok_letters_of (T : Txt w K mg) : ∀ n : Nat, FnOk P w K mg base CX0 (n + 1) T.a_letters_of T.d_letters_of P_letters_of (spLettersOf n)
  | 0 => fn_none fun vs H Q E h => spLettersOf_0 h
  | n + 1 => by
    have IH := ok_letters_of T n
    refine T.F_letters_of.ok sc_letters_of (fun vs H Q E h => ?_) (fun cdv A outer s H vs Q E hr h => ⟨_, (pss_one (ps_ret (pe_ifExp (pt_cmpR op_eq (pe_ix ix_tup (pv 0) pe_int (fun _ _ => rfl)) pe_str (nomark _)) (pe_lst (pa_cons (pe_ix ix_tup (pv 0) pe_int (fun _ _ => rfl)) pa_nil)) (pe_op op_cat (pe_call IH (hr.mono (by first | decide | omega)) rfl T.m_letters_of T.F_letters_of.kp T.B_letters_of .nil pass0 (pa_cons (pe_ix ix_tup (pv 0) pe_int (fun _ _ => rfl)) pa_nil)) (pe_call IH (hr.mono (by first | decide | omega)) rfl T.m_letters_of T.F_letters_of.kp T.B_letters_of .nil pass0 (pa_cons (pe_ix ix_tup (pv 0) pe_int (fun _ _ => rfl)) pa_nil)))))), ?_⟩)
    · obtain ⟨v, k, rfl, _⟩ := h
      rfl
    · obtain ⟨v, k, rfl, hk, ok, hd, hz, q⟩ := h
      cases k with
      | pl s =>
        obtain ⟨p, rfl, hp⟩ := hk
        refine ⟨_, rfl, p, _, _, _, rfl, rfl, SqT.of hp, at0, rfl, _, rfl, bt rfl ?_⟩
        exact ⟨_, rfl, p, _, _, _, rfl, rfl, SqT.of hp, at1, sz1 (by show 1 ≤ 1000000; decide), fun r hr' => q r _ (same_new hr' _) upd_same⟩
      | nd f a b =>
        obtain ⟨p, x, y, rfl, hp, ha, hb⟩ := hk
        obtain ⟨hf, oa, ob⟩ := ok
        have dm : 1 + max a.deep b.deep ≤ n + 1 := hd
        have lz : (a.letters ++ b.letters).length ≤ 1000 := hz
        rw [List.length_append] at lz
        refine ⟨_, rfl, p, _, _, _, rfl, rfl, SqT.of hp, at0, rfl, _, rfl, bf (plain_ne hf) ?_⟩
        refine ⟨_, rfl, p, _, _, _, rfl, rfl, SqT.of hp, at1, x, a, rfl, ha, oa, by omega, by omega, fun r1 H1 e1 h1 => ?_⟩
        refine ⟨_, rfl, p, _, _, _, rfl, rfl, SqT.of (e1 _ _ hp), at2, y, b, rfl, hb.mono (.of e1), ob, by omega, by omega, fun r2 H2 e2 h2 => ?_⟩
        refine ⟨r1, r2, _, _, rfl, rfl, e2 _ _ h1, h2, sz1 (by rw [List.length_map, List.length_map]; omega), fun t ht => ?_⟩
        refine q t _ (e1.trans (e2.trans (same_new ht _))) ?_
        rw [upd_same, ← List.map_append]
        rfl
end
end K01

namespace K01
open PySem PySem.Spec PyProof.Rows L2 Ww
section
variable {P : Program} {w : World} {K : PySem.W.Frag} {mg : Str → Option Value} {base : Heap}
theorem ok_depth_of (T : Txt w K mg) : ∀ n : Nat, FnOk P w K mg base CX0 (n + 1) T.a_depth_of T.d_depth_of P_depth_of (spDepthOf n)
  | 0 => fn_none fun vs H Q E h => spDepthOf_0 h
  | n + 1 => by
    have IH := ok_depth_of T n
    refine T.F_depth_of.ok sc_depth_of (fun vs H Q E h => ?_) (fun cdv A outer s H vs Q E hr h => ⟨_, (pss_one (ps_ret (pe_ifExp (pt_cmpR op_eq (pe_ix ix_tup (pv 0) pe_int (fun _ _ => rfl)) pe_str (nomark _)) pe_int (pe_op op_add pe_int (pe_callB (call_max2 rfl) rfl T.b_max (by decide +kernel) (pa_cons (pe_call IH (hr.mono (by first | decide | omega)) rfl T.m_depth_of T.F_depth_of.kp T.B_depth_of .nil pass0 (pa_cons (pe_ix ix_tup (pv 0) pe_int (fun _ _ => rfl)) pa_nil)) (pa_cons (pe_call IH (hr.mono (by first | decide | omega)) rfl T.m_depth_of T.F_depth_of.kp T.B_depth_of .nil pass0 (pa_cons (pe_ix ix_tup (pv 0) pe_int (fun _ _ => rfl)) pa_nil)) pa_nil))))))), ?_⟩)
    · obtain ⟨v, k, rfl, _⟩ := h
      rfl
    · obtain ⟨v, k, rfl, hk, ok, hd, q⟩ := h
      cases k with
      | pl s =>
        obtain ⟨p, rfl, hp⟩ := hk
        exact ⟨_, rfl, p, _, _, _, rfl, rfl, SqT.of hp, at0, rfl, _, rfl, bt rfl q⟩
      | nd f a b =>
        obtain ⟨p, x, y, rfl, hp, ha, hb⟩ := hk
        obtain ⟨hf, oa, ob⟩ := ok
        have dm : 1 + max a.deep b.deep ≤ n + 1 := hd
        refine ⟨_, rfl, p, _, _, _, rfl, rfl, SqT.of hp, at0, rfl, _, rfl, bf (plain_ne hf) ?_⟩
        refine ⟨_, rfl, p, _, _, _, rfl, rfl, SqT.of hp, at1, x, a, rfl, ha, oa, by omega, ?_⟩
        refine ⟨_, rfl, p, _, _, _, rfl, rfl, SqT.of hp, at2, y, b, rfl, hb, ob, by omega, ?_⟩
        refine ⟨_, _, rfl, _, _, rfl, rfl, ?_⟩
        have e : (1 : Int) + (if (b.deep : Int) > (a.deep : Int) then (b.deep : Int) else (a.deep : Int)) = ((1 + max a.deep b.deep : Nat) : Int) := by
          split <;> omega
        have q' : Q (.int ((1 + max a.deep b.deep : Nat) : Int)) H := q
        rw [← e] at q'
        exact q'
end
end K01

namespace K01
open PySem PySem.Spec PyProof.Rows L2 Ww
section
variable {P : Program} {w : World} {K : PySem.W.Frag} {mg : Str → Option Value} {base : Heap}
theorem ok_letters (T : Txt w K mg) : FnOk P w K mg base CX0 (11) T.a_letters T.d_letters P_letters (spLetters) := by
  refine T.F_letters.ok sc_letters (fun vs H Q E h => ?_) (fun cdv A outer s H vs Q E hr h => ⟨_, (pss_one (ps_ret (pe_join pe_str (pe_callB (cr_sortS rfl) rfl T.b_sorted (by decide +kernel) (pa_cons (pe_callTy (cr_setS rfl) (by rfl) T.b_set (by decide +kernel) (pa_cons (pe_call (ok_letters_of T 8) (hr.mono (by first | decide | omega)) rfl T.m_letters_of T.F_letters_of.kp T.B_letters_of .nil pass0 (pa_cons (pe_call (ok_checked_kind T) (hr.mono (by first | decide | omega)) rfl T.m_checked_kind T.F_checked_kind.kp T.B_checked_kind .nil pass0 (pa_cons (pv 0) pa_nil)) pa_nil)) pa_nil)) pa_nil))))), ?_⟩)
  · obtain ⟨v, k, rfl, _⟩ := h
    rfl
  · obtain ⟨v, k, rfl, ⟨hk, ok, hd, hz⟩, q⟩ := h
    refine ⟨⟨_, rfl⟩, _, rfl, v, k, rfl, hk, ok, hd, v, k, rfl, hk, ok, hd, by omega, fun r1 H1 e1 h1 => ?_⟩
    refine ⟨r1, k.letters, rfl, SqL.of h1, by omega, fun p2 hp2 => ?_⟩
    have l2 := dedup_len k.letters []
    rw [List.length_nil] at l2
    refine ⟨p2, _, rfl, upd_same, by omega, fun ss p3 hs hp3 => ?_⟩
    have hs' := hs.of_dedup
    refine ⟨_, p3, ss, rfl, rfl, .inl (SqL.of upd_same), ?_, q ss _ (e1.trans ((same_new hp2 _).trans (same_new hp3 _))) hs'⟩
    exact join_small hs' ok hz
end
end K01

namespace K01
open PySem PySem.Spec PyProof.Rows L2 Ww
section
variable {P : Program} {w : World} {K : PySem.W.Frag} {mg : Str → Option Value} {base : Heap}
theorem ok_size (T : Txt w K mg) : FnOk P w K mg base CX0 (11) T.a_size T.d_size P_size (spSize) := by
  refine T.F_size.ok sc_size (fun vs H Q E h => ?_) (fun cdv A outer s H vs Q E hr h => ⟨_, (pss_one (ps_ret (pe_callB call_len_seq rfl T.b_len PySem.boot_len (pa_cons (pe_call (ok_letters_of T 8) (hr.mono (by first | decide | omega)) rfl T.m_letters_of T.F_letters_of.kp T.B_letters_of .nil pass0 (pa_cons (pe_call (ok_checked_kind T) (hr.mono (by first | decide | omega)) rfl T.m_checked_kind T.F_checked_kind.kp T.B_checked_kind .nil pass0 (pa_cons (pv 0) pa_nil)) pa_nil)) pa_nil)))), ?_⟩)
  · obtain ⟨v, k, rfl, _⟩ := h
    rfl
  · obtain ⟨v, k, rfl, ⟨hk, ok, hd, hz⟩, q⟩ := h
    refine ⟨_, rfl, v, k, rfl, hk, ok, hd, v, k, rfl, hk, ok, hd, by omega, fun r1 H1 e1 h1 => ?_⟩
    refine ⟨r1, _, rfl, .inl (SqL.of h1), ?_⟩
    rw [List.length_map]
    exact q H1 e1
end
end K01

namespace K01
open PySem PySem.Spec PyProof.Rows L2 Ww
section
variable {P : Program} {w : World} {K : PySem.W.Frag} {mg : Str → Option Value} {base : Heap}
theorem ok_depth (T : Txt w K mg) : FnOk P w K mg base CX0 (11) T.a_depth T.d_depth P_depth (spDepth) := by
  refine T.F_depth.ok sc_depth (fun vs H Q E h => ?_) (fun cdv A outer s H vs Q E hr h => ⟨_, (pss_one (ps_ret (pe_call (ok_depth_of T 8) (hr.mono (by first | decide | omega)) rfl T.m_depth_of T.F_depth_of.kp T.B_depth_of .nil pass0 (pa_cons (pe_call (ok_checked_kind T) (hr.mono (by first | decide | omega)) rfl T.m_checked_kind T.F_checked_kind.kp T.B_checked_kind .nil pass0 (pa_cons (pv 0) pa_nil)) pa_nil)))), ?_⟩)
  · obtain ⟨v, k, rfl, _⟩ := h
    rfl
  · obtain ⟨v, k, rfl, ⟨hk, ok, hd, hz⟩, q⟩ := h
    exact ⟨_, rfl, v, k, rfl, hk, ok, hd, v, k, rfl, hk, ok, hd, q⟩
end
end K01

namespace K01
open PySem PySem.Spec PyProof.Rows L2 Ww
section
variable {P : Program} {w : World} {K : PySem.W.Frag} {mg : Str → Option Value} {base : Heap}
theorem ok_is_single (T : Txt w K mg) : FnOk P w K mg base CX0 (11) T.a_is_single T.d_is_single P_is_single (spIsSingle) := by
  refine T.F_is_single.ok sc_is_single (fun vs H Q E h => ?_) (fun cdv A outer s H vs Q E hr h => ⟨_, (pss_one (ps_ret (pe_call (ok_single T 8) (hr.mono (by first | decide | omega)) rfl T.m_single T.F_single.kp T.B_single .nil pass0 (pa_cons (pe_call (ok_checked_kind T) (hr.mono (by first | decide | omega)) rfl T.m_checked_kind T.F_checked_kind.kp T.B_checked_kind .nil pass0 (pa_cons (pv 0) pa_nil)) pa_nil)))), ?_⟩)
  · obtain ⟨v, k, rfl, _⟩ := h
    rfl
  · obtain ⟨v, k, rfl, ⟨hk, ok, hd, hz⟩, q⟩ := h
    exact ⟨_, rfl, v, k, rfl, hk, ok, hd, v, k, rfl, hk, ok, hd, q⟩
end
end K01

namespace K01
open PySem PySem.Spec PyProof.Rows L2 Ww
section
variable {P : Program} {w : World} {K : PySem.W.Frag} {mg : Str → Option Value} {base : Heap}
theorem ok_begun (T : Txt w K mg) : FnOk P w K mg base CX0 (1) T.a_begun T.d_begun P_begun (spBegun K) := by
  refine T.F_begun.ok sc_begun (fun vs H Q E h => ?_) (fun cdv A outer s H vs Q E hr h => ⟨_, (pss_cons (ps_par (i := 1) (j := 2) rfl sc_begun.nd rfl rfl (by decide) rfl rfl (pa_cons (pe_lst pa_nil) (pa_cons pe_int pa_nil)) rfl)
    (pss_cons (ps_for PassesOwn.never rfl (pi_range1 rfl T.b_range (pa_cons (pe_callB call_len_seq rfl T.b_len PySem.boot_len (pa_cons (pv 0) pa_nil)) pa_nil)) (pg_name (i := 3) sc_begun.nd rfl (Or.inl rfl))
    (pss_one (ps_if (pt_cmpR op_ge (pe_ix ix_list (pv 0) (pv 3) (fun _ _ => rfl)) (pe_op op_pow pe_int pe_int) (nomark _))
    (pss_one (ps_expr (pe_bm PySem.F.plainAttrs_list PySem.F.slot_list_append PySem.F.type_list_append mt_append (pv 1) (pa_cons (pe_op op_sub (pe_ix ix_list (pv 0) (pv 3) (fun _ _ => rfl)) (pe_op op_pow pe_int pe_int)) pa_nil))))
    (pss_one (ps_set (i := 2) sc_begun.nd rfl (Or.inl rfl) (pe_op op_mod (pe_callTy call_int1 (by rfl) T.b_int (by decide +kernel) (pa_cons (pe_op op_add (pe_op op_pow (pe_op op_add (pe_op op_add (pv 2) (pe_op op_mod (pe_callTy call_int1 (by rfl) T.b_int (by decide +kernel) (pa_cons (pe_ix ix_list (pv 0) (pv 3) (fun _ _ => rfl)) pa_nil)) pe_int)) (pe_op op_mul pe_int (pv 3))) pe_int) (pv 3)) pa_nil)) pe_int))))))
    (pss_one (ps_ret (pe_lst (pa_cons (pv 1) (pa_cons pe_int (pa_cons pe_int (pa_cons (pv 2) (pa_cons pe_int pa_nil)))))))))), ?_⟩)
  · obtain ⟨a, ns, rfl, _⟩ := h
    rfl
  · obtain ⟨a, ns, rfl, hS, h63, q⟩ := h
    refine ⟨sz1 (by show 0 ≤ 1000000; decide), fun g hg => ⟨_, _, rfl, ?_⟩⟩
    have g1 : Same H (upd H g (.lst [])) := same_new hg _
    refine ⟨_, rfl, a, _, rfl, .inl (g1.seq hS), _, rfl, ?_, ?_, for_range (lo := 0) (fun i σ H' => ∃ (v3 : Option V) (gs : List Int) (m : Int), σ = [some (.ref a), some (.ref g), some (.int m), v3] ∧ Same H H' ∧ H' g = some (.lst (gs.map V.int)) ∧
      gs.length ≤ i ∧ (∀ x ∈ gs, 0 ≤ x) ∧ 0 ≤ m ∧ m < 10 ^ 18) ⟨none, [], _, rfl, g1, upd_same, Nat.le_refl 0, (fun _ z => nomatch z), by decide, by decide⟩ ?_ ?_⟩
    · rw [List.length_map]; omega
    · rw [List.length_map]; omega
    · rintro i σ H1 hi ⟨v3, gs, m, rfl, e1, hgs, hl, hpos, m0, m1⟩
      have hi' : i < ns.length := by
        rw [List.length_map] at hi
        omega
      obtain ⟨x, hx, _⟩ := ati hi'
      have hS1 := e1.seq hS
      refine ⟨_, rfl, _, rfl, a, _, _, _, rfl, rfl, hS1, hx, _, _, rfl, rfl, ⟨by decide, by decide, by decide⟩, _, _, rfl, rfl, _, rfl, bb (fun c => ?_) (fun c => ?_)⟩
      · refine ⟨_, rfl, .inl ⟨rfl, _, SqL.of hgs⟩, _, rfl, _, rfl, a, _, _, _, rfl, rfl, hS1, hx, _, _, rfl, rfl, ⟨by decide, by decide, by decide⟩, _, _, rfl, rfl, g, _, _, rfl, rfl, hgs, sz2 (by rw [List.length_map]; omega), ?_⟩
        refine ⟨_, gs ++ [x - 10 ^ (18 : Int).toNat], m, rfl, same_mut e1 hg _, ?_, ?_, ?_, m0, m1⟩
        · rw [upd_same, List.map_append]
          rfl
        · rw [List.length_append]
          exact Nat.succ_le_succ hl
        · intro y hy
          rcases List.mem_append.mp hy with z | z
          · exact hpos y z
          · rw [List.mem_singleton] at z
            rw [z]
            exact Int.sub_nonneg_of_le (of_decide_eq_true c)
      · have x0 : 0 ≤ x % 10000000000037 := Int.emod_nonneg _ (by decide)
        have x1 : x % 10000000000037 < 10000000000037 := Int.emod_lt_of_pos _ (by decide)
        refine ⟨_, rfl, _, rfl, _, rfl, a, _, _, _, rfl, rfl, hS1, hx, .inl ⟨_, rfl, _, _, rfl, rfl, (show (0 : Int) < 10000000000037 by decide), _, _, rfl, rfl, _, rfl, _, _, rfl, rfl, .inl ⟨by decide, by decide⟩, _, _, rfl, rfl, _, _, rfl, rfl, ⟨by decide, by decide, ?_⟩, _, rfl, _, _, rfl, rfl, .inl ⟨_, rfl, _, _, rfl, rfl, (show (0 : Int) < 999999999999999989 by decide), ?_⟩⟩⟩
        · show (m + x % 10000000000037 + 911 * ((0 : Int) + (i : Int))).natAbs < 2 ^ 64
          omega
        · exact ⟨_, gs, _, rfl, e1, hgs, by omega, hpos, Int.emod_nonneg _ (by decide), Int.lt_trans (Int.emod_lt_of_pos _ (by decide)) (by decide)⟩
    · rintro σ H1 ⟨v3, gs, m, rfl, e1, hgs, hl, hpos, m0, m1⟩
      rw [List.length_map] at hl
      refine ⟨_, rfl, _, rfl, sz1 (by show 5 ≤ 1000000; decide), fun p hp => ?_⟩
      exact q p g _ (e1.trans (same_new hp _)) (e1.free hp) hg ⟨gs, 0, 0, m, 0, (ne_of_none hgs hp).symm, upd_same, same_new hp _ _ _ hgs, by omega, hpos, Int.le_refl 0, by omega, Int.le_refl 0, m0, m1, Int.le_refl 0, Int.le_refl 0⟩
end
end K01

namespace K01
open PySem PySem.Spec PyProof.Rows L2 Ww
section
variable {P : Program} {w : World} {K : PySem.W.Frag} {mg : Str → Option Value} {base : Heap}
theorem ok_pick (T : Txt w K mg) : FnOk P w K mg base CX0 (1) T.a_pick T.d_pick P_pick (spPick) := by
  refine T.F_pick.ok sc_pick (fun vs H Q E h => ?_) (fun cdv A outer s H vs Q E hr h => ⟨_, (Evl.pss_cut (ps_if (PW.pt (pw_and (pt_cmpR op_eq (pe_ix ix_list (pv 0) pe_int (fun _ _ => rfl)) pe_int (nomark _)) (pw_and1 (pt_cmpR op_lt (pe_ix ix_list (pv 0) pe_int (fun _ _ => rfl)) (pe_callB call_len_seq rfl T.b_len PySem.boot_len (pa_cons (pe_ix ix_list (pv 0) pe_int (fun _ _ => rfl)) pa_nil)) (nomark _)))))
    (pss_cons (ps_asg (pe_ix ix_list (pe_ix ix_list (pv 0) pe_int (fun _ _ => rfl)) (pe_ix ix_list (pv 0) pe_int (fun _ _ => rfl)) (fun _ _ => rfl)) (pg_sub (pv 0) pe_int set_list))
    (pss_one (ps_asg (pe_op op_add (pe_ix ix_list (pv 0) pe_int (fun _ _ => rfl)) pe_int) (pg_sub (pv 0) pe_int set_list))))
    pss_nil)
    (pss_cons (ps_if (pt_cmpR op_gt (pe_ix ix_list (pv 0) pe_int (fun _ _ => rfl)) pe_int (nomark _))
    (pss_cons (ps_set (i := 2) sc_pick.nd rfl (Or.inl rfl) (pe_op op_mod (pe_callTy call_int1 (by rfl) T.b_int (by decide +kernel) (pa_cons (pe_ix ix_list (pv 0) pe_int (fun _ _ => rfl)) pa_nil)) (pv 1)))
    (pss_cons (ps_asg (pe_op op_fdivW (pe_ix ix_list (pv 0) pe_int (fun _ _ => rfl)) (pv 1)) (pg_sub (pv 0) pe_int set_list))
    (pss_one (ps_ret (pv 2)))))
    pss_nil)
    (pss_cons (ps_asg (pe_op op_add (pe_ix ix_list (pv 0) pe_int (fun _ _ => rfl)) pe_int) (pg_sub (pv 0) pe_int set_list))
    (pss_cons (ps_set (i := 3) sc_pick.nd rfl (Or.inl rfl) (pe_op op_mod (pe_callTy call_int1 (by rfl) T.b_int (by decide +kernel) (pa_cons (pe_op op_pow (pe_op op_add (pe_ix ix_list (pv 0) pe_int (fun _ _ => rfl)) (pe_op op_mulW (pe_op op_mulW pe_int (pe_ix ix_list (pv 0) pe_int (fun _ _ => rfl))) (pe_ix ix_list (pv 0) pe_int (fun _ _ => rfl)))) pe_int) pa_nil)) pe_int))
    (pss_one (ps_ret (pe_op op_mod (pe_op op_fdivW (pe_op op_mod (pe_callTy call_int1 (by rfl) T.b_int (by decide +kernel) (pa_cons (pe_op op_mulW (pv 3) (pe_op op_add (pv 3) pe_int)) pa_nil)) pe_int) pe_int) (pv 1)))))))), ?_⟩)
  · obtain ⟨a, g, m, n, rfl, _⟩ := h
    rfl
  · obtain ⟨a, g, many, n, rfl, m0, m1, hs, hn, q⟩ := h
    have log : CDivW 0 many := wide_div (b := 200) m0 (by omega) (by decide) (by decide)
    refine ⟨fun σ H1 => σ = [some (.ref a), some (.int many), none, none] ∧ But a H H1 ∧ SrcAt H1 a g n, ?_, ?_⟩
    · obtain ⟨gs, i, o, m, c, ne, ha, hg, h63, hpos, i0, i1, o0, mm0, mm1, c0, c1⟩ := hs
      have keep : SrcAt H a g n := ⟨gs, i, o, m, c, ne, ha, hg, h63, hpos, i0, i1, o0, mm0, mm1, c0, c1⟩
      refine ⟨_, rfl, a, _, _, _, rfl, rfl, SqL.of ha, at2, rfl, _, rfl, bb (fun _ => ?_) (fun _ => bf rfl ⟨rfl, But.refl a H, keep⟩)⟩
      refine ⟨_, rfl, a, _, _, _, rfl, rfl, SqL.of ha, at1, _, rfl, a, _, _, _, rfl, rfl, SqL.of ha, at0, g, _, rfl, .inl (SqL.of hg), _, _, rfl, rfl, _, rfl, bb (fun ci => ?_) (fun _ => ⟨rfl, But.refl a H, keep⟩)⟩
      have ci' := of_decide_eq_true ci
      rw [List.length_map] at ci'
      have hi : i.toNat < gs.length := by omega
      obtain ⟨x, hx, hx2⟩ := ati hi
      have ei : (0 : Int) + ((i.toNat : Nat) : Int) = i := by omega
      rw [ei] at hx
      refine ⟨_, rfl, a, _, _, _, rfl, rfl, SqL.of ha, at0, _, rfl, a, _, _, _, rfl, rfl, SqL.of ha, at1, g, _, _, _, rfl, rfl, SqL.of hg, hx, _, rfl, a, _, _, _, rfl, rfl, ha, rfl, ?_⟩
      refine ⟨_, rfl, a, _, _, _, rfl, rfl, SqL.of upd_same, at1, _, _, rfl, rfl, _, rfl, a, _, _, _, rfl, rfl, upd_same, rfl, rfl, But.upd.trans But.upd, ?_⟩
      refine ⟨gs, i + 1, x, m, c, ne, upd_same, ?_, h63, hpos, by omega, by omega, hpos x (List.mem_of_getElem? hx2), mm0, mm1, c0, c1⟩
      rw [upd_ne ne.symm, upd_ne ne.symm]
      exact hg
    · rintro σ H1 ⟨rfl, b1, hs1⟩
      obtain ⟨gs, i, o, m, c, ne, ha, hg, h63, hpos, i0, i1, o0, mm0, mm1, c0, c1⟩ := hs1
      refine ⟨_, rfl, a, _, _, _, rfl, rfl, SqL.of ha, at2, _, _, rfl, rfl, _, rfl, bb (fun _ => ?_) (fun _ => ?_)⟩
      · refine ⟨_, rfl, a, _, _, _, rfl, rfl, SqL.of ha, at2, .inl ⟨_, rfl, _, rfl, _, _, rfl, rfl, m0, ?_⟩⟩
        refine ⟨_, rfl, a, _, _, _, rfl, rfl, SqL.of ha, at2, _, rfl, _, _, rfl, rfl, log, _, rfl, a, _, _, _, rfl, rfl, ha, rfl, _, rfl, ?_⟩
        refine q _ _ (Int.emod_nonneg _ (by omega)) (Int.emod_lt_of_pos _ m0) (b1.trans But.upd) ⟨gs, i, o / many, m, c, ne, upd_same, ?_, h63, hpos, i0, i1, Int.ediv_nonneg o0 (by omega), mm0, mm1, c0, by omega⟩
        rw [upd_ne ne.symm]
        exact hg
      · have p1 : (613 * (c + 1)).natAbs < 2 ^ 30 := by omega
        have p2 : 613 * (c + 1) * (c + 1) ≤ 613 * (1000001 * 1000001) := by
          have := Int.mul_le_mul (show 613 * (c + 1) ≤ 613 * 1000001 by omega) (show c + 1 ≤ 1000001 by omega) (by omega) (by decide)
          omega
        have p3 : 0 ≤ 613 * (c + 1) * (c + 1) := Int.mul_nonneg (by omega) (by omega)
        refine ⟨_, rfl, a, _, _, _, rfl, rfl, SqL.of ha, at4, _, _, rfl, rfl, _, rfl, a, _, _, _, rfl, rfl, ha, rfl, ?_⟩
        refine ⟨_, rfl, a, _, _, _, rfl, rfl, SqL.of upd_same, at3, _, rfl, a, _, _, _, rfl, rfl, SqL.of upd_same, at4, _, _, rfl, rfl, ?_, _, rfl, a, _, _, _, rfl, rfl, SqL.of upd_same, at4, _, _, rfl, rfl, ?_, _, _, rfl, rfl, _, _, rfl, rfl, ⟨by decide, by decide, ?_⟩, .inl ⟨_, rfl, _, _, rfl, rfl, (show (0 : Int) < 1000000000000000000000000000057 by decide), ?_⟩⟩
        · exact wide_mul (a := 10) (b := 30) (by decide) (show (c + 1).natAbs < 2 ^ 30 by omega) (by decide) (by decide) (by decide)
        · exact wide_mul (a := 30) (b := 30) p1 (show (c + 1).natAbs < 2 ^ 30 by omega) (by decide) (by decide) (by decide)
        · show (m + 613 * (c + 1) * (c + 1)).natAbs < 2 ^ 64
          omega
        · have t0 := Int.emod_nonneg ((m + 613 * (c + 1) * (c + 1)) ^ (3 : Int).toNat) (show (1000000000000000000000000000057 : Int) ≠ 0 by decide)
          have t1 := Int.emod_lt_of_pos ((m + 613 * (c + 1) * (c + 1)) ^ (3 : Int).toNat) (show (0 : Int) < 1000000000000000000000000000057 by decide)
          generalize (m + 613 * (c + 1) * (c + 1)) ^ (3 : Int).toNat % 1000000000000000000000000000057 = z at t0 t1
          refine ⟨_, rfl, _, rfl, _, _, rfl, rfl, _, _, rfl, rfl, ?_, .inl ⟨_, rfl, _, _, rfl, rfl, (show (0 : Int) < 340282366920938463463374607431768211507 by decide), _, _, rfl, rfl, ?_, _, rfl, _, _, rfl, rfl, m0, ?_⟩⟩
          · exact wide_mul (a := 200) (b := 200) (by omega) (by omega) (by decide) (by decide) (by decide)
          · exact wide_div (b := 20) (by decide) (by decide) (by decide) (by decide)
          · refine q _ _ (Int.emod_nonneg _ (by omega)) (Int.emod_lt_of_pos _ m0) (b1.trans But.upd) ⟨gs, i, o, m, c + 1, ne, upd_same, ?_, h63, hpos, i0, i1, o0, mm0, mm1, by omega, by omega⟩
            rw [upd_ne ne.symm]
            exact hg
end
end K01

namespace K01
open PySem PySem.Spec PyProof.Rows L2 Ww
section
variable {P : Program} {w : World} {K : PySem.W.Frag} {mg : Str → Option Value} {base : Heap}
theorem ok_alike (T : Txt w K mg) : ∀ n : Nat, FnOk P w K mg base CX0 (n + 1) T.a_alike T.d_alike P_alike (spAlike K n)
  | 0 => fn_none fun vs H Q E h => spAlike_0 h
  | n + 1 => by
    have IH := ok_alike T n
    refine T.F_alike.ok sc_alike (fun vs H Q E h => ?_) (fun cdv A outer s H vs Q E hr h => ⟨_, (pss_cons (ps_if (pt_cmp (pc_isN (pv 1)))
    (pss_one (ps_ret (pe_cmp (pc_isN (pv 0)))))
    pss_nil)
    (pss_cons (ps_if (pt_val (pe_callB call_isiT rfl T.b_isinstance (by decide +kernel) (pa_cons (pv 1) (pa_cons (pe_tup (pa_cons (pe_bltn (v := .ty "list") rfl T.b_list (by decide +kernel) rfl) (pa_cons (pe_bltn (v := .ty "tuple") rfl T.b_tuple (by decide +kernel) rfl) pa_nil))) pa_nil))))
    (pss_cons (ps_if (PW.pt (pw_or (pt_not (pt_val (pe_callB call_isiT rfl T.b_isinstance (by decide +kernel) (pa_cons (pv 0) (pa_cons (pe_tup (pa_cons (pe_bltn (v := .ty "list") rfl T.b_list (by decide +kernel) rfl) (pa_cons (pe_bltn (v := .ty "tuple") rfl T.b_tuple (by decide +kernel) rfl) pa_nil))) pa_nil))))) (pw_or1 (pt_cmpR op_ne (pe_callB call_isi rfl T.b_isinstance (by decide +kernel) (pa_cons (pv 0) (pa_cons (pe_bltn (v := .ty "list") rfl T.b_list (by decide +kernel) rfl) pa_nil))) (pe_callB call_isi rfl T.b_isinstance (by decide +kernel) (pa_cons (pv 1) (pa_cons (pe_bltn (v := .ty "list") rfl T.b_list (by decide +kernel) rfl) pa_nil))) (nomark _)))))
    (pss_one (ps_ret pe_bl))
    pss_nil)
    (pss_cons (ps_if (pt_cmpR op_ne (pe_callB call_len_seq rfl T.b_len PySem.boot_len (pa_cons (pv 0) pa_nil)) (pe_callB call_len_seq rfl T.b_len PySem.boot_len (pa_cons (pv 1) pa_nil)) (nomark _))
    (pss_one (ps_ret pe_bl))
    pss_nil)
    (pss_cons (ps_for PassesOwn.never rfl (RZ.pi_zipA (by rfl) T.b_zip (pa_cons (pv 0) (pa_cons (pv 1) pa_nil))) (pg_tup rfl (pgs_cons (pg_name (i := 2) sc_alike.nd rfl (Or.inl rfl)) (pgs_cons (pg_name (i := 3) sc_alike.nd rfl (Or.inl rfl)) pgs_nil)))
    (pss_one (ps_if (pt_not (pt_val (pe_call IH (hr.mono (by first | decide | omega)) rfl T.m_alike T.F_alike.kp T.B_alike .nil pass0 (pa_cons (pv 2) (pa_cons (pv 3) pa_nil)))))
    (pss_one (ps_ret pe_bl))
    pss_nil)))
    (pss_one (ps_ret pe_bl)))))
    pss_nil)
    (pss_cons (ps_if (pt_val (pe_callB call_isi rfl T.b_isinstance (by decide +kernel) (pa_cons (pv 1) (pa_cons (pe_bltn (v := .ty "str") rfl T.b_str (by decide +kernel) rfl) pa_nil))))
    (pss_one (ps_ret (pe_and (pe_callB call_isi rfl T.b_isinstance (by decide +kernel) (pa_cons (pv 0) (pa_cons (pe_bltn (v := .ty "str") rfl T.b_str (by decide +kernel) rfl) pa_nil))) (pe_one (pe_cmpR op_eq (pv 0) (pv 1) (nomark _))))))
    pss_nil)
    (pss_cons (ps_if (pt_cmpR op_ne (pe_callB call_isi rfl T.b_isinstance (by decide +kernel) (pa_cons (pv 0) (pa_cons (pe_bltn (v := .ty "bool") rfl T.b_bool (by decide +kernel) rfl) pa_nil))) (pe_callB call_isi rfl T.b_isinstance (by decide +kernel) (pa_cons (pv 1) (pa_cons (pe_bltn (v := .ty "bool") rfl T.b_bool (by decide +kernel) rfl) pa_nil))) (nomark _))
    (pss_one (ps_ret pe_bl))
    pss_nil)
    (pss_one (ps_ret (pe_and (pe_callB call_isi rfl T.b_isinstance (by decide +kernel) (pa_cons (pv 0) (pa_cons (pe_bltn (v := .ty "int") rfl T.b_int (by decide +kernel) rfl) pa_nil))) (pe_one (pe_cmpR op_eq (pv 0) (pv 1) (nomark _)))))))))), ?_⟩)
    · obtain ⟨x, y, d, rfl, _⟩ := h
      rfl
    · obtain ⟨x, y, d, rfl, hx, hy, gd, q⟩ := h
      have two : 2 ≤ sizeLine := sz1 (by decide)
      cases d with
      | none =>
        cases hx
        cases hy
        refine ⟨_, rfl, _, rfl, bt (decide_eq_true rfl) ⟨_, rfl, ?_⟩⟩
        have e : Q (.bl (decide (V.non = V.non))) H := by
          rw [decide_eq_true rfl]
          exact q H (Same.refl H)
        exact e
      | bool b =>
        cases hx
        cases hy
        refine ⟨_, rfl, _, rfl, bf (decide_eq_false (fun z => by cases z)) ?_⟩
        refine ⟨_, rfl, two, fun t1 n1 => ⟨_, t1, _, _, _, _, rfl, upd_same, clsLT, .base (.bl b), kLT0 (by decide +kernel) (by decide +kernel), _, rfl, bf rfl ?_⟩⟩
        have e1 := same_new n1 (.tup [V.ty "list", V.ty "tuple"])
        refine ⟨_, rfl, _, _, _, _, _, rfl, .ty _, .base (.bl b), kit_ty (r := false) (by decide +kernel), _, rfl, bf rfl ?_⟩
        refine ⟨_, rfl, _, _, _, _, _, rfl, .ty _, .base (.bl b), kit_ty (r := true) (by decide +kernel), _, rfl, _, _, _, _, _, rfl, .ty _, .base (.bl b), kit_ty (r := true) (by decide +kernel), rfl, _, rfl, bf rfl ?_⟩
        refine ⟨_, rfl, _, _, _, _, _, rfl, .ty _, .base (.bl b), kit_ty (r := true) (by decide +kernel), _, rfl, bt rfl ?_⟩
        refine ⟨_, rfl, _, rfl, by cases b <;> rfl, ?_⟩
        have e : Q (.bl (decide (V.bl b = V.bl b))) (upd H t1 (.tup [V.ty "list", V.ty "tuple"])) := by
          rw [decide_eq_true rfl]
          exact q _ e1
        exact e
      | int j =>
        cases hx
        cases hy
        refine ⟨_, rfl, _, rfl, bf (decide_eq_false (fun z => by cases z)) ?_⟩
        refine ⟨_, rfl, two, fun t1 n1 => ⟨_, t1, _, _, _, _, rfl, upd_same, clsLT, .base (.int j), kLT0 (by decide +kernel) (by decide +kernel), _, rfl, bf rfl ?_⟩⟩
        have e1 := same_new n1 (.tup [V.ty "list", V.ty "tuple"])
        refine ⟨_, rfl, _, _, _, _, _, rfl, .ty _, .base (.int j), kit_ty (r := false) (by decide +kernel), _, rfl, bf rfl ?_⟩
        refine ⟨_, rfl, _, _, _, _, _, rfl, .ty _, .base (.int j), kit_ty (r := false) (by decide +kernel), _, rfl, _, _, _, _, _, rfl, .ty _, .base (.int j), kit_ty (r := false) (by decide +kernel), rfl, _, rfl, bf rfl ?_⟩
        refine ⟨_, rfl, _, _, _, _, _, rfl, .ty _, .base (.int j), kit_ty (r := true) (by decide +kernel), _, rfl, bt rfl ?_⟩
        refine ⟨_, rfl, _, rfl, rfl, ?_⟩
        have e : Q (.bl (decide (V.int j = V.int j))) (upd H t1 (.tup [V.ty "list", V.ty "tuple"])) := by
          rw [decide_eq_true rfl]
          exact q _ e1
        exact e
      | str t =>
        cases hx
        cases hy
        refine ⟨_, rfl, _, rfl, bf (decide_eq_false (fun z => by cases z)) ?_⟩
        refine ⟨_, rfl, two, fun t1 n1 => ⟨_, t1, _, _, _, _, rfl, upd_same, clsLT, .base (.str t), kLT0 (by decide +kernel) (by decide +kernel), _, rfl, bf rfl ?_⟩⟩
        have e1 := same_new n1 (.tup [V.ty "list", V.ty "tuple"])
        refine ⟨_, rfl, _, _, _, _, _, rfl, .ty _, .base (.str t), kit_ty (r := true) (by decide +kernel), _, rfl, bt rfl ?_⟩
        refine ⟨_, rfl, _, _, _, _, _, rfl, .ty _, .base (.str t), kit_ty (r := true) (by decide +kernel), _, rfl, bt rfl ?_⟩
        refine ⟨_, rfl, _, rfl, rfl, ?_⟩
        have e : Q (.bl (decide (V.str t = V.str t))) (upd H t1 (.tup [V.ty "list", V.ty "tuple"])) := by
          rw [decide_eq_true rfl]
          exact q _ e1
        exact e
      | dict kvs => exact gd.elim
      | list ds =>
        cases hx with
        | @lst a xs _ ha hxs =>
        cases hy with
        | @lst b ys _ hb hys =>
        have lx := dps_len hxs
        have ly := dps_len hys
        refine ⟨_, rfl, _, rfl, bf (decide_eq_false (fun z => by cases z)) ?_⟩
        refine ⟨_, rfl, two, fun t1 n1 => ?_⟩
        have e1 := same_new n1 (.tup [V.ty "list", V.ty "tuple"])
        refine ⟨_, t1, _, _, _, true, rfl, upd_same, clsLT, tyL (e1.seq hb), kLT (b := true) (c := false) (by decide +kernel) (by decide +kernel), _, rfl, bt rfl ?_⟩
        refine ⟨_, rfl, two, fun t2 n2 => ?_⟩
        have e2 := e1.trans (same_new n2 (.tup [V.ty "list", V.ty "tuple"]))
        refine ⟨_, t2, _, _, _, true, rfl, upd_same, clsLT, tyL (e2.seq ha), kLT (b := true) (c := false) (by decide +kernel) (by decide +kernel), _, rfl, bf rfl ?_⟩
        refine ⟨_, rfl, _, _, _, _, _, rfl, .ty _, tyL (e2.seq ha), kit_ty (r := true) (by decide +kernel), _, rfl, _, _, _, _, _, rfl, .ty _, tyL (e2.seq hb), kit_ty (r := true) (by decide +kernel), rfl, _, rfl, bf rfl ?_⟩
        refine ⟨_, rfl, a, _, rfl, .inl (e2.seq ha), _, rfl, b, _, rfl, .inl (e2.seq hb), rfl, _, rfl, bf ?_ ?_⟩
        · rw [lx, ly, decide_eq_true rfl]
          rfl
        refine ⟨_, rfl, _, rfl, a, b, _, _, rfl, .inl ⟨e2.seq ha, e2.seq hb, RZ.for_zipL (lx.trans ly.symm) (fun i σ H1 => ∃ v2 v3 : Option V, σ = [some (.ref a), some (.ref b), v2, v3] ∧ Same H H1) ⟨none, none, rfl, e2⟩ (fun i σ H1 ⟨_, _, _, e⟩ => ⟨e.seq ha, e.seq hb⟩) ?_ ?_⟩⟩
        · rintro i u v T σ H1 hu hv ⟨v2, v3, rfl, e⟩ hT
          obtain ⟨d1, g1, p1⟩ := dps_at hxs hu
          obtain ⟨d2, g2, p2⟩ := dps_at hys hv
          have ed : d1 = d2 := Option.some.inj (g1.symm.trans g2)
          subst ed
          have e' := e.trans (same_new hT (.tup [u, v]))
          refine ⟨T, _, rfl, SqT.of upd_same, rfl, _, _, rfl, _, _, rfl, rfl, ?_⟩
          exact ⟨_, rfl, _, rfl, u, v, d1, rfl, dp_same e' p1, dp_same e' p2, gd.2 d1 (List.mem_of_getElem? g1), fun H2 e2 => ⟨_, rfl, bf rfl ⟨_, _, rfl, e'.trans e2⟩⟩⟩
        · rintro σ H1 ⟨v2, v3, rfl, e⟩
          exact q H1 e
      | tuple ds =>
        cases hx with
        | @tup a xs _ ha hxs =>
        cases hy with
        | @tup b ys _ hb hys =>
        have lx := dps_len hxs
        have ly := dps_len hys
        refine ⟨_, rfl, _, rfl, bf (decide_eq_false (fun z => by cases z)) ?_⟩
        refine ⟨_, rfl, two, fun t1 n1 => ?_⟩
        have e1 := same_new n1 (.tup [V.ty "list", V.ty "tuple"])
        refine ⟨_, t1, _, _, _, true, rfl, upd_same, clsLT, tyT (Evl.ex_t e1 hb), kLT (b := false) (c := true) (by decide +kernel) (by decide +kernel), _, rfl, bt rfl ?_⟩
        refine ⟨_, rfl, two, fun t2 n2 => ?_⟩
        have e2 := e1.trans (same_new n2 (.tup [V.ty "list", V.ty "tuple"]))
        refine ⟨_, t2, _, _, _, true, rfl, upd_same, clsLT, tyT (Evl.ex_t e2 ha), kLT (b := false) (c := true) (by decide +kernel) (by decide +kernel), _, rfl, bf rfl ?_⟩
        refine ⟨_, rfl, _, _, _, _, _, rfl, .ty _, tyT (Evl.ex_t e2 ha), kit_ty (r := false) (by decide +kernel), _, rfl, _, _, _, _, _, rfl, .ty _, tyT (Evl.ex_t e2 hb), kit_ty (r := false) (by decide +kernel), rfl, _, rfl, bf rfl ?_⟩
        refine ⟨_, rfl, a, _, rfl, .inr (Evl.ex_t e2 ha), _, rfl, b, _, rfl, .inr (Evl.ex_t e2 hb), rfl, _, rfl, bf ?_ ?_⟩
        · rw [lx, ly, decide_eq_true rfl]
          rfl
        refine ⟨_, rfl, _, rfl, a, b, _, _, rfl, .inr ⟨Evl.ex_t e2 ha, Evl.ex_t e2 hb, RZ.for_zipT (lx.trans ly.symm) (fun i σ H1 => ∃ v2 v3 : Option V, σ = [some (.ref a), some (.ref b), v2, v3] ∧ Same H H1) ⟨none, none, rfl, e2⟩ (fun i σ H1 ⟨_, _, _, e⟩ => ⟨Evl.ex_t e ha, Evl.ex_t e hb⟩) ?_ ?_⟩⟩
        · rintro i u v T σ H1 hu hv ⟨v2, v3, rfl, e⟩ hT
          obtain ⟨d1, g1, p1⟩ := dps_at hxs hu
          obtain ⟨d2, g2, p2⟩ := dps_at hys hv
          have ed : d1 = d2 := Option.some.inj (g1.symm.trans g2)
          subst ed
          have e' := e.trans (same_new hT (.tup [u, v]))
          refine ⟨T, _, rfl, SqT.of upd_same, rfl, _, _, rfl, _, _, rfl, rfl, ?_⟩
          exact ⟨_, rfl, _, rfl, u, v, d1, rfl, dp_same e' p1, dp_same e' p2, gd.2 d1 (List.mem_of_getElem? g1), fun H2 e2 => ⟨_, rfl, bf rfl ⟨_, _, rfl, e'.trans e2⟩⟩⟩
        · rintro σ H1 ⟨v2, v3, rfl, e⟩
          exact q H1 e
end
end K01

namespace K01
open PySem PySem.Spec PyProof.Rows L2 Ww
section
variable {P : Program} {w : World} {K : PySem.W.Frag} {mg : Str → Option Value} {base : Heap}
theorem ok_pool (T : Txt w K mg) : FnOk P w K mg base CX0 (2) T.a_pool T.d_pool P_pool (spPool) := by
  refine T.F_pool.ok sc_pool (fun vs H Q E h => ?_) (fun cdv A outer s H vs Q E hr h => ⟨_, (pss_cons (ps_asg (pe_tup (pa_cons pe_str (pa_cons (pe_op op_add pe_int (pe_call (ok_pick T) (hr.mono (by first | decide | omega)) rfl T.m_pick T.F_pick.kp T.B_pick .nil pass0 (pa_cons (pv 0) (pa_cons (pe_ix ix_list (pe_lst (pa_cons pe_int (pa_cons pe_int (pa_cons pe_int pa_nil)))) (pe_call (ok_pick T) (hr.mono (by first | decide | omega)) rfl T.m_pick T.F_pick.kp T.B_pick .nil pass0 (pa_cons (pv 0) (pa_cons pe_int pa_nil))) (fun _ _ => rfl)) pa_nil)))) pa_nil))) (pg_tup rfl (pgs_cons (pg_name (i := 1) sc_pool.nd rfl (Or.inr rfl)) (pgs_cons (pg_name (i := 2) sc_pool.nd rfl (Or.inl rfl)) pgs_nil))))
    (pss_one (ps_ret (pe_join pe_str (pe_lc (own := [("_law_k", 3)]) (g := gName 3) rfl sc_pool.nd (pi_range1 rfl T.b_range (pa_cons (pv 2) pa_nil)) (blkOk_by (N := N_pool) (own := [("_law_k", 3)]) (sc := defScope s_pool) (by decide +kernel)) (fun _ _ _ _ _ => (pg_name (i := 3) sc_pool.nd rfl (Or.inl rfl))) (fun _ _ _ _ _ => pts_nil) (fun _ _ _ _ _ => (pe_item_str (pv 1) (pe_call (ok_pick T) (hr.mono (by first | decide | omega)) rfl T.m_pick T.F_pick.kp T.B_pick .nil pass0 (pa_cons (pv 0) (pa_cons pe_int pa_nil))) (fun _ _ => rfl)))))))), ?_⟩)
  · obtain ⟨a, g, n, rfl, _⟩ := h
    rfl
  · obtain ⟨a, g, n, rfl, hs, hn, q⟩ := h
    refine ⟨_, rfl, sz1 (by show 3 ≤ 1000000; decide), fun l1 n1 => ?_⟩
    refine ⟨_, rfl, a, g, 3, n, rfl, by decide, by decide, hs.new n1, by omega, fun r H1 r0 r1 b1 s1 => ?_⟩
    have hl1 := b1 l1 _ (hs.ne n1).1 upd_same
    obtain ⟨v, hv, hm⟩ := atI_mem (xs := [V.int 1, V.int 3, V.int 7]) r0 r1
    obtain ⟨m, rfl, m0, m1⟩ : ∃ m : Int, v = .int m ∧ 0 < m ∧ m ≤ 7 := by
      simp only [List.mem_cons, List.not_mem_nil, or_false] at hm
      rcases hm with rfl | rfl | rfl
      · exact ⟨1, rfl, by decide, by decide⟩
      · exact ⟨3, rfl, by decide, by decide⟩
      · exact ⟨7, rfl, by decide, by decide⟩
    have b01 : But a H H1 := (But.new n1).trans b1
    refine ⟨l1, _, _, _, rfl, rfl, SqL.of hl1, hv, a, g, m, n + 1, rfl, m0, by omega, s1, by omega, fun r2 H2 r20 r21 b2 s2 => ?_⟩
    have b02 := b01.trans b2
    refine ⟨_, _, rfl, rfl, sz1 (by show 2 ≤ 1000000; decide), fun T hT => ⟨T, _, rfl, SqT.of upd_same, rfl, _, _, rfl, _, _, rfl, rfl, ?_⟩⟩
    have s3 := s2.new (u := .tup [.str (Str.ofString "abcdefghijklmnopqrstuvwxyz"), .int (1 + r2)]) hT
    have b03 := b02.trans (But.new (o := .tup [.str (Str.ofString "abcdefghijklmnopqrstuvwxyz"), .int (1 + r2)]) hT)
    refine ⟨⟨_, rfl⟩, _, rfl, _, rfl, by omega, by omega, fun D hD => ?_⟩
    obtain ⟨sx, hsx⟩ := s3.lst
    have fD := b03.free hsx hD
    have nD := s3.ne hD
    refine lc_range (lo := 0) (n := (1 + r2).toNat) (fun i H3 => But a H H3 ∧ SrcAt H3 a g (n + 2 + i) ∧ ∃ ys : List Str, H3 D = some (.lst (ys.map V.str)) ∧ ys.length = i ∧ ∀ y ∈ ys, Let y) ?_ ?_ ?_
    · exact ⟨b03.trans (But.new hD), s3.new hD, [], upd_same, rfl, (fun _ z => nomatch z)⟩
    · rintro i H3 hi ⟨b3, s3, ys, hy, ly, al⟩
      refine ⟨rfl, lc_yes ?_⟩
      refine ⟨_, rfl, _, rfl, a, g, 26, n + 2 + i, rfl, by decide, by decide, s3, by omega, fun r H4 r0 r1 b4 s4 => ?_⟩
      obtain ⟨c, hc, lc⟩ := abc_all.at r0 (by rw [abc_len]; exact r1)
      have hy4 := b4 D _ nD.1 hy
      refine ⟨_, _, c, rfl, rfl, r0, by omega, by rw [abc_len]; exact r1, hc, _, hy4, sz2 (by rw [List.length_map]; omega), ?_⟩
      refine ⟨but_mut (b3.trans b4) fD _, s4.upd nD, ys ++ [⟨#[c]⟩], ?_, ?_, ?_⟩
      · rw [upd_same, List.map_append]
        rfl
      · rw [List.length_append, ly]
        rfl
      · intro y hyy
        rcases List.mem_append.mp hyy with z | z
        · exact al y z
        · rw [List.mem_singleton] at z
          rw [z]
          exact lc
    · rintro H3 ⟨b3, s3, ys, hy, ly, al⟩
      refine ⟨_, D, ys, rfl, rfl, .inl (SqL.of hy), let_small al (by omega), ?_⟩
      exact q _ _ b3 (s3.le (by omega)) (join_all al) (by rw [join_len al]; omega) (by rw [join_len al]; omega)
end
end K01

namespace K01
open PySem PySem.Spec PyProof.Rows L2 Ww
section
variable {P : Program} {w : World} {K : PySem.W.Frag} {mg : Str → Option Value} {base : Heap}
theorem ok_grown (T : Txt w K mg) : ∀ n : Nat, FnOk P w K mg base CX0 (n + 2) T.a_grown T.d_grown P_grown (spGrown n)
  | 0 => fn_none fun vs H Q E h => spGrown_0 h
  | n + 1 => by
    have IH := ok_grown T n
    refine T.F_grown.ok sc_grown (fun vs H Q E h => ?_) (fun cdv A outer s H vs Q E hr h => ⟨_, (pss_cons (ps_if (PW.pt (pw_or (pt_cmpR op_lt (pv 1) pe_int (nomark _)) (pw_or1 (pt_cmpR op_lt (pv 2) pe_int (nomark _)))))
    (pss_one (ps_ret (pe_tup (pa_cons pe_str (pa_cons (pe_item_str (pv 4) (pe_call (ok_pick T) (hr.mono (by first | decide | omega)) rfl T.m_pick T.F_pick.kp T.B_pick .nil pass0 (pa_cons (pv 0) (pa_cons (pe_callB call_len_str rfl T.b_len PySem.boot_len (pa_cons (pv 4) pa_nil)) pa_nil))) (fun _ _ => rfl)) pa_nil)))))
    pss_nil)
    (pss_cons (ps_par (i := 5) (j := 6) rfl sc_grown.nd rfl rfl (by decide) rfl rfl (pa_cons (pe_ix ix_list (pv 3) (pe_call (ok_pick T) (hr.mono (by first | decide | omega)) rfl T.m_pick T.F_pick.kp T.B_pick .nil pass0 (pa_cons (pv 0) (pa_cons (pe_callB call_len_seq rfl T.b_len PySem.boot_len (pa_cons (pv 3) pa_nil)) pa_nil))) (fun _ _ => rfl)) (pa_cons (pe_op op_add pe_int (pe_call (ok_pick T) (hr.mono (by first | decide | omega)) rfl T.m_pick T.F_pick.kp T.B_pick .nil pass0 (pa_cons (pv 0) (pa_cons (pe_op op_sub (pv 1) pe_int) pa_nil)))) pa_nil)) rfl)
    (pss_cons (ps_set (i := 7) sc_grown.nd rfl (Or.inl rfl) (pe_call IH (hr.mono (by first | decide | omega)) rfl T.m_grown T.F_grown.kp T.B_grown .nil pass0 (pa_cons (pv 0) (pa_cons (pv 6) (pa_cons (pe_op op_sub (pv 2) pe_int) (pa_cons (pv 3) (pa_cons (pv 4) pa_nil)))))))
    (pss_one (ps_ret (pe_tup (pa_cons (pv 5) (pa_cons (pv 7) (pa_cons (pe_call IH (hr.mono (by first | decide | omega)) rfl T.m_grown T.F_grown.kp T.B_grown .nil pass0 (pa_cons (pv 0) (pa_cons (pe_op op_sub (pv 1) (pv 6)) (pa_cons (pe_op op_sub (pv 2) pe_int) (pa_cons (pv 3) (pa_cons (pv 4) pa_nil)))))) pa_nil))))))))), ?_⟩)
    · obtain ⟨a, g, l, most, deep, fs, t, c, rfl, _⟩ := h
      rfl
    · obtain ⟨a, g, l, most, deep, fs, t, c, rfl, hs, hc, nl, hl, hf, ht, m1, m2, d1, d2, q⟩ := h
      obtain ⟨ta, t1, t14⟩ := ht
      refine ⟨_, rfl, _, _, rfl, rfl, _, rfl, bb (fun c1 => bt rfl ?_) (fun c1 => ⟨_, rfl, _, _, rfl, rfl, _, rfl, bb (fun c2 => ?_) (fun c2 => ?_)⟩)⟩
      · refine ⟨_, rfl, _, rfl, _, rfl, t, rfl, sz1 (by omega), a, g, _, c, rfl, by omega, by omega, hs, by omega, fun r H1 r0 r1 b1 s1 => ?_⟩
        obtain ⟨x, hx, lx⟩ := ta.at r0 r1
        refine ⟨_, _, x, rfl, rfl, r0, by omega, r1, hx, sz1 (by show 2 ≤ 1000000; decide), fun p hp => ?_⟩
        exact q _ (.pl ⟨#[x]⟩) _ (b1.trans (But.new hp)) ((s1.new hp).le (by omega)) ⟨p, rfl, upd_same⟩ lx (by show (1 : Int) ≤ deep; omega) (by show (1 : Int) ≤ most; omega)
      · refine ⟨_, rfl, _, rfl, _, rfl, t, rfl, sz1 (by omega), a, g, _, c, rfl, by omega, by omega, hs, by omega, fun r H1 r0 r1 b1 s1 => ?_⟩
        obtain ⟨x, hx, lx⟩ := ta.at r0 r1
        refine ⟨_, _, x, rfl, rfl, r0, by omega, r1, hx, sz1 (by show 2 ≤ 1000000; decide), fun p hp => ?_⟩
        exact q _ (.pl ⟨#[x]⟩) _ (b1.trans (But.new hp)) ((s1.new hp).le (by omega)) ⟨p, rfl, upd_same⟩ lx (by show (1 : Int) ≤ deep; omega) (by show (1 : Int) ≤ most; omega)
      · have c1' : 2 ≤ most := by
          have := of_decide_eq_false c1
          omega
        have c2' : 2 ≤ deep := by
          have := of_decide_eq_false c2
          omega
        obtain ⟨f0, f10, hform⟩ := hf
        have fpos : 0 < fs.length := List.length_pos_iff.mpr f0
        refine ⟨_, rfl, _, rfl, _, rfl, l, _, rfl, .inl (SqL.of hl), a, g, _, c, rfl, by rw [List.length_map]; omega, by rw [List.length_map]; omega, hs, by omega, fun r H1 r0 r1 b1 s1 => ?_⟩
        rw [List.length_map] at r1
        obtain ⟨v, hv, hv2⟩ := atI_of (xs := fs.map V.str) r0 (by rw [List.length_map]; exact r1)
        rw [List.getElem?_map] at hv2
        obtain ⟨f, hf1, hf2⟩ := Option.map_eq_some_iff.mp hv2
        subst hf2
        have hfm : Form f := hform f (List.mem_of_getElem? hf1)
        have hl1 := b1 l _ nl hl
        refine ⟨l, _, _, _, rfl, rfl, SqL.of hl1, hv, _, rfl, _, rfl, _, _, rfl, rfl, a, g, _, c + 1, rfl, by omega, by omega, s1, by omega, fun r2 H2 r20 r21 b2 s2 => ⟨_, _, rfl, rfl, _, _, rfl, ?_⟩⟩
        have hl2 := b2 l _ nl hl1
        refine ⟨_, rfl, _, rfl, _, rfl, _, _, rfl, rfl, _, rfl, _, rfl, a, g, l, _, _, fs, t, c + 2, rfl, s2, by omega, nl, hl2, ⟨f0, f10, hform⟩, ⟨ta, t1, t14⟩, by omega, by omega, by omega, by omega, fun v1 k1 H3 b3 s3 ka3 ok3 dd3 zz3 => ?_⟩
        have hl3 := b3 l _ nl hl2
        refine ⟨_, rfl, _, rfl, _, rfl, _, rfl, _, rfl, _, _, rfl, rfl, _, rfl, _, _, rfl, rfl, _, rfl, _, rfl, a, g, l, _, _, fs, t, _, rfl, s3, by omega, nl, hl3, ⟨f0, f10, hform⟩, ⟨ta, t1, t14⟩, by omega, by omega, by omega, by omega, fun v2 k2 H4 b4 s4 ka4 ok4 dd4 zz4 => ?_⟩
        refine ⟨sz1 (by show 3 ≤ 1000000; decide), fun p hp => ?_⟩
        obtain ⟨sx, hsx⟩ := s3.lst
        have tp := (b4.tps hsx).trans (Tps.new (o := .tup [.str f, v1, v2]) hp)
        refine q _ (.nd f k1 k2) _ (b1.trans (b2.trans (b3.trans (b4.trans (But.new hp))))) ((s4.new hp).le (by omega)) ⟨p, v1, v2, rfl, upd_same, ka3.mono tp, ka4.mono (.new hp)⟩ ⟨hfm, ok3, ok4⟩ ?_ ?_
        · show ((1 + max k1.deep k2.deep : Nat) : Int) ≤ deep
          omega
        · show ((k1.letters ++ k2.letters).length : Int) ≤ most
          rw [List.length_append]
          omega
end
end K01

namespace K01
open PySem PySem.Spec PyProof.Rows L2 Ww
section
variable {P : Program} {w : World} {K : PySem.W.Frag} {mg : Str → Option Value} {base : Heap}
def RowAt (H : Hp) (v : V) (x : Str × Int) : Prop := ∃ p, v = .ref p ∧ H p = some (.tup [.str x.1, .int x.2])
def PairAt (H : Hp) (v : V) (x : Kd × Int) : Prop := ∃ p u, v = .ref p ∧ H p = some (.tup [u, .int x.2]) ∧ KAt H u x.1
theorem RowAt.mono {H H' : Hp} (e : Tps H H') (v : V) (x : Str × Int) (h : RowAt H v x) : RowAt H' v x := by
  obtain ⟨p, q, h⟩ := h
  exact ⟨p, q, e _ _ h⟩
theorem PairAt.mono {H H' : Hp} (e : Tps H H') (v : V) (x : Kd × Int) (h : PairAt H v x) : PairAt H' v x := by
  obtain ⟨p, u, q, h, k⟩ := h
  exact ⟨p, u, q, e _ _ h, k.mono e⟩
theorem PairAt.lk {K : PySem.W.Frag} {H : Hp} {v : V} {x : Kd × Int} (h : PairAt H v x) (ok : x.1.ok) (d : x.1.deep ≤ 8) : Lk K H v := by
  obtain ⟨p, u, rfl, h, k⟩ := h
  refine ⟨.tuple [x.1.dat, .int x.2], .tup (SqT.of h) (.cons k.dp (.cons (.int _) .nil)), ?_, ?_⟩
  · show (x.1.dat.canLay0 && (true && true)) = true
    rw [x.1.lay ok]
    rfl
  · show max x.1.dat.depth (max 0 0) + 1 ≤ 60
    rw [x.1.dat_depth]
    omega
def spPlaces : Sp := fun vs H Q _ => ∃ (v : V) (k : Kd), vs = [v] ∧ KOk H v k ∧ ∀ l rows H', Same H H' → H' l = some (.lst rows) → All2 (RowAt H') rows (k.places 1) → Q (.ref l) H'
theorem ok_places (T : Txt w K mg) : FnOk P w K mg base CX0 (1) T.a_places T.d_places P_places (spPlaces) := by
  refine T.F_places.ok sc_places (fun vs H Q E h => ?_) (fun cdv A outer s H vs Q E hr h => ⟨_, (pss_cons (ps_par (i := 1) (j := 2) rfl sc_places.nd rfl rfl (by decide) rfl rfl (pa_cons (pe_lst pa_nil) (pa_cons (pe_lst (pa_cons (pe_tup (pa_cons (pv 0) (pa_cons pe_int pa_nil))) pa_nil)) pa_nil)) rfl)
    (pss_cons (ps_while PassesOwn.never (pt_cmpR (op_neD (hu64 hr)) (pv 2) (pe_lst pa_nil) (nomark _))
    (pss_cons (ps_asg (pe_bm0 PySem.F.plainAttrs_list PySem.F.slot_list_pop PySem.F.type_list_pop mt_pop (pv 2)) (pg_tup rfl (pgs_cons (pg_name (i := 3) sc_places.nd rfl (Or.inl rfl)) (pgs_cons (pg_name (i := 4) sc_places.nd rfl (Or.inl rfl)) pgs_nil))))
    (pss_one (ps_if (pt_cmpR op_eq (pe_ix ix_tup (pv 3) pe_int (fun _ _ => rfl)) pe_str (nomark _))
    (pss_one (ps_expr (pe_bm PySem.F.plainAttrs_list PySem.F.slot_list_append PySem.F.type_list_append mt_append (pv 1) (pa_cons (pe_tup (pa_cons (pe_ix ix_tup (pv 3) pe_int (fun _ _ => rfl)) (pa_cons (pv 4) pa_nil))) pa_nil))))
    (pss_cons (ps_expr (pe_bm PySem.F.plainAttrs_list PySem.F.slot_list_append PySem.F.type_list_append mt_append (pv 2) (pa_cons (pe_tup (pa_cons (pe_ix ix_tup (pv 3) pe_int (fun _ _ => rfl)) (pa_cons (pe_op op_add (pv 4) pe_int) pa_nil))) pa_nil)))
    (pss_one (ps_expr (pe_bm PySem.F.plainAttrs_list PySem.F.slot_list_append PySem.F.type_list_append mt_append (pv 2) (pa_cons (pe_tup (pa_cons (pe_ix ix_tup (pv 3) pe_int (fun _ _ => rfl)) (pa_cons (pe_op op_add (pv 4) pe_int) pa_nil))) pa_nil)))))))))
    (pss_one (ps_ret (pv 1))))), ?_⟩)
  · obtain ⟨v, k, rfl, _⟩ := h
    rfl
  · obtain ⟨v, k, rfl, ⟨hk, ok, hd, hz⟩, q⟩ := h
    refine ⟨sz1 (by show 0 ≤ 1000000; decide), fun l1 n1 => ⟨_, rfl, sz1 (by show 2 ≤ 1000000; decide), fun t0 nt0 => ⟨sz1 (by show 1 ≤ 1000000; decide), fun l2 n2 => ⟨_, _, rfl, ?_⟩⟩⟩⟩
    have sA : Same H (upd H l1 (.lst [])) := same_new n1 _
    have sB := sA.trans (same_new nt0 (.tup [v, .int 1]))
    have sC := sB.trans (same_new n2 (.lst [.ref t0]))
    have h1 : (upd (upd (upd H l1 (.lst [])) t0 (.tup [v, .int 1])) l2 (.lst [.ref t0])) l1 = some (.lst []) := same_new n2 _ _ _ (same_new nt0 _ _ _ upd_same)
    have ht0 : (upd (upd (upd H l1 (.lst [])) t0 (.tup [v, .int 1])) l2 (.lst [.ref t0])) t0 = some (.tup [v, .int 1]) := same_new n2 _ _ _ upd_same
    have f2 : H l2 = none := sB.free n2
    have n12 : l1 ≠ l2 := ne_of_none (same_new nt0 (.tup [v, .int 1]) _ _ upd_same) n2
    refine ⟨fun m σ H' => ∃ (o3 o4 : Option V) (rows ys : List V) (done : List (Str × Int)) (st : List (Kd × Int)), m = (st.map fun x => x.1.wt).sum ∧ σ = [some v, some (.ref l1), some (.ref l2), o3, o4] ∧ Same H H' ∧ H' l1 = some (.lst rows) ∧ H' l2 = some (.lst ys.reverse) ∧
      All2 (PairAt H') ys st ∧ All2 (RowAt H') rows done ∧ done ++ (st.flatMap fun x => x.1.places x.2) = k.places 1 ∧ ∀ x ∈ st, x.1.ok ∧ x.1.deep ≤ 8,
      ⟨_, none, none, [], [.ref t0], [], [(k, 1)], rfl, rfl, sC, h1, upd_same, ⟨⟨t0, v, rfl, ht0, hk.mono (.of sC)⟩, trivial⟩, trivial, by simp, fun x hx => ?_⟩, ?_⟩
    · rw [List.mem_singleton] at hx
      rw [hx]
      exact ⟨ok, hd⟩
    · rintro m σ H1 ⟨o3, o4, rows, ys, done, st, rfl, rfl, e1, hr1, hr2, hst, hrow, hall, hok⟩
      have lall := congrArg List.length hall
      rw [List.length_append, k.places_len] at lall
      have lst := places_flat st
      have lrow := hrow.len
      have lys := hst.len
      have rlt : rows.length < 1000000 := by omega
      refine ⟨_, rfl, sz1 (by show 0 ≤ 1000000; decide), fun z nz => ne_nil (same_new nz _ _ _ hr2) upd_same (fun u hu => ?_) ?_⟩
      · obtain ⟨x, m, r⟩ := hst.mem (List.mem_reverse.mp hu)
        exact (PairAt.mono (.new nz) _ _ r).lk (hok x m).1 (hok x m).2
      · have eZ := e1.trans (same_new nz (.lst []))
        have z1 := same_new nz (.lst []) _ _ hr1
        have z2 := same_new nz (.lst []) _ _ hr2
        have tz : Tps H1 (upd H1 z (.lst [])) := .new nz
        replace hst := hst.mono (PairAt.mono tz)
        replace hrow := hrow.mono (RowAt.mono tz)
        generalize upd H1 z (.lst []) = H2 at eZ z1 z2 hst hrow
        cases ys with
        | nil =>
          cases st with
          | cons _ _ => exact hst.elim
          | nil =>
            refine ⟨_, rfl, bf rfl ⟨_, rfl, ?_⟩⟩
            rw [List.flatMap_nil, List.append_nil] at hall
            rw [← hall] at q
            exact q l1 rows H2 eZ z1 hrow
        | cons y ys =>
          cases st with
          | nil => exact hst.elim
          | cons x st =>
            obtain ⟨kx, dx⟩ := x
            obtain ⟨⟨p, u, rfl, hp, hu⟩, hst⟩ := hst
            have erev : (V.ref p :: ys).reverse = ys.reverse ++ [V.ref p] := List.reverse_cons
            rw [erev] at z2
            have ene : (!(V.ref p :: ys).reverse.isEmpty) = true := by
              rw [erev]
              cases ys.reverse <;> rfl
            have np : p ≠ l2 := ne_of hp z2 (fun z => by cases z)
            have l1' : (upd H2 l2 (.lst ys.reverse)) l1 = some (.lst rows) := by
              rw [upd_ne n12]
              exact z1
            have hp' : (upd H2 l2 (.lst ys.reverse)) p = some (.tup [u, .int dx]) := by
              rw [upd_ne np]
              exact hp
            have tpop : Tps H2 (upd H2 l2 (.lst ys.reverse)) := Tps.lst z2
            have ePop : Same H (upd H2 l2 (.lst ys.reverse)) := same_mut eZ f2 _
            have l2' : (upd H2 l2 (.lst ys.reverse)) l2 = some (.lst ys.reverse) := upd_same
            replace hst := hst.mono (PairAt.mono tpop)
            replace hrow := hrow.mono (RowAt.mono tpop)
            replace hu := hu.mono tpop
            refine ⟨_, rfl, bt ene ⟨_, fun _ _ h => h, ?_⟩⟩
            refine ⟨_, rfl, .inl ⟨rfl, _, SqL.of z2⟩, l2, _, V.ref p, rfl, rfl, z2, by simp, ?_⟩
            rw [List.dropLast_concat]
            generalize upd H2 l2 (.lst ys.reverse) = H3 at l1' hp' tpop ePop l2' hst hrow hu
            refine ⟨p, _, rfl, SqT.of hp', rfl, _, _, rfl, _, _, rfl, rfl, ?_⟩
            obtain ⟨okx, dpx⟩ := hok (kx, dx) List.mem_cons_self
            have hok' : ∀ x ∈ st, x.1.ok ∧ x.1.deep ≤ 8 := fun x hx => hok x (List.mem_cons_of_mem _ hx)
            rw [List.flatMap_cons] at hall
            rw [List.length_cons, List.length_cons] at lys
            rw [List.length_cons] at lst
            cases kx with
            | pl s =>
              obtain ⟨p2, rfl, hq⟩ := hu
              refine ⟨_, rfl, p2, _, _, _, rfl, rfl, SqT.of hq, at0, rfl, _, rfl, bt rfl ?_⟩
              refine ⟨_, rfl, .inl ⟨rfl, _, SqL.of l1'⟩, _, rfl, p2, _, _, _, rfl, rfl, SqT.of hq, at1, _, rfl, sz1 (by show 2 ≤ 1000000; decide), fun t nt => ?_⟩
              have t1 := same_new nt (.tup [.str s, .int dx]) _ _ l1'
              refine ⟨l1, _, _, rfl, rfl, t1, sz2 rlt, ?_⟩
              have tps : Tps H3 (upd (upd H3 t (.tup [.str s, .int dx])) l1 (.lst (rows ++ [.ref t]))) := (Tps.new nt).trans (Tps.lst t1)
              refine ⟨_, ?_, _, _, rows ++ [.ref t], ys, done ++ [(s, dx)], st, rfl, rfl, same_mut (ePop.trans (same_new nt _)) n1 _, upd_same, ?_, hst.mono (PairAt.mono tps), All2.snoc ⟨t, rfl, ?_⟩ (hrow.mono (RowAt.mono tps)), ?_, hok'⟩
              · rw [List.map_cons, List.sum_cons]
                show _ < 1 + _
                omega
              · rw [upd_ne n12.symm]
                exact same_new nt _ _ _ l2'
              · rw [List.append_assoc]
                exact hall
              · rw [upd_ne (ne_of_none l1' nt).symm]
                exact upd_same
            | nd f a b =>
              obtain ⟨p2, x, y, rfl, hq, ha, hb⟩ := hu
              obtain ⟨hf, oa, ob⟩ := okx
              have dm : 1 + max a.deep b.deep ≤ 8 := dpx
              refine ⟨_, rfl, p2, _, _, _, rfl, rfl, SqT.of hq, at0, rfl, _, rfl, bf (plain_ne hf) ?_⟩
              refine ⟨_, rfl, .inl ⟨rfl, _, SqL.of l2'⟩, _, rfl, p2, _, _, _, rfl, rfl, SqT.of hq, at2, _, rfl, _, _, rfl, rfl, sz1 (by show 2 ≤ 1000000; decide), fun t nt => ?_⟩
              have u1 := same_new nt (.tup [y, .int (dx + 1)]) _ _ l2'
              refine ⟨l2, _, _, rfl, rfl, u1, sz2 (by rw [List.length_reverse]; omega), ?_⟩
              have tpa : Tps H3 (upd (upd H3 t (.tup [y, .int (dx + 1)])) l2 (.lst (ys.reverse ++ [.ref t]))) := (Tps.new nt).trans (Tps.lst u1)
              have hq' := tpa _ _ hq
              have l2a : (upd (upd H3 t (.tup [y, .int (dx + 1)])) l2 (.lst (ys.reverse ++ [.ref t]))) l2 = some (.lst (ys.reverse ++ [.ref t])) := upd_same
              have l1a : (upd (upd H3 t (.tup [y, .int (dx + 1)])) l2 (.lst (ys.reverse ++ [.ref t]))) l1 = some (.lst rows) := by
                rw [upd_ne n12]
                exact same_new nt _ _ _ l1'
              have hta : (upd (upd H3 t (.tup [y, .int (dx + 1)])) l2 (.lst (ys.reverse ++ [.ref t]))) t = some (.tup [y, .int (dx + 1)]) := by
                rw [upd_ne (ne_of_none l2' nt).symm]
                exact upd_same
              have sa := same_mut (ePop.trans (same_new nt (.tup [y, .int (dx + 1)]))) f2 (.lst (ys.reverse ++ [.ref t]))
              generalize upd (upd H3 t (.tup [y, .int (dx + 1)])) l2 (.lst (ys.reverse ++ [.ref t])) = H4 at tpa hq' l2a l1a hta sa
              refine ⟨_, rfl, .inl ⟨rfl, _, SqL.of l2a⟩, _, rfl, p2, _, _, _, rfl, rfl, SqT.of hq', at1, _, rfl, _, _, rfl, rfl, sz1 (by show 2 ≤ 1000000; decide), fun t2 nt2 => ?_⟩
              have u2 := same_new nt2 (.tup [x, .int (dx + 1)]) _ _ l2a
              refine ⟨l2, _, _, rfl, rfl, u2, sz2 (by rw [List.length_append, List.length_reverse, List.length_singleton]; omega), ?_⟩
              have tpb : Tps H4 (upd (upd H4 t2 (.tup [x, .int (dx + 1)])) l2 (.lst (ys.reverse ++ [.ref t] ++ [.ref t2]))) := (Tps.new nt2).trans (Tps.lst u2)
              have tpc := tpa.trans tpb
              refine ⟨_, ?_, _, _, rows, V.ref t2 :: V.ref t :: ys, done, (a, dx + 1) :: (b, dx + 1) :: st, rfl, rfl, same_mut (sa.trans (same_new nt2 _)) f2 _, ?_, ?_, ⟨⟨t2, x, rfl, ?_, ha.mono tpc⟩, ⟨t, y, rfl, tpb _ _ hta, hb.mono tpc⟩, hst.mono (PairAt.mono tpc)⟩, hrow.mono (RowAt.mono tpc), ?_, ?_⟩
              · rw [List.map_cons, List.sum_cons, List.map_cons, List.sum_cons, List.map_cons, List.sum_cons]
                show _ < (1 + a.wt + b.wt) + _
                show a.wt + (b.wt + _) < _
                omega
              · rw [upd_ne n12]
                exact same_new nt2 _ _ _ l1a
              · rw [upd_same]
                simp
              · rw [upd_ne (ne_of_none l2a nt2).symm]
                exact upd_same
              · rw [← hall, List.flatMap_cons, List.flatMap_cons]
                show _ = done ++ ((a.places (dx + 1) ++ b.places (dx + 1)) ++ _)
                rw [List.append_assoc]
              · intro z hz
                rcases List.mem_cons.mp hz with rfl | hz
                · exact ⟨oa, by show a.deep ≤ 8; omega⟩
                · rcases List.mem_cons.mp hz with rfl | hz
                  · exact ⟨ob, by show b.deep ≤ 8; omega⟩
                  · exact hok' z hz
end
end K01

namespace K01
open PySem PySem.Spec PyProof.Rows L2 Ww
section
variable {P : Program} {w : World} {K : PySem.W.Frag} {mg : Str → Option Value} {base : Heap}
def spLeaning : Sp := fun vs H Q _ => ∃ (a g : Addr) (n : Nat) (t : Str), vs = [.ref a, .str t] ∧ SrcAt H a g n ∧ n ≤ 900000 ∧ Pool t ∧
  ∀ v k H', But a H H' → SrcAt H' a g (n + 3) → KAt H' v k → k.ok → k.deep ≤ 6 → k.letters.length ≤ 6 → Q v H'
theorem ok_leaning (T : Txt w K mg) : FnOk P w K mg base CX0 (2) T.a_leaning T.d_leaning P_leaning (spLeaning) := by
  refine T.F_leaning.ok sc_leaning (fun vs H Q E h => ?_) (fun cdv A outer s H vs Q E hr h => ⟨_, (pss_cons (ps_par (i := 2) (j := 3) rfl sc_leaning.nd rfl rfl (by decide) rfl rfl (pa_cons (pe_ix ix_list (pe_lst (pa_cons pe_str (pa_cons pe_str (pa_cons pe_str pa_nil)))) (pe_call (ok_pick T) (hr.mono (by first | decide | omega)) rfl T.m_pick T.F_pick.kp T.B_pick .nil pass0 (pa_cons (pv 0) (pa_cons pe_int pa_nil))) (fun _ _ => rfl)) (pa_cons (pe_tup (pa_cons pe_str (pa_cons (pe_item_str (pv 1) pe_int (fun _ _ => rfl)) pa_nil))) pa_nil)) rfl)
    (pss_cons (ps_set (i := 4) sc_leaning.nd rfl (Or.inl rfl) (pe_call (ok_pick T) (hr.mono (by first | decide | omega)) rfl T.m_pick T.F_pick.kp T.B_pick .nil pass0 (pa_cons (pv 0) (pa_cons pe_int pa_nil))))
    (pss_cons (ps_for PassesOwn.never rfl (pi_range1 rfl T.b_range (pa_cons (pe_call (ok_pick T) (hr.mono (by first | decide | omega)) rfl T.m_pick T.F_pick.kp T.B_pick .nil pass0 (pa_cons (pv 0) (pa_cons pe_int pa_nil))) pa_nil)) (pg_name (i := 5) sc_leaning.nd rfl (Or.inl rfl))
    (pss_cons (ps_set (i := 6) sc_leaning.nd rfl (Or.inl rfl) (pe_tup (pa_cons pe_str (pa_cons (pe_item_str (pv 1) (pe_op op_mod (pe_callTy call_int1 (by rfl) T.b_int (by decide +kernel) (pa_cons (pe_op op_add (pv 5) pe_int) pa_nil)) (pe_callB call_len_str rfl T.b_len PySem.boot_len (pa_cons (pv 1) pa_nil))) (fun _ _ => rfl)) pa_nil))))
    (pss_one (ps_if (pt_cmpR op_eq (pv 4) pe_int (nomark _))
    (pss_one (ps_set (i := 3) sc_leaning.nd rfl (Or.inl rfl) (pe_tup (pa_cons (pv 2) (pa_cons (pv 3) (pa_cons (pv 6) pa_nil))))))
    (pss_one (ps_set (i := 3) sc_leaning.nd rfl (Or.inl rfl) (pe_tup (pa_cons (pv 2) (pa_cons (pv 6) (pa_cons (pv 3) pa_nil))))))))))
    (pss_one (ps_ret (pv 3)))))), ?_⟩)
  · obtain ⟨a, g, n, t, rfl, _⟩ := h
    rfl
  · obtain ⟨a, g, n, t, rfl, hs, hn, ⟨ta, t1, t14⟩, q⟩ := h
    refine ⟨sz1 (by show 3 ≤ 1000000; decide), fun l1 n1 => ⟨_, rfl, a, g, 3, n, rfl, by decide, by decide, hs.new n1, by omega, fun r H1 r0 r1 b1 s1 => ?_⟩⟩
    have hl1 := b1 l1 _ (hs.ne n1).1 upd_same
    have b01 := (But.new (a := a) (o := .lst [.str "behind", .str "ahead", .str "with"]) n1).trans b1
    obtain ⟨v, hv, hm⟩ := atI_mem (xs := [V.str "behind", V.str "ahead", V.str "with"]) r0 r1
    obtain ⟨f, rfl, hf⟩ : ∃ f : Str, v = .str f ∧ Form f := by
      simp only [List.mem_cons, List.not_mem_nil, or_false] at hm
      rcases hm with rfl | rfl | rfl
      · exact ⟨_, rfl, .inl rfl⟩
      · exact ⟨_, rfl, .inr (.inl rfl)⟩
      · exact ⟨_, rfl, .inr (.inr rfl)⟩
    obtain ⟨x0, hx0, lx0⟩ := ta.at (r := 0) (by omega) (by omega)
    refine ⟨l1, _, _, _, rfl, rfl, SqL.of hl1, hv, _, rfl, _, _, x0, rfl, rfl, by decide, by decide, by omega, hx0, sz1 (by show 2 ≤ 1000000; decide), fun p hp => ⟨_, _, rfl, ?_⟩⟩
    refine ⟨_, rfl, a, g, 2, n + 1, rfl, by decide, by decide, s1.new hp, by omega, fun r2 H2 r20 r21 b2 s2 => ?_⟩
    have hp2 := b2 p _ ((s1.ne hp).1) upd_same
    have b02 := b01.trans ((But.new hp).trans b2)
    refine ⟨_, rfl, a, g, 5, n + 1 + 1, rfl, by decide, by decide, s2, by omega, fun r3 H3 r30 r31 b3 s3 => ?_⟩
    have hp3 := b3 p _ ((s1.ne hp).1) hp2
    have b03 := b02.trans b3
    refine ⟨_, rfl, by omega, by omega, for_range (lo := 0) (n := r3.toNat) (fun i σ H' => ∃ (o5 o6 : Option V) (v : V) (k : Kd), σ = [some (.ref a), some (.str t), some (.str f), some v, some (.int r2), o5, o6] ∧ But a H H' ∧ SrcAt H' a g (n + 3) ∧ KAt H' v k ∧ k.ok ∧ k.deep ≤ i + 1 ∧ k.letters.length ≤ i + 1)
      ⟨none, none, _, .pl ⟨#[x0]⟩, rfl, b03, s3, ⟨p, rfl, hp3⟩, lx0, Nat.le_refl 1, Nat.le_refl 1⟩ ?_ ?_⟩
    · rintro i σ H4 hi ⟨o5, o6, v, k, rfl, b4, s4, ka, ok, dp, sz⟩
      have m0 : (0 : Int) ≤ ((0 : Int) + (i : Int) + 1) % (t.length : Int) := Int.emod_nonneg _ (by omega)
      have m1 : ((0 : Int) + (i : Int) + 1) % (t.length : Int) < (t.length : Int) := Int.emod_lt_of_pos _ (by omega)
      obtain ⟨x, hx, lx⟩ := ta.at m0 m1
      refine ⟨_, rfl, _, rfl, _, _, rfl, rfl, .inl ⟨_, rfl, _, rfl, t, rfl, sz1 (by omega), _, _, rfl, rfl, by omega, _, _, x, rfl, rfl, m0, by omega, m1, hx, sz1 (by show 2 ≤ 1000000; decide), fun p4 hp4 => ?_⟩⟩
      refine ⟨_, rfl, rfl, _, rfl, bb (fun _ => ?_) (fun _ => ?_)⟩
      · refine ⟨_, rfl, _, rfl, _, rfl, sz1 (by show 3 ≤ 1000000; decide), fun p5 hp5 => ?_⟩
        refine ⟨_, _, _, .nd f k (.pl ⟨#[x]⟩), rfl, b4.trans ((But.new hp4).trans (But.new hp5)), (s4.new hp4).new hp5, ⟨p5, _, _, rfl, upd_same, ka.mono ((Tps.new hp4).trans (Tps.new hp5)), ⟨p4, rfl, same_new hp5 _ _ _ upd_same⟩⟩, ⟨hf, ok, lx⟩, ?_, ?_⟩
        · show 1 + max k.deep 1 ≤ i + 1 + 1
          omega
        · show (k.letters ++ [(⟨#[x]⟩ : Str)]).length ≤ i + 1 + 1
          rw [List.length_append, List.length_singleton]
          omega
      · refine ⟨_, rfl, _, rfl, _, rfl, sz1 (by show 3 ≤ 1000000; decide), fun p5 hp5 => ?_⟩
        refine ⟨_, _, _, .nd f (.pl ⟨#[x]⟩) k, rfl, b4.trans ((But.new hp4).trans (But.new hp5)), (s4.new hp4).new hp5, ⟨p5, _, _, rfl, upd_same, ⟨p4, rfl, same_new hp5 _ _ _ upd_same⟩, ka.mono ((Tps.new hp4).trans (Tps.new hp5))⟩, ⟨hf, lx, ok⟩, ?_, ?_⟩
        · show 1 + max 1 k.deep ≤ i + 1 + 1
          omega
        · show ([(⟨#[x]⟩ : Str)] ++ k.letters).length ≤ i + 1 + 1
          rw [List.length_append, List.length_singleton]
          omega
    · rintro σ H4 ⟨o5, o6, v, k, rfl, b4, s4, ka, ok, dp, sz⟩
      exact ⟨_, rfl, q v k H4 b4 s4 ka ok (by omega) (by omega)⟩
end
end K01

namespace K01
open PySem PySem.Spec PyProof.Rows L2 Ww
section
variable {P : Program} {w : World} {K : PySem.W.Frag} {mg : Str → Option Value} {base : Heap}
def spFull : Sp := fun vs H Q _ => ∃ t : Str, vs = [.str t] ∧ Pool t ∧ ∀ v k H', Same H H' → KAt H' v k → k.ok → k.deep ≤ 4 → k.letters.length ≤ 7 → Q v H'
theorem ok_full (T : Txt w K mg) : FnOk P w K mg base CX0 (1) T.a_full T.d_full P_full (spFull) := by
  refine T.F_full.ok sc_full (fun vs H Q E h => ?_) (fun cdv A outer s H vs Q E hr h => ⟨_, (pss_cons (ps_setLc (i := 1) (own := [("_law_k", 2)]) (g := gName 2) rfl sc_full.nd rfl rfl (sw_true rfl rfl rfl (by decide +kernel)) (pi_range1 rfl T.b_range (pa_cons pe_int pa_nil)) (blkOk_by (N := N_full) (own := [("_law_k", 2)]) (sc := defScope s_full) (by decide +kernel)) (fun _ _ _ _ _ => (pg_name (i := 2) sc_full.nd rfl (Or.inl rfl))) (fun _ _ _ _ _ => pts_nil) (fun _ _ _ _ _ => (pe_tup (pa_cons pe_str (pa_cons (pe_item_str (pv 0) (pe_op op_mod (pe_callTy call_int1 (by rfl) T.b_int (by decide +kernel) (pa_cons (pv 2) pa_nil)) (pe_callB call_len_str rfl T.b_len PySem.boot_len (pa_cons (pv 0) pa_nil))) (fun _ _ => rfl)) pa_nil)))))
    (pss_cons (ps_set (i := 3) sc_full.nd rfl (Or.inl rfl) (pe_tup (pa_cons pe_str (pa_cons (pe_tup (pa_cons pe_str (pa_cons (pe_ix ix_list (pv 1) pe_int (fun _ _ => rfl)) (pa_cons (pe_ix ix_list (pv 1) pe_int (fun _ _ => rfl)) pa_nil)))) (pa_cons (pe_tup (pa_cons pe_str (pa_cons (pe_ix ix_list (pv 1) pe_int (fun _ _ => rfl)) (pa_cons (pe_ix ix_list (pv 1) pe_int (fun _ _ => rfl)) pa_nil)))) pa_nil)))))
    (pss_one (ps_ret (pe_tup (pa_cons pe_str (pa_cons (pv 3) (pa_cons (pe_tup (pa_cons pe_str (pa_cons (pe_tup (pa_cons pe_str (pa_cons (pe_ix ix_list (pv 1) pe_int (fun _ _ => rfl)) (pa_cons (pe_ix ix_list (pv 1) pe_int (fun _ _ => rfl)) pa_nil)))) (pa_cons (pe_ix ix_list (pv 1) pe_int (fun _ _ => rfl)) pa_nil)))) pa_nil)))))))), ?_⟩)
  · obtain ⟨t, rfl, _⟩ := h
    rfl
  · obtain ⟨t, rfl, ⟨ta, t1, t14⟩, q⟩ := h
    refine ⟨_, rfl, by decide, by decide, fun D hD => lc_range (lo := 0) (n := 7) (fun i H3 => Same H H3 ∧ ∃ ys : List V, H3 D = some (.lst ys) ∧ ys.length = i ∧ ∀ y ∈ ys, ∃ s : Str, Let s ∧ KAt H3 y (.pl s)) ⟨same_new hD _, [], upd_same, rfl, fun _ z => nomatch z⟩ ?_ ?_⟩
    · rintro i H3 hi ⟨e3, ys, hy, ly, al⟩
      have m0 : (0 : Int) ≤ ((0 : Int) + (i : Int)) % (t.length : Int) := Int.emod_nonneg _ (by omega)
      have m1 : ((0 : Int) + (i : Int)) % (t.length : Int) < (t.length : Int) := Int.emod_lt_of_pos _ (by omega)
      obtain ⟨x, hx, lx⟩ := ta.at m0 m1
      refine ⟨rfl, lc_yes ?_⟩
      refine ⟨_, rfl, _, rfl, .inl ⟨_, rfl, _, rfl, t, rfl, sz1 (by omega), _, _, rfl, rfl, by omega, _, _, x, rfl, rfl, m0, by omega, m1, hx, sz1 (by show 2 ≤ 1000000; decide), fun p hp => ?_⟩⟩
      have hy' := same_new hp (.tup [.str "plain", .str ⟨#[x]⟩]) _ _ hy
      have tp : Tps H3 (upd (upd H3 p (.tup [.str "plain", .str ⟨#[x]⟩])) D (.lst (ys ++ [.ref p]))) := (Tps.new hp).trans (Tps.lst hy')
      refine ⟨ys, hy', sz2 (by omega), same_mut (e3.trans (same_new hp _)) hD _, ys ++ [.ref p], upd_same, by rw [List.length_append, ly]; rfl, fun y hyy => ?_⟩
      rcases List.mem_append.mp hyy with z | z
      · obtain ⟨s, h1, h2⟩ := al y z
        exact ⟨s, h1, h2.mono tp⟩
      · rw [List.mem_singleton] at z
        subst z
        refine ⟨_, lx, p, rfl, ?_⟩
        rw [upd_ne (ne_of_none hy hp).symm]
        exact upd_same
    · rintro H3 ⟨e3, ys, hy, ly, al⟩
      match ys, ly with
      | [y0, y1, y2, y3, y4, y5, y6], _ =>
        obtain ⟨s0, l0, k0⟩ := al y0 (by simp)
        obtain ⟨s1, l1, k1⟩ := al y1 (by simp)
        obtain ⟨s2, l2, k2⟩ := al y2 (by simp)
        obtain ⟨s3, l3, k3⟩ := al y3 (by simp)
        obtain ⟨s4, l4, k4⟩ := al y4 (by simp)
        obtain ⟨s5, l5, k5⟩ := al y5 (by simp)
        obtain ⟨s6, l6, k6⟩ := al y6 (by simp)
        have big3 : 3 ≤ sizeLine := sz1 (by show 3 ≤ 1000000; decide)
        refine ⟨_, rfl, D, _, _, _, rfl, rfl, SqL.of hy, at0, _, rfl, D, _, _, _, rfl, rfl, SqL.of hy, at1, big3, fun p1 n1 => ?_⟩
        have e4 := same_new n1 (.tup [.str "ahead", y0, y1])
        have g4 := upd_same (H := H3) (a := p1) (o := .tup [.str "ahead", y0, y1])
        generalize upd H3 p1 (.tup [.str "ahead", y0, y1]) = H4 at e4 g4
        have hy4 := e4 _ _ hy
        refine ⟨_, rfl, D, _, _, _, rfl, rfl, SqL.of hy4, at2, _, rfl, D, _, _, _, rfl, rfl, SqL.of hy4, at3, big3, fun p2 n2 => ?_⟩
        have e5 := same_new n2 (.tup [.str "behind", y2, y3])
        have g5 := upd_same (H := H4) (a := p2) (o := .tup [.str "behind", y2, y3])
        generalize upd H4 p2 (.tup [.str "behind", y2, y3]) = H5 at e5 g5
        refine ⟨big3, fun p3 n3 => ?_⟩
        have e6 := same_new n3 (.tup [.str "behind", .ref p1, .ref p2])
        have g6 := upd_same (H := H5) (a := p3) (o := .tup [.str "behind", .ref p1, .ref p2])
        generalize upd H5 p3 (.tup [.str "behind", .ref p1, .ref p2]) = H6 at e6 g6
        have e36 := e4.trans (e5.trans e6)
        have hy6 := e36 _ _ hy
        have kA : KAt H6 (.ref p3) (.nd "behind" (.nd "ahead" (.pl s0) (.pl s1)) (.nd "behind" (.pl s2) (.pl s3))) :=
          ⟨p3, _, _, rfl, g6, ⟨p1, _, _, rfl, e6 _ _ (e5 _ _ g4), k0.mono (.of e36), k1.mono (.of e36)⟩, ⟨p2, _, _, rfl, e6 _ _ g5, k2.mono (.of e36), k3.mono (.of e36)⟩⟩
        refine ⟨_, rfl, _, rfl, D, _, _, _, rfl, rfl, SqL.of hy6, at4, _, rfl, D, _, _, _, rfl, rfl, SqL.of hy6, at5, big3, fun p4 n4 => ?_⟩
        have e7 := same_new n4 (.tup [.str "ahead", y4, y5])
        have g7 := upd_same (H := H6) (a := p4) (o := .tup [.str "ahead", y4, y5])
        generalize upd H6 p4 (.tup [.str "ahead", y4, y5]) = H7 at e7 g7
        have e37 := e36.trans e7
        have hy7 := e37 _ _ hy
        refine ⟨_, rfl, D, _, _, _, rfl, rfl, SqL.of hy7, at6, big3, fun p5 n5 => ?_⟩
        have e8 := same_new n5 (.tup [.str "behind", .ref p4, y6])
        have g8 := upd_same (H := H7) (a := p5) (o := .tup [.str "behind", .ref p4, y6])
        generalize upd H7 p5 (.tup [.str "behind", .ref p4, y6]) = H8 at e8 g8
        refine ⟨big3, fun p6 n6 => ?_⟩
        have e9 := same_new n6 (.tup [.str "ahead", .ref p3, .ref p5])
        have g9 := upd_same (H := H8) (a := p6) (o := .tup [.str "ahead", .ref p3, .ref p5])
        generalize upd H8 p6 (.tup [.str "ahead", .ref p3, .ref p5]) = H9 at e9 g9
        have e39 := e37.trans (e8.trans e9)
        refine q (.ref p6) (.nd "ahead" (.nd "behind" (.nd "ahead" (.pl s0) (.pl s1)) (.nd "behind" (.pl s2) (.pl s3))) (.nd "behind" (.nd "ahead" (.pl s4) (.pl s5)) (.pl s6))) H9 (e3.trans e39)
          ⟨p6, _, _, rfl, g9, kA.mono (.of (e7.trans (e8.trans e9))), ⟨p5, _, _, rfl, e9 _ _ g8, ⟨p4, _, _, rfl, e9 _ _ (e8 _ _ g7), k4.mono (.of e39), k5.mono (.of e39)⟩, k6.mono (.of e39)⟩⟩ ?_ (by show 4 ≤ 4; decide) (by show 7 ≤ 7; decide)
        have fb : Form "behind" := .inl rfl
        have fa : Form "ahead" := .inr (.inl rfl)
        exact ⟨fa, ⟨fb, ⟨fa, l0, l1⟩, ⟨fb, l2, l3⟩⟩, ⟨fb, ⟨fa, l4, l5⟩, l6⟩⟩
end
end K01

namespace K01
open PySem PySem.Spec PyProof.Rows L2 Ww
section
variable {P : Program} {w : World} {K : PySem.W.Frag} {mg : Str → Option Value} {base : Heap}
def spHasWith : Sp := fun vs H Q _ => ∃ (v : V) (k : Kd), vs = [v] ∧ KOk H v k ∧ ∀ H', Same H H' → Q (.bl (!k.single)) H'
theorem any_with (f : Str) (a b : Kd) : (!(Kd.nd f a b).single) = (decide (f = "with") || (!a.single || !b.single)) := by
  show (!(!decide (f = "with") && (a.single && b.single))) = _
  cases decide (f = "with") <;> cases a.single <;> cases b.single <;> rfl
theorem wt_pos : ∀ k : Kd, 1 ≤ k.wt
  | .pl s => Nat.le_refl 1
  | .nd f a b => by show 1 ≤ 1 + a.wt + b.wt; omega
theorem wt_sum : ∀ st : List Kd, st.length ≤ (st.map Kd.wt).sum
  | [] => Nat.le_refl 0
  | k :: st => by
    have := wt_sum st
    have := wt_pos k
    rw [List.map_cons, List.sum_cons, List.length_cons]
    omega
theorem wt_le : ∀ k : Kd, k.wt + 1 = 2 * k.letters.length
  | .pl s => rfl
  | .nd f a b => by
    have := wt_le a
    have := wt_le b
    show 1 + a.wt + b.wt + 1 = 2 * (a.letters ++ b.letters).length
    rw [List.length_append]
    omega
theorem ok_has_with (T : Txt w K mg) : FnOk P w K mg base CX0 (1) T.a_has_with T.d_has_with P_has_with (spHasWith) := by
  refine T.F_has_with.ok sc_has_with (fun vs H Q E h => ?_) (fun cdv A outer s H vs Q E hr h => ⟨_, (pss_cons (ps_par (i := 1) (j := 2) rfl sc_has_with.nd rfl rfl (by decide) rfl rfl (pa_cons (pe_lst (pa_cons (pv 0) pa_nil)) (pa_cons pe_bl pa_nil)) rfl)
    (pss_cons (ps_while PassesOwn.never (pt_cmpR (op_neD (hu64 hr)) (pv 1) (pe_lst pa_nil) (nomark _))
    (pss_cons (ps_set (i := 3) sc_has_with.nd rfl (Or.inl rfl) (pe_bm0 PySem.F.plainAttrs_list PySem.F.slot_list_pop PySem.F.type_list_pop mt_pop (pv 1)))
    (pss_cons (ps_if (pt_cmpR op_eq (pe_ix ix_tup (pv 3) pe_int (fun _ _ => rfl)) pe_str (nomark _))
    (pss_one (ps_set (i := 2) sc_has_with.nd rfl (Or.inl rfl) pe_bl))
    pss_nil)
    (pss_one (ps_if (pt_cmpR op_ne (pe_ix ix_tup (pv 3) pe_int (fun _ _ => rfl)) pe_str (nomark _))
    (pss_one (ps_set (i := 1) sc_has_with.nd rfl (Or.inl rfl) (pe_op op_cat (pv 1) (pe_lst (pa_cons (pe_ix ix_tup (pv 3) pe_int (fun _ _ => rfl)) (pa_cons (pe_ix ix_tup (pv 3) pe_int (fun _ _ => rfl)) pa_nil))))))
    pss_nil)))))
    (pss_one (ps_ret (pv 2))))), ?_⟩)
  · obtain ⟨v, k, rfl, _⟩ := h
    rfl
  · obtain ⟨v, k, rfl, ⟨hk, ok, hd, hz⟩, q⟩ := h
    refine ⟨_, rfl, sz1 (by show 1 ≤ 1000000; decide), fun l1 n1 => ⟨_, _, rfl, ?_⟩⟩
    have sA : Same H (upd H l1 (.lst [v])) := same_new n1 _
    have wk := wt_le k
    refine ⟨fun m σ H' => ∃ (l : Addr) (fnd : Bool) (o3 : Option V) (ys : List V) (st : List Kd), m = (st.map Kd.wt).sum ∧ m ≤ 100 ∧ σ = [some v, some (.ref l), some (.bl fnd), o3] ∧ Same H H' ∧ H l = none ∧ H' l = some (.lst ys.reverse) ∧
      All2 (KAt H') ys st ∧ (fnd || st.any fun k => !k.single) = (!k.single) ∧ ∀ x ∈ st, x.ok ∧ x.deep ≤ 8,
      ⟨_, l1, false, none, [v], [k], rfl, by show k.wt + 0 ≤ 100; omega, rfl, sA, n1, upd_same, ⟨hk.mono (.of sA), trivial⟩, by simp, fun x hx => ?_⟩, ?_⟩
    · rw [List.mem_singleton] at hx
      rw [hx]
      exact ⟨ok, hd⟩
    · rintro m σ H1 ⟨l, fnd, o3, ys, st, rfl, hm, rfl, e1, nl, hl, hst, hany, hok⟩
      have lys := hst.len
      have lwt := wt_sum st
      refine ⟨_, rfl, sz1 (by show 0 ≤ 1000000; decide), fun z nz => ne_nil (same_new nz _ _ _ hl) upd_same (fun u hu => ?_) ?_⟩
      · obtain ⟨x, m, r⟩ := hst.mem (List.mem_reverse.mp hu)
        exact (r.mono (.new nz)).lk (hok x m).1 (by have := (hok x m).2; omega)
      · have eZ := e1.trans (same_new nz (.lst []))
        have z2 := same_new nz (.lst []) _ _ hl
        have tz : Tps H1 (upd H1 z (.lst [])) := .new nz
        replace hst := hst.mono fun _ _ h => KAt.mono tz h
        generalize upd H1 z (.lst []) = H2 at eZ z2 hst
        cases ys with
        | nil =>
          cases st with
          | cons _ _ => exact hst.elim
          | nil =>
            refine ⟨_, rfl, bf rfl ⟨_, rfl, ?_⟩⟩
            have e : (!k.single) = fnd := by
              rw [← hany]
              cases fnd <;> rfl
            rw [e] at q
            exact q H2 eZ
        | cons y ys =>
          cases st with
          | nil => exact hst.elim
          | cons kx st =>
            obtain ⟨hu, hst⟩ := hst
            have erev : (y :: ys).reverse = ys.reverse ++ [y] := List.reverse_cons
            rw [erev] at z2
            have ene : (!(y :: ys).reverse.isEmpty) = true := by
              rw [erev]
              cases ys.reverse <;> rfl
            have tpop : Tps H2 (upd H2 l (.lst ys.reverse)) := Tps.lst z2
            have ePop : Same H (upd H2 l (.lst ys.reverse)) := same_mut eZ nl _
            have l2' : (upd H2 l (.lst ys.reverse)) l = some (.lst ys.reverse) := upd_same
            replace hst := hst.mono fun _ _ h => KAt.mono tpop h
            replace hu := hu.mono tpop
            refine ⟨_, rfl, bt ene ⟨_, fun _ _ h => h, ?_⟩⟩
            refine ⟨_, rfl, .inl ⟨rfl, _, SqL.of z2⟩, l, _, y, rfl, rfl, z2, by simp, ?_⟩
            rw [List.dropLast_concat]
            generalize upd H2 l (.lst ys.reverse) = H3 at tpop ePop l2' hst hu
            obtain ⟨okx, dpx⟩ := hok kx List.mem_cons_self
            have hok' : ∀ x ∈ st, x.ok ∧ x.deep ≤ 8 := fun x hx => hok x (List.mem_cons_of_mem _ hx)
            rw [List.length_cons, List.length_cons] at lys
            rw [List.map_cons, List.sum_cons] at hm
            have wst := wt_sum st
            rw [List.any_cons] at hany
            cases kx with
            | pl s =>
              obtain ⟨p2, rfl, hq⟩ := hu
              refine ⟨_, rfl, p2, _, _, _, rfl, rfl, SqT.of hq, at0, rfl, _, rfl, bf rfl ?_⟩
              refine ⟨_, rfl, p2, _, _, _, rfl, rfl, SqT.of hq, at0, rfl, _, rfl, bf rfl ?_⟩
              refine ⟨_, ?_, l, fnd, _, ys, st, rfl, by omega, rfl, ePop, nl, l2', hst, ?_, hok'⟩
              · rw [List.map_cons, List.sum_cons]
                show _ < 1 + _
                omega
              · exact hany
            | nd f a b =>
              obtain ⟨p2, x, y, rfl, hq, ha, hb⟩ := hu
              obtain ⟨hf, oa, ob⟩ := okx
              have dm : 1 + max a.deep b.deep ≤ 8 := dpx
              have eq : decide (V.str f = V.str "with") = decide (f = "with") := by
                rw [decide_eq_decide]
                exact ⟨fun z => V.str.inj z, fun z => by rw [z]⟩
              have wm : 1 + a.wt + b.wt + (st.map Kd.wt).sum ≤ 100 := hm
              rw [any_with] at hany
              refine ⟨_, rfl, p2, _, _, _, rfl, rfl, SqT.of hq, at0, rfl, _, rfl, bb (fun c => ?_) (fun c => ?_)⟩
              · rw [eq] at c
                rw [c] at hany
                refine ⟨_, rfl, p2, _, _, _, rfl, rfl, SqT.of hq, at0, rfl, _, rfl, bt (by rw [plain_ne hf]; rfl) ?_⟩
                refine ⟨_, rfl, _, rfl, p2, _, _, _, rfl, rfl, SqT.of hq, at1, _, rfl, p2, _, _, _, rfl, rfl, SqT.of hq, at2, sz1 (by show 2 ≤ 1000000; decide), fun t nt => ?_⟩
                have l3 := same_new nt (.lst [x, y]) _ _ l2'
                refine ⟨l, t, _, _, rfl, rfl, l3, upd_same, sz1 (by rw [List.length_reverse]; show ys.length + 2 ≤ 1000000; omega), fun t2 nt2 => ?_⟩
                have eN := (ePop.trans (same_new nt (.lst [x, y])))
                have tp : Tps H3 (upd (upd H3 t (.lst [x, y])) t2 (.lst (ys.reverse ++ [x, y]))) := (Tps.new nt).trans (Tps.new nt2)
                refine ⟨_, ?_, t2, true, _, y :: x :: ys, b :: a :: st, rfl, ?_, rfl, eN.trans (same_new nt2 _), eN.free nt2, ?_, ⟨hb.mono tp, ha.mono tp, hst.mono fun _ _ h => KAt.mono tp h⟩, ?_, ?_⟩
                · rw [List.map_cons, List.sum_cons, List.map_cons, List.sum_cons, List.map_cons, List.sum_cons]
                  show _ < (1 + a.wt + b.wt) + _
                  omega
                · rw [List.map_cons, List.sum_cons, List.map_cons, List.sum_cons]
                  omega
                · rw [upd_same]
                  simp
                · rw [List.any_cons, List.any_cons]
                  rw [← hany]
                  cases fnd <;> rfl
                · intro z hz
                  rcases List.mem_cons.mp hz with rfl | hz
                  · exact ⟨ob, by omega⟩
                  · rcases List.mem_cons.mp hz with rfl | hz
                    · exact ⟨oa, by omega⟩
                    · exact hok' z hz
              · rw [eq] at c
                rw [c] at hany
                refine ⟨_, rfl, p2, _, _, _, rfl, rfl, SqT.of hq, at0, rfl, _, rfl, bt (by rw [plain_ne hf]; rfl) ?_⟩
                refine ⟨_, rfl, _, rfl, p2, _, _, _, rfl, rfl, SqT.of hq, at1, _, rfl, p2, _, _, _, rfl, rfl, SqT.of hq, at2, sz1 (by show 2 ≤ 1000000; decide), fun t nt => ?_⟩
                have l3 := same_new nt (.lst [x, y]) _ _ l2'
                refine ⟨l, t, _, _, rfl, rfl, l3, upd_same, sz1 (by rw [List.length_reverse]; show ys.length + 2 ≤ 1000000; omega), fun t2 nt2 => ?_⟩
                have eN := (ePop.trans (same_new nt (.lst [x, y])))
                have tp : Tps H3 (upd (upd H3 t (.lst [x, y])) t2 (.lst (ys.reverse ++ [x, y]))) := (Tps.new nt).trans (Tps.new nt2)
                refine ⟨_, ?_, t2, fnd, _, y :: x :: ys, b :: a :: st, rfl, ?_, rfl, eN.trans (same_new nt2 _), eN.free nt2, ?_, ⟨hb.mono tp, ha.mono tp, hst.mono fun _ _ h => KAt.mono tp h⟩, ?_, ?_⟩
                · rw [List.map_cons, List.sum_cons, List.map_cons, List.sum_cons, List.map_cons, List.sum_cons]
                  show _ < (1 + a.wt + b.wt) + _
                  omega
                · rw [List.map_cons, List.sum_cons, List.map_cons, List.sum_cons]
                  omega
                · rw [upd_same]
                  simp
                · rw [List.any_cons, List.any_cons]
                  rw [← hany]
                  cases fnd <;> cases a.single <;> cases b.single <;> rfl
                · intro z hz
                  rcases List.mem_cons.mp hz with rfl | hz
                  · exact ⟨ob, by omega⟩
                  · rcases List.mem_cons.mp hz with rfl | hz
                    · exact ⟨oa, by omega⟩
                    · exact hok' z hz
end
end K01

namespace K01
open PySem PySem.Spec PyProof.Rows L2 Ww
section
variable {P : Program} {w : World} {K : PySem.W.Frag} {mg : Str → Option Value} {base : Heap}
def spDues : Sp := fun vs H Q _ => ∃ (v : V) (k : Kd), vs = [v] ∧ KOk H v k ∧ ∀ l ss H', Same H H' → Srt k.letters ss → H' l = some (.lst [.str (Txt.join "" ss), .int (k.letters.length : Int), .int (k.deep : Int), .bl k.single]) → Q (.ref l) H'
theorem ok_dues (T : Txt w K mg) : FnOk P w K mg base CX0 (2) T.a_dues T.d_dues P_dues (spDues) := by
  refine T.F_dues.ok sc_dues (fun vs H Q E h => ?_) (fun cdv A outer s H vs Q E hr h => ⟨_, (pss_cons (ps_set (i := 1) sc_dues.nd rfl (Or.inl rfl) (pe_call (ok_places T) (hr.mono (by first | decide | omega)) rfl T.m_places T.F_places.kp T.B_places .nil pass0 (pa_cons (pv 0) pa_nil)))
    (pss_one (ps_ret (pe_lst (pa_cons (pe_join pe_str (pe_callB (cr_sortS rfl) rfl T.b_sorted (by decide +kernel) (pa_cons (pe_callTy (cr_setS rfl) (by rfl) T.b_set (by decide +kernel) (pa_cons (pe_lc (own := [("_law_row", 2)]) (g := gName 2) rfl sc_dues.nd (pi_list (pv 1)) (blkOk_by (N := N_dues) (own := [("_law_row", 2)]) (sc := defScope s_dues) (by decide +kernel)) (fun _ _ _ _ _ => (pg_name (i := 2) sc_dues.nd rfl (Or.inl rfl))) (fun _ _ _ _ _ => pts_nil) (fun _ _ _ _ _ => (pe_ix (show IxR _ (rIxT K) from ix_tup) (pv 2) pe_int (fun _ _ => rfl)))) pa_nil)) pa_nil))) (pa_cons (pe_callB call_len_seq rfl T.b_len PySem.boot_len (pa_cons (pv 1) pa_nil)) (pa_cons (pe_callB (cr_max rfl) rfl T.b_max (by decide +kernel) (pa_cons (pe_lc (own := [("_law_row", 2)]) (g := gName 2) rfl sc_dues.nd (pi_list (pv 1)) (blkOk_by (N := N_dues) (own := [("_law_row", 2)]) (sc := defScope s_dues) (by decide +kernel)) (fun _ _ _ _ _ => (pg_name (i := 2) sc_dues.nd rfl (Or.inl rfl))) (fun _ _ _ _ _ => pts_nil) (fun _ _ _ _ _ => (pe_ix (show IxR _ (rIxT K) from ix_tup) (pv 2) pe_int (fun _ _ => rfl)))) pa_nil)) (pa_cons (pe_not (pe_call (ok_has_with T) (hr.mono (by first | decide | omega)) rfl T.m_has_with T.F_has_with.kp T.B_has_with .nil pass0 (pa_cons (pv 0) pa_nil))) pa_nil)))))))), ?_⟩)
  · obtain ⟨v, k, rfl, _⟩ := h
    rfl
  · obtain ⟨v, k, rfl, ⟨hk, ok, hd, hz⟩, q⟩ := h
    refine ⟨_, rfl, v, k, rfl, ⟨hk, ok, hd, hz⟩, fun l rows H1 e1 h1 hr => ?_⟩
    have lrow := hr.len
    rw [k.places_len] at lrow
    have efst := k.places_fst 1
    have tk : ∀ {i : Nat} {y : Str × Int} {α : Type} (f : Str × Int → α), (k.places 1)[i]? = some y → ((k.places 1).take (i + 1)).map f = ((k.places 1).take i).map f ++ [f y] := fun {i y α} f hi => by
      rw [List.take_succ, hi, List.map_append]
      rfl
    refine ⟨⟨_, rfl⟩, _, rfl, l, rfl, ⟨rows, SqL.of h1⟩, fun D hD => ?_⟩
    refine lc_list (K := K) (xs := rows) (fun i H2 => Same H1 H2 ∧ H2 D = some (.lst (((k.places 1).take i).map fun x => V.str x.1))) ⟨same_new hD _, upd_same⟩ (fun i H2 hi ⟨e2, _⟩ => SqL.of (e2 _ _ h1)) ?_ ?_
    · rintro i x H2 hx ⟨e2, hy⟩
      obtain ⟨y, hy2, p, rfl, hp⟩ := hr.get hx
      refine ⟨rfl, lc_yes ⟨_, rfl, p, _, _, _, rfl, rfl, SqT.of (e2 _ _ hp), at0, _, hy, sz2 (by rw [List.length_map, List.length_take, k.places_len]; omega), same_mut e2 hD _, ?_⟩⟩
      rw [upd_same, tk _ hy2]
    · rintro H2 ⟨e2, hy⟩
      rw [List.take_of_length_le (by rw [k.places_len]; omega)] at hy
      have em : ((k.places 1).map fun x => V.str x.1) = k.letters.map V.str := by
        rw [← efst, List.map_map]
        rfl
      rw [em] at hy
      refine ⟨D, k.letters, rfl, SqL.of hy, by omega, fun p2 hp2 => ?_⟩
      have l2 := dedup_len k.letters []
      rw [List.length_nil] at l2
      refine ⟨p2, _, rfl, upd_same, by omega, fun ss p3 hs hp3 => ?_⟩
      have hs' := hs.of_dedup
      refine ⟨_, p3, ss, rfl, rfl, .inl (SqL.of upd_same), join_small hs' ok hz, ?_⟩
      have e4 := e1.trans (e2.trans ((same_new hp2 _).trans (same_new hp3 (.lst (ss.map V.str)))))
      have e14 := e2.trans ((same_new hp2 _).trans (same_new hp3 (.lst (ss.map V.str))))
      generalize upd (upd H2 p2 _) p3 (.lst (ss.map V.str)) = H4 at e4 e14
      have h4 := e14 _ _ h1
      refine ⟨_, rfl, l, _, rfl, .inl (SqL.of h4), ?_⟩
      refine ⟨_, rfl, l, rfl, ⟨rows, SqL.of h4⟩, fun D2 hD2 => ?_⟩
      refine lc_list (K := K) (xs := rows) (fun i H2 => Same H4 H2 ∧ H2 D2 = some (.lst (((k.places 1).take i).map fun x => V.int x.2))) ⟨same_new hD2 _, upd_same⟩ (fun i H2 hi ⟨e2, _⟩ => SqL.of (e2 _ _ h4)) ?_ ?_
      · rintro i x H5 hx ⟨e5, hy⟩
        obtain ⟨y, hy2, p, rfl, hp⟩ := hr.get hx
        refine ⟨rfl, lc_yes ⟨_, rfl, p, _, _, _, rfl, rfl, SqT.of (e5 _ _ (e14 _ _ hp)), at1, _, hy, sz2 (by rw [List.length_map, List.length_take, k.places_len]; omega), same_mut e5 hD2 _, ?_⟩⟩
        rw [upd_same, tk _ hy2]
      · rintro H5 ⟨e5, hy⟩
        rw [List.take_of_length_le (by rw [k.places_len]; omega)] at hy
        have em2 : ((k.places 1).map fun x => V.int x.2) = ((k.places 1).map (·.2)).map V.int := by
          rw [List.map_map]
          rfl
        rw [em2] at hy
        have kp := k.letters_pos
        refine ⟨D2, _, rfl, SqL.of hy, by rw [List.length_map, k.places_len]; omega, fun m hm1 hm2 => ?_⟩
        have em3 : m = (k.deep : Int) := by
          obtain ⟨x, hx, ex⟩ := List.mem_map.mp hm1
          have u1 := k.places_le 1 x hx
          obtain ⟨y, hy1, ey⟩ := k.places_max 1
          have u2 := hm2 _ (List.mem_map_of_mem hy1)
          omega
        subst em3
        have e05 := e4.trans e5
        refine ⟨_, rfl, v, k, rfl, ⟨hk.mono (.of e05), ok, hd, hz⟩, fun H6 e6 => ?_⟩
        have e06 := e05.trans e6
        refine ⟨_, rfl, sz1 (by show 4 ≤ 1000000; decide), fun r hr' => ?_⟩
        refine q r ss _ (e06.trans (same_new hr' _)) hs' ?_
        rw [upd_same, lrow, Bool.not_not]
end
end K01

namespace K01
open PySem PySem.Spec PyProof.Rows L2 Ww
section
variable {P : Program} {w : World} {K : PySem.W.Frag} {mg : Str → Option Value} {base : Heap}
def spLaw (K : PySem.W.Frag) : Sp := fun vs H Q _ => ∃ (a : Addr) (ns : List Int), vs = [.ref a] ∧ SqL K H a (ns.map V.int) ∧ ns.length ≤ 63 ∧ ∀ H', Q (.bl true) H'
/-- a list of n kinds in the bounds -/
def LKs (H : Hp) (l : Addr) (n : Nat) : Prop := ∃ (vs : List V) (ks : List Kd), H l = some (.lst vs) ∧ vs.length = n ∧ All2 (KAt H) vs ks ∧ ∀ k ∈ ks, k.ok ∧ k.deep ≤ 8 ∧ k.letters.length ≤ 40
theorem LKs.put {H H' : Hp} {l a : Addr} {n : Nat} {v : V} {k : Kd} {xs : List V} (h : LKs H l n) (na : l ≠ a) (b : But a H H') (ha : H a = some (.lst xs)) (ka : KAt H' v k) (ok : k.ok) (d : k.deep ≤ 8) (z : k.letters.length ≤ 40) :
    ∃ vs, H' l = some (.lst vs) ∧ vs.length = n ∧ LKs (upd H' l (.lst (vs ++ [v]))) l (n + 1) := by
  obtain ⟨vs, ks, h1, h2, h3, h4⟩ := h
  have h1' := b l _ na h1
  have tp : Tps H (upd H' l (.lst (vs ++ [v]))) := (b.tps ha).trans (Tps.lst h1')
  refine ⟨vs, h1', h2, vs ++ [v], ks ++ [k], upd_same, by rw [List.length_append, h2]; rfl, All2.snoc (ka.mono (Tps.lst h1')) (h3.mono fun _ _ h => h.mono tp), fun x hx => ?_⟩
  rcases List.mem_append.mp hx with m | m
  · exact h4 x m
  · rw [List.mem_singleton] at m
    subst m
    exact ⟨ok, d, z⟩
theorem LKs.but {H H' : Hp} {l a : Addr} {n : Nat} {xs : List V} (h : LKs H l n) (na : l ≠ a) (b : But a H H') (ha : H a = some (.lst xs)) : LKs H' l n := by
  obtain ⟨vs, ks, h1, h2, h3, h4⟩ := h
  exact ⟨vs, ks, b l _ na h1, h2, h3.mono fun _ _ h => h.mono (b.tps ha), h4⟩
theorem LKs.same {H H' : Hp} {l : Addr} {n : Nat} (h : LKs H l n) (b : Same H H') : LKs H' l n := by
  obtain ⟨vs, ks, h1, h2, h3, h4⟩ := h
  exact ⟨vs, ks, b l _ h1, h2, h3.mono fun _ _ h => h.mono (.of b), h4⟩
theorem gd4 {n : Nat} {s : Str} {a b : Int} {c : Bool} : Gd (n + 2) (.list [.str s, .int a, .int b, .bool c]) := by
  refine ⟨by show 4 ≤ 100000; decide, fun d hd => ?_⟩
  simp only [List.mem_cons, List.not_mem_nil, or_false] at hd
  rcases hd with rfl | rfl | rfl | rfl <;> exact trivial
theorem gd4' {n : Nat} {s : Str} {a b : Int} {c : Bool} : Gd (n + 2) (.list [.bool c, .int a, .int b, .str s]) := by
  refine ⟨by show 4 ≤ 100000; decide, fun d hd => ?_⟩
  simp only [List.mem_cons, List.not_mem_nil, or_false] at hd
  rcases hd with rfl | rfl | rfl | rfl <;> exact trivial
theorem ok_law (T : Txt w K mg) : FnOk P w K mg base CX0 (14) T.a_law T.d_law P_law (spLaw K) := by
  refine T.F_law.ok sc_law (fun vs H Q E h => ?_) (fun cdv A outer s H vs Q E hr h => ⟨_, (pss_cons (ps_set (i := 1) sc_law.nd rfl (Or.inl rfl) (pe_call (ok_begun T) (hr.mono (by first | decide | omega)) rfl T.m_begun T.F_begun.kp T.B_begun .nil pass0 (pa_cons (pv 0) pa_nil)))
    (pss_cons (ps_set (i := 2) sc_law.nd rfl (Or.inl rfl) (pe_lst pa_nil))
    (pss_cons (ps_for PassesOwn.never rfl (pi_range1 rfl T.b_range (pa_cons pe_int pa_nil)) (pg_name (i := 3) sc_law.nd rfl (Or.inl rfl))
    (pss_cons (ps_set (i := 4) sc_law.nd rfl (Or.inl rfl) (pe_call (ok_pool T) (hr.mono (by first | decide | omega)) rfl T.m_pool T.F_pool.kp T.B_pool .nil pass0 (pa_cons (pv 1) pa_nil)))
    (pss_cons (ps_set (i := 5) sc_law.nd rfl (Or.inl rfl) (pe_ix ix_list (pe_lst (pa_cons (pe_lst (pa_cons pe_str (pa_cons pe_str (pa_cons pe_str pa_nil)))) (pa_cons (pe_lst (pa_cons pe_str (pa_cons pe_str pa_nil))) (pa_cons (pe_lst (pa_cons pe_str pa_nil)) pa_nil)))) (pe_call (ok_pick T) (hr.mono (by first | decide | omega)) rfl T.m_pick T.F_pick.kp T.B_pick .nil pass0 (pa_cons (pv 1) (pa_cons pe_int pa_nil))) (fun _ _ => rfl)))
    (pss_one (ps_if (pt_cmpR op_eq (pv 3) pe_int (nomark _))
    (pss_one (ps_expr (pe_bm PySem.F.plainAttrs_list PySem.F.slot_list_append PySem.F.type_list_append mt_append (pv 2) (pa_cons (pe_tup (pa_cons pe_str (pa_cons (pe_item_str (pv 4) pe_int (fun _ _ => rfl)) pa_nil))) pa_nil))))
    (pss_one (ps_if (pt_cmpR op_eq (pv 3) pe_int (nomark _))
    (pss_one (ps_expr (pe_bm PySem.F.plainAttrs_list PySem.F.slot_list_append PySem.F.type_list_append mt_append (pv 2) (pa_cons (pe_call (ok_leaning T) (hr.mono (by first | decide | omega)) rfl T.m_leaning T.F_leaning.kp T.B_leaning .nil pass0 (pa_cons (pv 1) (pa_cons (pv 4) pa_nil))) pa_nil))))
    (pss_one (ps_if (pt_cmpR op_eq (pv 3) pe_int (nomark _))
    (pss_one (ps_expr (pe_bm PySem.F.plainAttrs_list PySem.F.slot_list_append PySem.F.type_list_append mt_append (pv 2) (pa_cons (pe_call (ok_full T) (hr.mono (by first | decide | omega)) rfl T.m_full T.F_full.kp T.B_full .nil pass0 (pa_cons (pv 4) pa_nil)) pa_nil))))
    (pss_one (ps_expr (pe_bm PySem.F.plainAttrs_list PySem.F.slot_list_append PySem.F.type_list_append mt_append (pv 2) (pa_cons (pe_call (ok_grown T 8) (hr.mono (by first | decide | omega)) rfl T.m_grown T.F_grown.kp T.B_grown .nil pass0 (pa_cons (pv 1) (pa_cons (pe_op op_add pe_int (pe_call (ok_pick T) (hr.mono (by first | decide | omega)) rfl T.m_pick T.F_pick.kp T.B_pick .nil pass0 (pa_cons (pv 1) (pa_cons pe_int pa_nil)))) (pa_cons (pe_op op_add pe_int (pe_call (ok_pick T) (hr.mono (by first | decide | omega)) rfl T.m_pick T.F_pick.kp T.B_pick .nil pass0 (pa_cons (pv 1) (pa_cons pe_int pa_nil)))) (pa_cons (pv 5) (pa_cons (pv 4) pa_nil)))))) pa_nil)))))))))))))
    (pss_cons (ps_set (i := 6) sc_law.nd rfl (Or.inl rfl) (pe_ix ix_list (pe_lst (pa_cons pe_int (pa_cons pe_int (pa_cons pe_int pa_nil)))) (pe_call (ok_pick T) (hr.mono (by first | decide | omega)) rfl T.m_pick T.F_pick.kp T.B_pick .nil pass0 (pa_cons (pv 1) (pa_cons pe_int pa_nil))) (fun _ _ => rfl)))
    (pss_cons (ps_for PassesOwn.never rfl (pi_range1 rfl T.b_range (pa_cons pe_int pa_nil)) (pg_name (i := 3) sc_law.nd rfl (Or.inl rfl))
    (pss_cons (ps_set (i := 7) sc_law.nd rfl (Or.inl rfl) (pe_ix ix_list (pv 2) (pe_op op_mod (pe_callTy call_int1 (by rfl) T.b_int (by decide +kernel) (pa_cons (pe_op op_mul (pv 3) (pe_ix ix_list (pe_lst (pa_cons pe_int (pa_cons (pv 6) pa_nil))) (pe_op op_fdivW (pv 3) pe_int) (fun _ _ => rfl))) pa_nil)) pe_int) (fun _ _ => rfl)))
    (pss_cons (ps_set (i := 8) sc_law.nd rfl (Or.inl rfl) (pe_call (ok_dues T) (hr.mono (by first | decide | omega)) rfl T.m_dues T.F_dues.kp T.B_dues .nil pass0 (pa_cons (pv 7) pa_nil)))
    (pss_cons (ps_set (i := 9) sc_law.nd rfl (Or.inl rfl) (pe_lst (pa_cons (pe_call (ok_letters T) (hr.mono (by first | decide | omega)) rfl T.m_letters T.F_letters.kp T.B_letters .nil pass0 (pa_cons (pv 7) pa_nil)) (pa_cons (pe_call (ok_size T) (hr.mono (by first | decide | omega)) rfl T.m_size T.F_size.kp T.B_size .nil pass0 (pa_cons (pv 7) pa_nil)) (pa_cons (pe_call (ok_depth T) (hr.mono (by first | decide | omega)) rfl T.m_depth T.F_depth.kp T.B_depth .nil pass0 (pa_cons (pv 7) pa_nil)) (pa_cons (pe_call (ok_is_single T) (hr.mono (by first | decide | omega)) rfl T.m_is_single T.F_is_single.kp T.B_is_single .nil pass0 (pa_cons (pv 7) pa_nil)) pa_nil))))))
    (pss_cons (ps_set (i := 10) sc_law.nd rfl (Or.inl rfl) (pe_lst (pa_cons (pe_callQ (ok_is_single T) (hr.mono (by first | decide | omega)) rfl T.m_is_single T.F_is_single.kp T.K_is_single pass0 (pk_cons (pv 7) pk_nil)) (pa_cons (pe_callQ (ok_depth T) (hr.mono (by first | decide | omega)) rfl T.m_depth T.F_depth.kp T.K_depth pass0 (pk_cons (pv 7) pk_nil)) (pa_cons (pe_callQ (ok_size T) (hr.mono (by first | decide | omega)) rfl T.m_size T.F_size.kp T.K_size pass0 (pk_cons (pv 7) pk_nil)) (pa_cons (pe_callQ (ok_letters T) (hr.mono (by first | decide | omega)) rfl T.m_letters T.F_letters.kp T.K_letters pass0 (pk_cons (pv 7) pk_nil)) pa_nil))))))
    (pss_one (ps_if (PW.pt (pw_or (pt_not (pt_val (pe_call (ok_alike T 8) (hr.mono (by first | decide | omega)) rfl T.m_alike T.F_alike.kp T.B_alike .nil pass0 (pa_cons (pv 9) (pa_cons (pv 8) pa_nil))))) (pw_or1 (pt_not (pt_val (pe_call (ok_alike T 8) (hr.mono (by first | decide | omega)) rfl T.m_alike T.F_alike.kp T.B_alike .nil pass0 (pa_cons (pv 10) (pa_cons (pe_revL (pv 8)) pa_nil))))))))
    (pss_one (ps_ret pe_bl))
    pss_nil)))))))
    (pss_one (ps_ret pe_bl))))))), ?_⟩)
  · obtain ⟨a, ns, rfl, _⟩ := h
    rfl
  · obtain ⟨s0, ns, rfl, hS, h63, q⟩ := h
    refine ⟨_, rfl, s0, ns, rfl, hS, h63, fun a g H0 e0 ha hg hs0 => ?_⟩
    refine ⟨sz1 (by show 0 ≤ 1000000; decide), fun l nl => ?_⟩
    have nla := (hs0.ne nl).1
    have c4 : 4 ≤ sizeLine := sz1 (by show 4 ≤ 1000000; decide)
    have c3 : 3 ≤ sizeLine := sz1 (by show 3 ≤ 1000000; decide)
    have c2 : 2 ≤ sizeLine := sz1 (by show 2 ≤ 1000000; decide)
    have c1 : 1 ≤ sizeLine := sz1 (by show 1 ≤ 1000000; decide)
    refine ⟨_, rfl, by decide, by decide, for_range (lo := 0) (n := 10) (fun i σ H' => ∃ (o3 o4 o5 : Option V), σ = [some (.ref s0), some (.ref a), some (.ref l), o3, o4, o5, none, none, none, none, none] ∧ SrcAt H' a g (i * 40) ∧ LKs H' l i) ⟨none, none, none, rfl, hs0.new nl, [], [], upd_same, rfl, trivial, fun _ z => nomatch z⟩ ?_ ?_⟩
    · rintro i σ H1 hi ⟨o3, o4, o5, rfl, s1, lk1⟩
      refine ⟨_, rfl, a, g, _, rfl, s1, by omega, fun t H2 b2 s2 ta t1 t7 => ?_⟩
      refine ⟨c3, fun q1 m1 => ⟨c2, fun q2 m2 => ⟨c1, fun q3 m3 => ⟨c3, fun q4 m4 => ?_⟩⟩⟩⟩
      have f1 := same_new m1 (.lst [.str "behind", .str "ahead", .str "with"])
      have f2 := f1.trans (same_new m2 (.lst [.str "behind", .str "ahead"]))
      have f3 := f2.trans (same_new m3 (.lst [.str "with"]))
      have f4 := f3.trans (same_new m4 (.lst [.ref q1, .ref q2, .ref q3]))
      have x1 := same_new m4 (.lst [.ref q1, .ref q2, .ref q3]) _ _ (same_new m3 (.lst [.str "with"]) _ _ (same_new m2 (.lst [.str "behind", .str "ahead"]) _ _ (upd_same (H := H2) (a := q1) (o := .lst [.str "behind", .str "ahead", .str "with"]))))
      have x2 := same_new m4 (.lst [.ref q1, .ref q2, .ref q3]) _ _ (same_new m3 (.lst [.str "with"]) _ _ (upd_same (H := upd H2 q1 (.lst [.str "behind", .str "ahead", .str "with"])) (a := q2) (o := .lst [.str "behind", .str "ahead"])))
      have x3 := same_new m4 (.lst [.ref q1, .ref q2, .ref q3]) _ _ (upd_same (H := upd (upd H2 q1 (.lst [.str "behind", .str "ahead", .str "with"])) q2 (.lst [.str "behind", .str "ahead"])) (a := q3) (o := .lst [.str "with"]))
      have x4 := upd_same (H := upd (upd (upd H2 q1 (.lst [.str "behind", .str "ahead", .str "with"])) q2 (.lst [.str "behind", .str "ahead"])) q3 (.lst [.str "with"])) (a := q4) (o := .lst [.ref q1, .ref q2, .ref q3])
      have y1 := (s2.ne m1).1
      have y2 := (s2.ne (f1.free m2)).1
      have y3 := (s2.ne (f2.free m3)).1
      have y4 := (s2.ne (f3.free m4)).1
      have s4 := s2.mono f4 (Nat.le_refl _)
      generalize upd (upd (upd (upd H2 q1 _) q2 _) q3 _) q4 _ = H4 at f4 x1 x2 x3 x4 s4
      refine ⟨_, rfl, a, g, 3, _, rfl, by decide, by decide, s4, by omega, fun r H5 r0 r1 b5 s5 => ?_⟩
      obtain ⟨v, hv, hm⟩ := atI_mem (xs := [V.ref q1, V.ref q2, V.ref q3]) r0 r1
      obtain ⟨qf, fs, rfl, nqf, hqf, hfs⟩ : ∃ (qf : Addr) (fs : List Str), v = .ref qf ∧ qf ≠ a ∧ H5 qf = some (.lst (fs.map V.str)) ∧ Forms fs := by
        simp only [List.mem_cons, List.not_mem_nil, or_false] at hm
        rcases hm with rfl | rfl | rfl
        · refine ⟨q1, ["behind", "ahead", "with"], rfl, y1, b5 _ _ y1 x1, by decide, by decide, fun f hf => ?_⟩
          simp only [List.mem_cons, List.not_mem_nil, or_false] at hf
          exact hf
        · refine ⟨q2, ["behind", "ahead"], rfl, y2, b5 _ _ y2 x2, by decide, by decide, fun f hf => ?_⟩
          simp only [List.mem_cons, List.not_mem_nil, or_false] at hf
          rcases hf with h | h
          · exact .inl h
          · exact .inr (.inl h)
        · refine ⟨q3, ["with"], rfl, y3, b5 _ _ y3 x3, by decide, by decide, fun f hf => ?_⟩
          simp only [List.mem_cons, List.not_mem_nil, or_false] at hf
          exact .inr (.inr hf)
      refine ⟨q4, _, _, _, rfl, rfl, SqL.of (b5 _ _ y4 x4), hv, ?_⟩
      obtain ⟨sx1, hsx1⟩ := s1.lst
      have b15 : But a H1 H5 := b2.trans ((But.of f4).trans b5)
      have lk5 := lk1.but nla b15 hsx1
      obtain ⟨sx5, hsx5⟩ := s5.lst
      obtain ⟨vs5, ks5, hl5, hn5, _⟩ := id lk5
      have pool : Pool t := ⟨ta, t1, by omega⟩
      refine ⟨_, rfl, rfl, _, rfl, bb (fun _ => ?_) (fun _ => ?_)⟩
      · obtain ⟨x, hx, lx⟩ := ta.at (r := 0) (by omega) (by omega)
        refine ⟨_, rfl, .inl ⟨rfl, _, SqL.of hl5⟩, _, rfl, _, _, x, rfl, rfl, by decide, by decide, by omega, hx, c2, fun p hp => ?_⟩
        obtain ⟨vs, g1, g2, g3⟩ := lk5.put (k := .pl ⟨#[x]⟩) (v := .ref p) nla (But.new (o := .tup [.str "plain", .str ⟨#[x]⟩]) hp) hsx5 ⟨p, rfl, upd_same⟩ lx (by show 1 ≤ 8; decide) (by show 1 ≤ 40; decide)
        exact ⟨l, vs, _, rfl, rfl, g1, sz2 (by omega), _, _, _, rfl, ((s5.new hp).upd ⟨nla, (hs0.ne nl).2⟩).le (by omega), g3⟩
      · refine ⟨_, rfl, rfl, _, rfl, bb (fun _ => ?_) (fun _ => ?_)⟩
        · refine ⟨_, rfl, .inl ⟨rfl, _, SqL.of hl5⟩, _, rfl, _, rfl, a, g, _, t, rfl, s5, by omega, pool, fun v k H6 b6 s6 ka ok dp sz => ?_⟩
          obtain ⟨vs, g1, g2, g3⟩ := lk5.put nla b6 hsx5 ka ok (by omega) (by omega)
          exact ⟨l, vs, _, rfl, rfl, g1, sz2 (by omega), _, _, _, rfl, (s6.upd ⟨nla, (hs0.ne nl).2⟩).le (by omega), g3⟩
        · refine ⟨_, rfl, rfl, _, rfl, bb (fun _ => ?_) (fun _ => ?_)⟩
          · refine ⟨_, rfl, .inl ⟨rfl, _, SqL.of hl5⟩, _, rfl, t, rfl, pool, fun v k H6 e6 ka ok dp sz => ?_⟩
            obtain ⟨vs, g1, g2, g3⟩ := lk5.put nla (But.of e6) hsx5 ka ok (by omega) (by omega)
            exact ⟨l, vs, _, rfl, rfl, g1, sz2 (by omega), _, _, _, rfl, ((s5.mono e6 (Nat.le_refl _)).upd ⟨nla, (hs0.ne nl).2⟩).le (by omega), g3⟩
          · refine ⟨_, rfl, .inl ⟨rfl, _, SqL.of hl5⟩, _, rfl, _, rfl, a, g, 7, _, rfl, by decide, by decide, s5, by omega, fun u1 H6 u10 u11 b6 s6 => ⟨_, _, rfl, rfl, ?_⟩⟩
            refine ⟨_, rfl, a, g, 5, _, rfl, by decide, by decide, s6, by omega, fun u2 H7 u20 u21 b7 s7 => ⟨_, _, rfl, rfl, ?_⟩⟩
            have b57 := b6.trans b7
            refine ⟨_, rfl, _, rfl, a, g, qf, _, _, fs, t, _, rfl, s7, by omega, nqf, b57 _ _ nqf hqf, hfs, pool, by omega, by omega, by omega, by omega, fun v k H8 b8 s8 ka ok dp sz => ?_⟩
            obtain ⟨vs, g1, g2, g3⟩ := lk5.put nla (b57.trans b8) hsx5 ka ok (by omega) (by omega)
            exact ⟨l, vs, _, rfl, rfl, g1, sz2 (by omega), _, _, _, rfl, (s8.upd ⟨nla, (hs0.ne nl).2⟩).le (by omega), g3⟩
    · rintro σ H1 ⟨o3, o4, o5, rfl, s1, lk1⟩
      obtain ⟨sx1, hsx1⟩ := s1.lst
      refine ⟨c3, fun qt nt => ⟨_, rfl, a, g, 3, _, rfl, by decide, by decide, s1.new nt, by omega, fun r H2 r0 r1 b2 s2 => ?_⟩⟩
      have hq2 := b2 _ _ (s1.ne nt).1 (upd_same (H := H1) (a := qt) (o := .lst [.int 3, .int 7, .int 9]))
      have lk2 := lk1.but nla ((But.new nt).trans b2) hsx1
      obtain ⟨v, hv, hm⟩ := atI_mem (xs := [V.int 3, V.int 7, V.int 9]) r0 r1
      obtain ⟨m, rfl, m0, m9⟩ : ∃ m : Int, v = .int m ∧ 0 ≤ m ∧ m ≤ 9 := by
        simp only [List.mem_cons, List.not_mem_nil, or_false] at hm
        rcases hm with rfl | rfl | rfl
        · exact ⟨_, rfl, by decide, by decide⟩
        · exact ⟨_, rfl, by decide, by decide⟩
        · exact ⟨_, rfl, by decide, by decide⟩
      refine ⟨qt, _, _, _, rfl, rfl, SqL.of hq2, hv, ?_⟩
      refine ⟨_, rfl, by decide, by decide, for_range (lo := 0) (n := 20) (fun i σ H' => ∃ (o3 o4 o5 o7 o8 o9 o10 : Option V), σ = [some (.ref s0), some (.ref a), some (.ref l), o3, o4, o5, some (.int m), o7, o8, o9, o10] ∧ LKs H' l 10) ⟨_, _, _, none, none, none, none, rfl, lk2⟩ ?_ ?_⟩
      · rintro i σ H3 hi ⟨o3, o4, o5, o7, o8, o9, o10, rfl, lk3⟩
        have d0 : (0 : Int) ≤ ((0 : Int) + (i : Int)) / 10 := by omega
        have d1 : ((0 : Int) + (i : Int)) / 10 < 2 := by omega
        obtain ⟨z, hz, hzm⟩ := atI_mem (xs := [V.int 1, V.int m]) d0 d1
        obtain ⟨f, rfl, f0, f9⟩ : ∃ f : Int, z = .int f ∧ 0 ≤ f ∧ f ≤ 9 := by
          simp only [List.mem_cons, List.not_mem_nil, or_false] at hzm
          rcases hzm with rfl | rfl
          · exact ⟨_, rfl, by decide, by decide⟩
          · exact ⟨_, rfl, m0, m9⟩
        have lk3' := lk3
        obtain ⟨vs, ks, hl3, hn3, hall, hok⟩ := lk3
        have w0 : (0 : Int) ≤ (((0 : Int) + (i : Int)) * f) % 10 := Int.emod_nonneg _ (by omega)
        have w1 : (((0 : Int) + (i : Int)) * f) % 10 < (vs.length : Int) := by
          rw [hn3]
          exact Int.emod_lt_of_pos _ (by omega)
        obtain ⟨v, hv1, hv2⟩ := atI_of w0 w1
        obtain ⟨k, hk1, hk2⟩ := hall.get hv2
        obtain ⟨ok, dp, sz⟩ := hok k (List.mem_of_getElem? hk1)
        refine ⟨_, rfl, _, rfl, _, rfl, c2, fun qz nz => ?_⟩
        have e4 := same_new nz (.lst [.int 1, .int m])
        have x4 := upd_same (H := H3) (a := qz) (o := .lst [.int 1, .int m])
        generalize upd H3 qz (.lst [.int 1, .int m]) = H4 at e4 x4
        refine ⟨_, rfl, _, _, rfl, rfl, wide_div (b := 20) (by decide) (by decide) (by decide) (by decide), qz, _, _, _, rfl, rfl, SqL.of x4, hz, _, _, rfl, rfl, .inl ⟨by omega, by omega⟩, .inl ⟨_, rfl, _, _, rfl, rfl, (show (0 : Int) < 10 by decide), l, _, _, _, rfl, rfl, SqL.of (e4 _ _ hl3), hv1, ?_⟩⟩
        have kk4 : KOk H4 v k := ⟨hk2.mono (.of e4), ok, dp, sz⟩
        have mv : ∀ {H H' : Hp}, Same H H' → KOk H v k → KOk H' v k := fun e h => ⟨h.1.mono (.of e), h.2⟩
        refine ⟨_, rfl, v, k, rfl, kk4, fun ld ss H5 e5 hs5 hd5 => ?_⟩
        have kk5 := mv e5 kk4
        refine ⟨_, rfl, v, k, rfl, kk5, fun ss6 H6 e6 hs6 => ?_⟩
        have es := hs6.eq hs5
        subst es
        have kk6 := mv e6 kk5
        refine ⟨_, rfl, v, k, rfl, kk6, fun H7 e7 => ?_⟩
        have kk7 := mv e7 kk6
        refine ⟨_, rfl, v, k, rfl, kk7, _, rfl, v, k, rfl, kk7, c4, fun lf nf => ?_⟩
        have e8 := same_new nf (.lst [.str (Txt.join "" ss6), .int (k.letters.length : Int), .int (k.deep : Int), .bl k.single])
        have x8 := upd_same (H := H7) (a := lf) (o := .lst [.str (Txt.join "" ss6), .int (k.letters.length : Int), .int (k.deep : Int), .bl k.single])
        generalize upd H7 lf _ = H8 at e8 x8
        have kk8 := mv e8 kk7
        refine ⟨_, rfl, rfl, v, k, rfl, kk8, _, rfl, rfl, v, k, rfl, kk8, _, rfl, rfl, v, k, rfl, kk8, fun H9 e9 => ?_⟩
        have kk9 := mv e9 kk8
        refine ⟨_, rfl, rfl, v, k, rfl, kk9, fun ss10 H10 e10 hs10 => ?_⟩
        have es := hs10.eq hs6
        subst es
        refine ⟨c4, fun la na => ?_⟩
        have e11 := same_new na (.lst [.bl k.single, .int (k.deep : Int), .int (k.letters.length : Int), .str (Txt.join "" ss10)])
        have x11 := upd_same (H := H10) (a := la) (o := .lst [.bl k.single, .int (k.deep : Int), .int (k.letters.length : Int), .str (Txt.join "" ss10)])
        generalize upd H10 la _ = H11 at e11 x11
        have e8b := e9.trans (e10.trans e11)
        have e5b := e6.trans (e7.trans (e8.trans e8b))
        have x5b := e5b _ _ hd5
        have x8b := e8b _ _ x8
        refine ⟨_, rfl, _, rfl, _, _, _, rfl, .lst (SqL.of x8b) (.cons (.str _) (.cons (.int _) (.cons (.int _) (.cons (.bl _) .nil)))), .lst (SqL.of x5b) (.cons (.str _) (.cons (.int _) (.cons (.int _) (.cons (.bl _) .nil)))), gd4, fun H12 e12 => ?_⟩
        refine ⟨_, rfl, bf rfl ⟨_, rfl, _, rfl, ld, _, rfl, SqL.of (e12 _ _ x5b), fun p hp => ?_⟩⟩
        refine ⟨_, _, _, rfl, .lst (SqL.of (same_new hp _ _ _ (e12 _ _ x11))) (.cons (.bl _) (.cons (.int _) (.cons (.int _) (.cons (.str _) .nil)))), .lst (SqL.of upd_same) (.cons (.bl _) (.cons (.int _) (.cons (.int _) (.cons (.str _) .nil)))), gd4', fun H13 e13 => ?_⟩
        refine ⟨_, rfl, bf rfl ?_⟩
        exact ⟨_, _, _, _, _, _, _, rfl, lk3'.same (e4.trans (e5.trans (e5b.trans (e12.trans ((same_new hp _).trans e13)))))⟩
      · rintro σ H3 ⟨o3, o4, o5, o7, o8, o9, o10, rfl, lk3⟩
        exact q H3
end
end K01

namespace K01
open PySem PySem.Spec PyProof.Rows L2 Ww
theorem all_mk {P : Program} {w : World} {K : PySem.W.Frag} {h : Heap} {mg : Str → Option Value} {fa : Addr} (X : K.In h) (G : h.Ns mainGlobals mg) (hfa : mg "law" = some (.ref fa))
    {od0 an0 : Option Addr} {sl0 : Array (Option Value)} {oc0 kV0 dc0 pm0 cd0 ct0 : Value} {f0 : Addr}
    (a0 : PySem.W.nsIn K mainGlobals "is_letter" = some (some (.ref f0))) (l0 : K.lookup f0 = some ⟨oc0, od0, .func (PySem.W.fnOf "is_letter" "is_letter" (defArgs s_is_letter) (defBody s_is_letter) (defScope s_is_letter) .none kV0 dc0 pm0 an0 cd0 ct0), sl0⟩) (c0 : PySem.W.codeIn K cd0 "is_letter" = true) (k0 : PySem.W.keepIn K (.ref f0) = true)
    {od1 an1 : Option Addr} {sl1 : Array (Option Value)} {oc1 kV1 dc1 pm1 cd1 ct1 : Value} {f1 : Addr}
    (a1 : PySem.W.nsIn K mainGlobals "wrong_part" = some (some (.ref f1))) (l1 : K.lookup f1 = some ⟨oc1, od1, .func (PySem.W.fnOf "wrong_part" "wrong_part" (defArgs s_wrong_part) (defBody s_wrong_part) (defScope s_wrong_part) .none kV1 dc1 pm1 an1 cd1 ct1), sl1⟩) (c1 : PySem.W.codeIn K cd1 "wrong_part" = true) (k1 : PySem.W.keepIn K (.ref f1) = true)
    {od2 an2 : Option Addr} {sl2 : Array (Option Value)} {oc2 kV2 dc2 pm2 cd2 ct2 : Value} {f2 : Addr}
    (a2 : PySem.W.nsIn K mainGlobals "checked_kind" = some (some (.ref f2))) (l2 : K.lookup f2 = some ⟨oc2, od2, .func (PySem.W.fnOf "checked_kind" "checked_kind" (defArgs s_checked_kind) (defBody s_checked_kind) (defScope s_checked_kind) .none kV2 dc2 pm2 an2 cd2 ct2), sl2⟩) (c2 : PySem.W.codeIn K cd2 "checked_kind" = true) (k2 : PySem.W.keepIn K (.ref f2) = true)
    {od3 an3 : Option Addr} {sl3 : Array (Option Value)} {oc3 kV3 dc3 pm3 cd3 ct3 : Value} {f3 : Addr}
    (a3 : PySem.W.nsIn K mainGlobals "single" = some (some (.ref f3))) (l3 : K.lookup f3 = some ⟨oc3, od3, .func (PySem.W.fnOf "single" "single" (defArgs s_single) (defBody s_single) (defScope s_single) .none kV3 dc3 pm3 an3 cd3 ct3), sl3⟩) (c3 : PySem.W.codeIn K cd3 "single" = true) (k3 : PySem.W.keepIn K (.ref f3) = true)
    {od4 an4 : Option Addr} {sl4 : Array (Option Value)} {oc4 kV4 dc4 pm4 cd4 ct4 : Value} {f4 : Addr}
    (a4 : PySem.W.nsIn K mainGlobals "letters_of" = some (some (.ref f4))) (l4 : K.lookup f4 = some ⟨oc4, od4, .func (PySem.W.fnOf "letters_of" "letters_of" (defArgs s_letters_of) (defBody s_letters_of) (defScope s_letters_of) .none kV4 dc4 pm4 an4 cd4 ct4), sl4⟩) (c4 : PySem.W.codeIn K cd4 "letters_of" = true) (k4 : PySem.W.keepIn K (.ref f4) = true)
    {od5 an5 : Option Addr} {sl5 : Array (Option Value)} {oc5 kV5 dc5 pm5 cd5 ct5 : Value} {f5 : Addr}
    (a5 : PySem.W.nsIn K mainGlobals "depth_of" = some (some (.ref f5))) (l5 : K.lookup f5 = some ⟨oc5, od5, .func (PySem.W.fnOf "depth_of" "depth_of" (defArgs s_depth_of) (defBody s_depth_of) (defScope s_depth_of) .none kV5 dc5 pm5 an5 cd5 ct5), sl5⟩) (c5 : PySem.W.codeIn K cd5 "depth_of" = true) (k5 : PySem.W.keepIn K (.ref f5) = true)
    {od6 an6 : Option Addr} {sl6 : Array (Option Value)} {oc6 kV6 dc6 pm6 cd6 ct6 : Value} {f6 : Addr}
    (a6 : PySem.W.nsIn K mainGlobals "letters" = some (some (.ref f6))) (l6 : K.lookup f6 = some ⟨oc6, od6, .func (PySem.W.fnOf "letters" "letters" (defArgs s_letters) (defBody s_letters) (defScope s_letters) .none kV6 dc6 pm6 an6 cd6 ct6), sl6⟩) (c6 : PySem.W.codeIn K cd6 "letters" = true) (k6 : PySem.W.keepIn K (.ref f6) = true)
    {od7 an7 : Option Addr} {sl7 : Array (Option Value)} {oc7 kV7 dc7 pm7 cd7 ct7 : Value} {f7 : Addr}
    (a7 : PySem.W.nsIn K mainGlobals "size" = some (some (.ref f7))) (l7 : K.lookup f7 = some ⟨oc7, od7, .func (PySem.W.fnOf "size" "size" (defArgs s_size) (defBody s_size) (defScope s_size) .none kV7 dc7 pm7 an7 cd7 ct7), sl7⟩) (c7 : PySem.W.codeIn K cd7 "size" = true) (k7 : PySem.W.keepIn K (.ref f7) = true)
    {od8 an8 : Option Addr} {sl8 : Array (Option Value)} {oc8 kV8 dc8 pm8 cd8 ct8 : Value} {f8 : Addr}
    (a8 : PySem.W.nsIn K mainGlobals "depth" = some (some (.ref f8))) (l8 : K.lookup f8 = some ⟨oc8, od8, .func (PySem.W.fnOf "depth" "depth" (defArgs s_depth) (defBody s_depth) (defScope s_depth) .none kV8 dc8 pm8 an8 cd8 ct8), sl8⟩) (c8 : PySem.W.codeIn K cd8 "depth" = true) (k8 : PySem.W.keepIn K (.ref f8) = true)
    {od9 an9 : Option Addr} {sl9 : Array (Option Value)} {oc9 kV9 dc9 pm9 cd9 ct9 : Value} {f9 : Addr}
    (a9 : PySem.W.nsIn K mainGlobals "is_single" = some (some (.ref f9))) (l9 : K.lookup f9 = some ⟨oc9, od9, .func (PySem.W.fnOf "is_single" "is_single" (defArgs s_is_single) (defBody s_is_single) (defScope s_is_single) .none kV9 dc9 pm9 an9 cd9 ct9), sl9⟩) (c9 : PySem.W.codeIn K cd9 "is_single" = true) (k9 : PySem.W.keepIn K (.ref f9) = true)
    {od10 an10 : Option Addr} {sl10 : Array (Option Value)} {oc10 kV10 dc10 pm10 cd10 ct10 : Value} {f10 : Addr}
    (a10 : PySem.W.nsIn K mainGlobals "_law_begun" = some (some (.ref f10))) (l10 : K.lookup f10 = some ⟨oc10, od10, .func (PySem.W.fnOf "_law_begun" "_law_begun" (defArgs s_begun) (defBody s_begun) (defScope s_begun) .none kV10 dc10 pm10 an10 cd10 ct10), sl10⟩) (c10 : PySem.W.codeIn K cd10 "_law_begun" = true) (k10 : PySem.W.keepIn K (.ref f10) = true)
    {od11 an11 : Option Addr} {sl11 : Array (Option Value)} {oc11 kV11 dc11 pm11 cd11 ct11 : Value} {f11 : Addr}
    (a11 : PySem.W.nsIn K mainGlobals "_law_pick" = some (some (.ref f11))) (l11 : K.lookup f11 = some ⟨oc11, od11, .func (PySem.W.fnOf "_law_pick" "_law_pick" (defArgs s_pick) (defBody s_pick) (defScope s_pick) .none kV11 dc11 pm11 an11 cd11 ct11), sl11⟩) (c11 : PySem.W.codeIn K cd11 "_law_pick" = true) (k11 : PySem.W.keepIn K (.ref f11) = true)
    {od12 an12 : Option Addr} {sl12 : Array (Option Value)} {oc12 kV12 dc12 pm12 cd12 ct12 : Value} {f12 : Addr}
    (a12 : PySem.W.nsIn K mainGlobals "_law_alike" = some (some (.ref f12))) (l12 : K.lookup f12 = some ⟨oc12, od12, .func (PySem.W.fnOf "_law_alike" "_law_alike" (defArgs s_alike) (defBody s_alike) (defScope s_alike) .none kV12 dc12 pm12 an12 cd12 ct12), sl12⟩) (c12 : PySem.W.codeIn K cd12 "_law_alike" = true) (k12 : PySem.W.keepIn K (.ref f12) = true)
    {od13 an13 : Option Addr} {sl13 : Array (Option Value)} {oc13 kV13 dc13 pm13 cd13 ct13 : Value} {f13 : Addr}
    (a13 : PySem.W.nsIn K mainGlobals "_law_pool" = some (some (.ref f13))) (l13 : K.lookup f13 = some ⟨oc13, od13, .func (PySem.W.fnOf "_law_pool" "_law_pool" (defArgs s_pool) (defBody s_pool) (defScope s_pool) .none kV13 dc13 pm13 an13 cd13 ct13), sl13⟩) (c13 : PySem.W.codeIn K cd13 "_law_pool" = true) (k13 : PySem.W.keepIn K (.ref f13) = true)
    {od14 an14 : Option Addr} {sl14 : Array (Option Value)} {oc14 kV14 dc14 pm14 cd14 ct14 : Value} {f14 : Addr}
    (a14 : PySem.W.nsIn K mainGlobals "_law_grown" = some (some (.ref f14))) (l14 : K.lookup f14 = some ⟨oc14, od14, .func (PySem.W.fnOf "_law_grown" "_law_grown" (defArgs s_grown) (defBody s_grown) (defScope s_grown) .none kV14 dc14 pm14 an14 cd14 ct14), sl14⟩) (c14 : PySem.W.codeIn K cd14 "_law_grown" = true) (k14 : PySem.W.keepIn K (.ref f14) = true)
    {od15 an15 : Option Addr} {sl15 : Array (Option Value)} {oc15 kV15 dc15 pm15 cd15 ct15 : Value} {f15 : Addr}
    (a15 : PySem.W.nsIn K mainGlobals "_law_places" = some (some (.ref f15))) (l15 : K.lookup f15 = some ⟨oc15, od15, .func (PySem.W.fnOf "_law_places" "_law_places" (defArgs s_places) (defBody s_places) (defScope s_places) .none kV15 dc15 pm15 an15 cd15 ct15), sl15⟩) (c15 : PySem.W.codeIn K cd15 "_law_places" = true) (k15 : PySem.W.keepIn K (.ref f15) = true)
    {od16 an16 : Option Addr} {sl16 : Array (Option Value)} {oc16 kV16 dc16 pm16 cd16 ct16 : Value} {f16 : Addr}
    (a16 : PySem.W.nsIn K mainGlobals "_law_leaning" = some (some (.ref f16))) (l16 : K.lookup f16 = some ⟨oc16, od16, .func (PySem.W.fnOf "_law_leaning" "_law_leaning" (defArgs s_leaning) (defBody s_leaning) (defScope s_leaning) .none kV16 dc16 pm16 an16 cd16 ct16), sl16⟩) (c16 : PySem.W.codeIn K cd16 "_law_leaning" = true) (k16 : PySem.W.keepIn K (.ref f16) = true)
    {od17 an17 : Option Addr} {sl17 : Array (Option Value)} {oc17 kV17 dc17 pm17 cd17 ct17 : Value} {f17 : Addr}
    (a17 : PySem.W.nsIn K mainGlobals "_law_full" = some (some (.ref f17))) (l17 : K.lookup f17 = some ⟨oc17, od17, .func (PySem.W.fnOf "_law_full" "_law_full" (defArgs s_full) (defBody s_full) (defScope s_full) .none kV17 dc17 pm17 an17 cd17 ct17), sl17⟩) (c17 : PySem.W.codeIn K cd17 "_law_full" = true) (k17 : PySem.W.keepIn K (.ref f17) = true)
    {od18 an18 : Option Addr} {sl18 : Array (Option Value)} {oc18 kV18 dc18 pm18 cd18 ct18 : Value} {f18 : Addr}
    (a18 : PySem.W.nsIn K mainGlobals "_law_has_with" = some (some (.ref f18))) (l18 : K.lookup f18 = some ⟨oc18, od18, .func (PySem.W.fnOf "_law_has_with" "_law_has_with" (defArgs s_has_with) (defBody s_has_with) (defScope s_has_with) .none kV18 dc18 pm18 an18 cd18 ct18), sl18⟩) (c18 : PySem.W.codeIn K cd18 "_law_has_with" = true) (k18 : PySem.W.keepIn K (.ref f18) = true)
    {od19 an19 : Option Addr} {sl19 : Array (Option Value)} {oc19 kV19 dc19 pm19 cd19 ct19 : Value} {f19 : Addr}
    (a19 : PySem.W.nsIn K mainGlobals "_law_dues" = some (some (.ref f19))) (l19 : K.lookup f19 = some ⟨oc19, od19, .func (PySem.W.fnOf "_law_dues" "_law_dues" (defArgs s_dues) (defBody s_dues) (defScope s_dues) .none kV19 dc19 pm19 an19 cd19 ct19), sl19⟩) (c19 : PySem.W.codeIn K cd19 "_law_dues" = true) (k19 : PySem.W.keepIn K (.ref f19) = true)
    {od20 an20 : Option Addr} {sl20 : Array (Option Value)} {oc20 kV20 dc20 pm20 cd20 ct20 : Value} {f20 : Addr}
    (a20 : PySem.W.nsIn K mainGlobals "law" = some (some (.ref f20))) (l20 : K.lookup f20 = some ⟨oc20, od20, .func (PySem.W.fnOf "law" "law" (defArgs s_law) (defBody s_law) (defScope s_law) .none kV20 dc20 pm20 an20 cd20 ct20), sl20⟩) (c20 : PySem.W.codeIn K cd20 "law" = true) (k20 : PySem.W.keepIn K (.ref f20) = true)
    (z_bool : PySem.W.nsIn K mainGlobals "bool" = some none)
    (z_int : PySem.W.nsIn K mainGlobals "int" = some none)
    (z_isinstance : PySem.W.nsIn K mainGlobals "isinstance" = some none)
    (z_len : PySem.W.nsIn K mainGlobals "len" = some none)
    (z_list : PySem.W.nsIn K mainGlobals "list" = some none)
    (z_max : PySem.W.nsIn K mainGlobals "max" = some none)
    (z_range : PySem.W.nsIn K mainGlobals "range" = some none)
    (z_set : PySem.W.nsIn K mainGlobals "set" = some none)
    (z_sorted : PySem.W.nsIn K mainGlobals "sorted" = some none)
    (z_str : PySem.W.nsIn K mainGlobals "str" = some none)
    (z_tuple : PySem.W.nsIn K mainGlobals "tuple" = some none)
    (z_zip : PySem.W.nsIn K mainGlobals "zip" = some none)
    {t_LETTERS : Tok} (g_LETTERS : PySem.W.nsIn K mainGlobals "LETTERS" = some (some (.str "abcdefghijklmnopqrstuvwxyz" t_LETTERS)))
    {o_TURNS : Addr} {e_TURNS : Array DictEntry} {n_TURNS : Nat} (g_TURNS : PySem.W.nsIn K mainGlobals "TURNS" = some (some (.ref o_TURNS))) (l_TURNS : K.lookup o_TURNS = some ⟨.type "dict", none, .dict e_TURNS n_TURNS, #[]⟩) (i_TURNS : PySem.W.KeysLit w.params e_TURNS.toList) (j_TURNS : (o_TURNS == sysModules) = false)
    {t0_TURNS : Tok} (v0_TURNS : PySem.W.nsIn K o_TURNS "behind" = some (some (.str "ahead" t0_TURNS)))
    {t1_TURNS : Tok} (v1_TURNS : PySem.W.nsIn K o_TURNS "ahead" = some (some (.str "behind" t1_TURNS)))
    {t2_TURNS : Tok} (v2_TURNS : PySem.W.nsIn K o_TURNS "with" = some (some (.str "with" t2_TURNS)))
    : ∃ fd : FuncData, (∀ (s : Shared) (v : Value), BindsTo s fd ⟨[v], []⟩ [("_law_script", v)]) ∧ ∀ base : Heap, K.In base → base.Ns mainGlobals mg → FnOk P w K mg base CX0 14 fa fd ["_law_script"] (spLaw K) := by
  have e := hfa.symm.trans (PySem.W.mg_of X G a20)
  cases e
  let T : Txt w K mg := {
    a_is_letter := f0, d_is_letter := _, F_is_letter := fun_mk (st := s_is_letter) l0 c0 k0, m_is_letter := PySem.W.mg_of X G a0, B_is_letter := (fun_mk (st := s_is_letter) l0 c0 k0).binds (ps := P_is_letter) (fun _ _ _ _ _ _ us hl => match us, hl with | [_], _ => rfl),
    a_wrong_part := f1, d_wrong_part := _, F_wrong_part := fun_mk (st := s_wrong_part) l1 c1 k1, m_wrong_part := PySem.W.mg_of X G a1, B_wrong_part := (fun_mk (st := s_wrong_part) l1 c1 k1).binds (ps := P_wrong_part) (fun _ _ _ _ _ _ us hl => match us, hl with | [_], _ => rfl),
    a_checked_kind := f2, d_checked_kind := _, F_checked_kind := fun_mk (st := s_checked_kind) l2 c2 k2, m_checked_kind := PySem.W.mg_of X G a2, B_checked_kind := (fun_mk (st := s_checked_kind) l2 c2 k2).binds (ps := P_checked_kind) (fun _ _ _ _ _ _ us hl => match us, hl with | [_], _ => rfl),
    a_single := f3, d_single := _, F_single := fun_mk (st := s_single) l3 c3 k3, m_single := PySem.W.mg_of X G a3, B_single := (fun_mk (st := s_single) l3 c3 k3).binds (ps := P_single) (fun _ _ _ _ _ _ us hl => match us, hl with | [_], _ => rfl),
    a_letters_of := f4, d_letters_of := _, F_letters_of := fun_mk (st := s_letters_of) l4 c4 k4, m_letters_of := PySem.W.mg_of X G a4, B_letters_of := (fun_mk (st := s_letters_of) l4 c4 k4).binds (ps := P_letters_of) (fun _ _ _ _ _ _ us hl => match us, hl with | [_], _ => rfl),
    a_depth_of := f5, d_depth_of := _, F_depth_of := fun_mk (st := s_depth_of) l5 c5 k5, m_depth_of := PySem.W.mg_of X G a5, B_depth_of := (fun_mk (st := s_depth_of) l5 c5 k5).binds (ps := P_depth_of) (fun _ _ _ _ _ _ us hl => match us, hl with | [_], _ => rfl),
    a_letters := f6, d_letters := _, F_letters := fun_mk (st := s_letters) l6 c6 k6, m_letters := PySem.W.mg_of X G a6, B_letters := (fun_mk (st := s_letters) l6 c6 k6).binds (ps := P_letters) (fun _ _ _ _ _ _ us hl => match us, hl with | [_], _ => rfl),
    K_letters := kb_one (fun_mk (st := s_letters) l6 c6 k6) fun _ _ _ _ _ _ _ => rfl,
    a_size := f7, d_size := _, F_size := fun_mk (st := s_size) l7 c7 k7, m_size := PySem.W.mg_of X G a7, B_size := (fun_mk (st := s_size) l7 c7 k7).binds (ps := P_size) (fun _ _ _ _ _ _ us hl => match us, hl with | [_], _ => rfl),
    K_size := kb_one (fun_mk (st := s_size) l7 c7 k7) fun _ _ _ _ _ _ _ => rfl,
    a_depth := f8, d_depth := _, F_depth := fun_mk (st := s_depth) l8 c8 k8, m_depth := PySem.W.mg_of X G a8, B_depth := (fun_mk (st := s_depth) l8 c8 k8).binds (ps := P_depth) (fun _ _ _ _ _ _ us hl => match us, hl with | [_], _ => rfl),
    K_depth := kb_one (fun_mk (st := s_depth) l8 c8 k8) fun _ _ _ _ _ _ _ => rfl,
    a_is_single := f9, d_is_single := _, F_is_single := fun_mk (st := s_is_single) l9 c9 k9, m_is_single := PySem.W.mg_of X G a9, B_is_single := (fun_mk (st := s_is_single) l9 c9 k9).binds (ps := P_is_single) (fun _ _ _ _ _ _ us hl => match us, hl with | [_], _ => rfl),
    K_is_single := kb_one (fun_mk (st := s_is_single) l9 c9 k9) fun _ _ _ _ _ _ _ => rfl,
    a_begun := f10, d_begun := _, F_begun := fun_mk (st := s_begun) l10 c10 k10, m_begun := PySem.W.mg_of X G a10, B_begun := (fun_mk (st := s_begun) l10 c10 k10).binds (ps := P_begun) (fun _ _ _ _ _ _ us hl => match us, hl with | [_], _ => rfl),
    a_pick := f11, d_pick := _, F_pick := fun_mk (st := s_pick) l11 c11 k11, m_pick := PySem.W.mg_of X G a11, B_pick := (fun_mk (st := s_pick) l11 c11 k11).binds (ps := P_pick) (fun _ _ _ _ _ _ us hl => match us, hl with | [_, _], _ => rfl),
    a_alike := f12, d_alike := _, F_alike := fun_mk (st := s_alike) l12 c12 k12, m_alike := PySem.W.mg_of X G a12, B_alike := (fun_mk (st := s_alike) l12 c12 k12).binds (ps := P_alike) (fun _ _ _ _ _ _ us hl => match us, hl with | [_, _], _ => rfl),
    a_pool := f13, d_pool := _, F_pool := fun_mk (st := s_pool) l13 c13 k13, m_pool := PySem.W.mg_of X G a13, B_pool := (fun_mk (st := s_pool) l13 c13 k13).binds (ps := P_pool) (fun _ _ _ _ _ _ us hl => match us, hl with | [_], _ => rfl),
    a_grown := f14, d_grown := _, F_grown := fun_mk (st := s_grown) l14 c14 k14, m_grown := PySem.W.mg_of X G a14, B_grown := (fun_mk (st := s_grown) l14 c14 k14).binds (ps := P_grown) (fun _ _ _ _ _ _ us hl => match us, hl with | [_, _, _, _, _], _ => rfl),
    a_places := f15, d_places := _, F_places := fun_mk (st := s_places) l15 c15 k15, m_places := PySem.W.mg_of X G a15, B_places := (fun_mk (st := s_places) l15 c15 k15).binds (ps := P_places) (fun _ _ _ _ _ _ us hl => match us, hl with | [_], _ => rfl),
    a_leaning := f16, d_leaning := _, F_leaning := fun_mk (st := s_leaning) l16 c16 k16, m_leaning := PySem.W.mg_of X G a16, B_leaning := (fun_mk (st := s_leaning) l16 c16 k16).binds (ps := P_leaning) (fun _ _ _ _ _ _ us hl => match us, hl with | [_, _], _ => rfl),
    a_full := f17, d_full := _, F_full := fun_mk (st := s_full) l17 c17 k17, m_full := PySem.W.mg_of X G a17, B_full := (fun_mk (st := s_full) l17 c17 k17).binds (ps := P_full) (fun _ _ _ _ _ _ us hl => match us, hl with | [_], _ => rfl),
    a_has_with := f18, d_has_with := _, F_has_with := fun_mk (st := s_has_with) l18 c18 k18, m_has_with := PySem.W.mg_of X G a18, B_has_with := (fun_mk (st := s_has_with) l18 c18 k18).binds (ps := P_has_with) (fun _ _ _ _ _ _ us hl => match us, hl with | [_], _ => rfl),
    a_dues := f19, d_dues := _, F_dues := fun_mk (st := s_dues) l19 c19 k19, m_dues := PySem.W.mg_of X G a19, B_dues := (fun_mk (st := s_dues) l19 c19 k19).binds (ps := P_dues) (fun _ _ _ _ _ _ us hl => match us, hl with | [_], _ => rfl),
    a_law := fa, d_law := _, F_law := fun_mk (st := s_law) l20 c20 k20, m_law := PySem.W.mg_of X G a20, B_law := (fun_mk (st := s_law) l20 c20 k20).binds (ps := P_law) (fun _ _ _ _ _ _ us hl => match us, hl with | [_], _ => rfl),
    b_bool := PySem.W.mg_none_of X G z_bool,
    b_int := PySem.W.mg_none_of X G z_int,
    b_isinstance := PySem.W.mg_none_of X G z_isinstance,
    b_len := PySem.W.mg_none_of X G z_len,
    b_list := PySem.W.mg_none_of X G z_list,
    b_max := PySem.W.mg_none_of X G z_max,
    b_range := PySem.W.mg_none_of X G z_range,
    b_set := PySem.W.mg_none_of X G z_set,
    b_sorted := PySem.W.mg_none_of X G z_sorted,
    b_str := PySem.W.mg_none_of X G z_str,
    b_tuple := PySem.W.mg_none_of X G z_tuple,
    b_zip := PySem.W.mg_none_of X G z_zip,
    t_LETTERS := t_LETTERS, g_LETTERS := PySem.W.mg_of X G g_LETTERS,
    o_TURNS := o_TURNS, e_TURNS := e_TURNS, n_TURNS := n_TURNS, g_TURNS := PySem.W.mg_of X G g_TURNS, D_TURNS := ⟨l_TURNS, i_TURNS, j_TURNS⟩,
    t0_TURNS := t0_TURNS, v0_TURNS := v0_TURNS,
    t1_TURNS := t1_TURNS, v1_TURNS := v1_TURNS,
    t2_TURNS := t2_TURNS, v2_TURNS := v2_TURNS }
  exact ⟨T.d_law, fun s v => .of_eq rfl, fun base _ _ => ok_law (P := P) (base := base) T⟩
end K01

open PySem PySem.W PyProof.Rows L2
set_option maxRecDepth 100000 in
set_option maxHeartbeats 0 in
theorem PySem.Challenge.cw_waitwords_k01_letters_size_depth_single_holds : PySem.Challenge.rw_waitwords_k01_letters_size_depth_single.Holds := by
  w_on; o_law; k_head; (case hw => w_witness2)
  k_fill
  refine L2.walk_ofK (l := PySem.Challenge.rw_waitwords_k01_letters_size_depth_single) (n := 63) (k := 14) (x := "_law_script") (CX := CX0) (sp := K01.spLaw) rfl (by decide) rfl ⟨rfl, by decide, by decide⟩ (fun w h Y => PySem.W.kIn_of Y) ?F (fun _ _ a ns hl _ hS => ⟨a, ns, rfl, hS, hl, fun _ => rfl⟩) fun _ _ _ _ z => z
  case F =>
    intro w mg fa h KX G hmg
    refine' K01.all_mk KX G hmg ?a0 ?l0 ?c0 ?k0 ?a1 ?l1 ?c1 ?k1 ?a2 ?l2 ?c2 ?k2 ?a3 ?l3 ?c3 ?k3 ?a4 ?l4 ?c4 ?k4 ?a5 ?l5 ?c5 ?k5 ?a6 ?l6 ?c6 ?k6 ?a7 ?l7 ?c7 ?k7 ?a8 ?l8 ?c8 ?k8 ?a9 ?l9 ?c9 ?k9 ?a10 ?l10 ?c10 ?k10 ?a11 ?l11 ?c11 ?k11 ?a12 ?l12 ?c12 ?k12 ?a13 ?l13 ?c13 ?k13 ?a14 ?l14 ?c14 ?k14 ?a15 ?l15 ?c15 ?k15 ?a16 ?l16 ?c16 ?k16 ?a17 ?l17 ?c17 ?k17 ?a18 ?l18 ?c18 ?k18 ?a19 ?l19 ?c19 ?k19 ?a20 ?l20 ?c20 ?k20 ?z_bool ?z_int ?z_isinstance ?z_len ?z_list ?z_max ?z_range ?z_set ?z_sorted ?z_str ?z_tuple ?z_zip ?g_LETTERS ?g_TURNS ?l_TURNS ?i_TURNS ?j_TURNS ?v0_TURNS ?v1_TURNS ?v2_TURNS
    (case a0 => k_is); (case l0 => k_is); (case c0 => k_is); (case k0 => k_is)
    (case a1 => k_is); (case l1 => k_is); (case c1 => k_is); (case k1 => k_is)
    (case a2 => k_is); (case l2 => k_is); (case c2 => k_is); (case k2 => k_is)
    (case a3 => k_is); (case l3 => k_is); (case c3 => k_is); (case k3 => k_is)
    (case a4 => k_is); (case l4 => k_is); (case c4 => k_is); (case k4 => k_is)
    (case a5 => k_is); (case l5 => k_is); (case c5 => k_is); (case k5 => k_is)
    (case a6 => k_is); (case l6 => k_is); (case c6 => k_is); (case k6 => k_is)
    (case a7 => k_is); (case l7 => k_is); (case c7 => k_is); (case k7 => k_is)
    (case a8 => k_is); (case l8 => k_is); (case c8 => k_is); (case k8 => k_is)
    (case a9 => k_is); (case l9 => k_is); (case c9 => k_is); (case k9 => k_is)
    (case a10 => k_is); (case l10 => k_is); (case c10 => k_is); (case k10 => k_is)
    (case a11 => k_is); (case l11 => k_is); (case c11 => k_is); (case k11 => k_is)
    (case a12 => k_is); (case l12 => k_is); (case c12 => k_is); (case k12 => k_is)
    (case a13 => k_is); (case l13 => k_is); (case c13 => k_is); (case k13 => k_is)
    (case a14 => k_is); (case l14 => k_is); (case c14 => k_is); (case k14 => k_is)
    (case a15 => k_is); (case l15 => k_is); (case c15 => k_is); (case k15 => k_is)
    (case a16 => k_is); (case l16 => k_is); (case c16 => k_is); (case k16 => k_is)
    (case a17 => k_is); (case l17 => k_is); (case c17 => k_is); (case k17 => k_is)
    (case a18 => k_is); (case l18 => k_is); (case c18 => k_is); (case k18 => k_is)
    (case a19 => k_is); (case l19 => k_is); (case c19 => k_is); (case k19 => k_is)
    (case a20 => k_is); (case l20 => k_is); (case c20 => k_is); (case k20 => k_is)
    (case z_bool => k_is); (case z_int => k_is); (case z_isinstance => k_is); (case z_len => k_is)
    (case z_list => k_is); (case z_max => k_is); (case z_range => k_is); (case z_set => k_is)
    (case z_sorted => k_is); (case z_str => k_is); (case z_tuple => k_is); (case z_zip => k_is)
    (case g_LETTERS => k_is); (case g_TURNS => k_is); (case l_TURNS => k_is); (case i_TURNS => exact ⟨⟨_, _, rfl, rfl⟩, ⟨_, _, rfl, rfl⟩, ⟨_, _, rfl, rfl⟩, trivial⟩)
    (case j_TURNS => decide +kernel); (case v0_TURNS => k_is); (case v1_TURNS => k_is); (case v2_TURNS => k_is)
