import PyProof.Rows.All
import Wide.All
import OpenK.AllK
import Wide.FinOn
import HandS.ForMost
import HandS.Wide
import HandS.IsInst
import HandS.Zip
import HandS.SetTxt0
import HandS.Strs
import HandS.Style
import HandS.Evl
import PyProof.Rows.SortStr
import PyProof.Rows.SetFrom
import HandS.SetFor
import KE.KxText
import HandS.Dict
import HandS.More
import HandS.DictTup
import HandS.SetKeys
import PySem.Challenge.RW_waitwords_k06_whole_puts
set_option Elab.async false
set_option linter.all false
set_option maxRecDepth 100000
set_option maxHeartbeats 4000000
namespace Ww
open PySem PySem.Spec PyProof.Rows L2

/-! ### calls by keywords alone -/
/-- how the keywords' values come to the parameters -/
structure KB0 (K : PySem.W.Frag) (fd : FuncData) (ps ks : List Str) (g : List Value → List Value) (gV : List V → List V) : Prop where
  to : ∀ (s : Shared) (ws : List Value), ws.length = ks.length → BindsTo s fd ⟨[], ks.zip ws⟩ (ps.zip (g ws))
  rel : ∀ {zs : List V} {ws : List Value}, Vals zs ws → Vals (gV zs) (g ws)
section
variable {X : Cx} {CX : CXT} {k : Nat} {f : Addr} {fd : FuncData} {ps ks : List Str} {sp : Sp} {E : XK} {x : Str} {p pos : Pos} {kws : List Keyword} {tk : TA} {g : List Value → List Value} {gV : List V → List V}
def tCallQ (n : Nat) (sp : Sp) (gV : List V → List V) (E : XK) (tk : TA) : TE := fun σ H Q => tk σ H fun zs H2 => zs.length = n ∧ sp (gV zs) H2 Q E
theorem pe_callQ (F : FnOk X.prog X.w X.K X.mg X.base CX k f fd ps sp) (hr : Room k X.A) (hg : Gl X x) (hm : X.mg x = some (.ref f)) (hk : PySem.W.keepIn X.K (.ref f) = true) (hb : KB0 X.K fd ps ks g gV) (hx : Passes CX X E)
    (hkw : PK X kws tk) (hall : (backToKw pos (keywordEach kws X.env)).all (·.1.isSome) = true := by rfl) (hks : (backToKw pos (keywordEach kws X.env)).filterMap (·.1) = ks := by rfl)
    (hdb : (x == ("__debug__" : Str)) = false := by decide)
    (hpl : ((backTo pos (starEach [] X.env)).any (·.1) || (backToKw pos (keywordEach kws X.env)).any (·.1.isNone)) = false := by rfl) :
    PE X (.Call (.Name x p) [] kws pos) (tCallQ ks.length sp gV E tk) := by
  refine ⟨fun pins s σ H Q I h => ?_⟩
  refine wpAny_Call_Name_kw (ld_glob I hg hm ?_ hdb)
  refine PySem.W.callWith_KW0 (h₀ := X.base) I.ok.mod.kin hk hall (thn (hkw.run pos pins s σ H _ I h) fun ws s2 ⟨zs, H2, I2, rz, hl, q2⟩ => ⟨I2.kIn, ?_⟩) hpl
  rw [hks]
  refine wpAny_call (codeAny_mono (F.run X.A X.stack s2 H2 ⟨[], ks.zip ws⟩ (g ws) (gV zs) Q E hr I2.env0 (hb.to s2 ws (rz.length.symm.trans hl)) (hb.rel rz) q2) fun r s' hq => ?_)
  match r, hq with
  | .error e, hq => exact hx pins σ H2 s2 e s' I2 hq
  | .ok (.ret u), hq => exact I2.after hq
  | .ok .next, hq => exact hq.elim
  | .ok .brk, hq => exact hq.elim
  | .ok .cont, hq => exact hq.elim
/-- one keyword, the def's one parameter -/
theorem kb_one {K : PySem.W.Frag} {x qual y : Str} {st : Stmt} {f : Addr} {fd : FuncData} (F : Fun K x qual st f fd)
    (h : ∀ (kV doc pm : Value) (an : Option Addr) (cdv ct u : Value), bindArgs (PySem.W.fnOf x qual (defArgs st) (defBody st) (defScope st) .none kV doc pm an cdv ct) ⟨[], [(y, u)]⟩ = pure [(y, u)]) :
    KB0 K fd [y] [y] (fun ws => ws) (fun zs => zs) := by
  obtain ⟨oc, od, kV, doc, pm, an, cdv, ct, osl, rfl, lk, hcd⟩ := F.ex
  refine ⟨fun s ws hl => ?_, fun r => r⟩
  match ws, hl with
  | [u], _ => exact .of_eq (h kV doc pm an cdv ct u)
end

/-! ### heaps -/
theorem same_new {H : Hp} {p : Addr} (h : H p = none) (o : HO) : Same H (upd H p o) := fun b u q => by
  rw [upd_ne (ne_of_none q h)]
  exact q
theorem Same.at {H H' : Hp} {a : Addr} {o : HO} (e : Same H H') (h : H a = some o) : H' a = some o := e a o h
/-- the tuples stand -/
def Tps (H H' : Hp) : Prop := ∀ b xs, H b = some (.tup xs) → H' b = some (.tup xs)
theorem Tps.refl (H : Hp) : Tps H H := fun _ _ h => h
theorem Tps.trans {H H1 H2 : Hp} (a : Tps H H1) (b : Tps H1 H2) : Tps H H2 := fun c o h => b c o (a c o h)
theorem Tps.of {H H' : Hp} (e : Same H H') : Tps H H' := fun b xs h => e b _ h
theorem Tps.lst {H : Hp} {a : Addr} {xs : List V} {o : HO} (h : H a = some (.lst xs)) : Tps H (upd H a o) := fun b ys q => by
  rw [upd_ne (ne_of q h (fun z => by cases z))]
  exact q
theorem Tps.new {H : Hp} {a : Addr} {o : HO} (h : H a = none) : Tps H (upd H a o) := .of (same_new h o)
/-- all but a stands -/
def But (a : Addr) (H H' : Hp) : Prop := ∀ b o, b ≠ a → H b = some o → H' b = some o
theorem But.refl (a : Addr) (H : Hp) : But a H H := fun _ _ _ h => h
theorem But.trans {a : Addr} {H H1 H2 : Hp} (x : But a H H1) (y : But a H1 H2) : But a H H2 := fun c o n h => y c o n (x c o n h)
theorem But.of {a : Addr} {H H' : Hp} (e : Same H H') : But a H H' := fun b o _ h => e b o h
theorem But.upd {a : Addr} {H : Hp} {o : HO} : But a H (upd H a o) := fun b u n h => by
  rw [upd_ne n]
  exact h
theorem But.new {a p : Addr} {H : Hp} {o : HO} (h : H p = none) : But a H (L2.upd H p o) := .of (same_new h o)
theorem But.tps {a : Addr} {H H' : Hp} {xs : List V} (e : But a H H') (h : H a = some (.lst xs)) : Tps H H' := fun b ys q => e b _ (ne_of q h (fun z => by cases z)) q
/-- what H does not know is not told of H' either, if H' is behind it: backwards -/
theorem free_of {H H' : Hp} (e : Same H H') {l : Addr} (h : H' l = none) : H l = none := e.free h

/-! ### kinds -/
inductive Kd where
  | pl (s : Str)
  | nd (f : Str) (a b : Kd)
def KAt (H : Hp) : V → Kd → Prop
  | v, .pl s => ∃ p, v = .ref p ∧ H p = some (.tup [.str "plain", .str s])
  | v, .nd f a b => ∃ p x y, v = .ref p ∧ H p = some (.tup [.str f, x, y]) ∧ KAt H x a ∧ KAt H y b
theorem KAt.mono {H H' : Hp} (e : Tps H H') : ∀ {k : Kd} {v : V}, KAt H v k → KAt H' v k
  | .pl _, _, ⟨p, q, h⟩ => ⟨p, q, e _ _ h⟩
  | .nd _ _ _, _, ⟨p, x, y, q, h, h1, h2⟩ => ⟨p, x, y, q, e _ _ h, KAt.mono e h1, KAt.mono e h2⟩
/-- a letter from a to z -/
def Let (s : Str) : Prop := ∃ c : Nat, s = ⟨#[c]⟩ ∧ 97 ≤ c ∧ c ≤ 122
def Form (f : Str) : Prop := f = "behind" ∨ f = "ahead" ∨ f = "with"
def Kd.ok : Kd → Prop
  | .pl s => Let s
  | .nd f a b => Form f ∧ a.ok ∧ b.ok
def Kd.deep : Kd → Nat
  | .pl _ => 1
  | .nd _ a b => 1 + max a.deep b.deep
def Kd.letters : Kd → List Str
  | .pl s => [s]
  | .nd _ a b => a.letters ++ b.letters
def Kd.single : Kd → Bool
  | .pl _ => true
  | .nd f a b => !decide (f = "with") && (a.single && b.single)
theorem Kd.deep_pos : ∀ k : Kd, 1 ≤ k.deep
  | .pl _ => Nat.le_refl 1
  | .nd _ a b => by show 1 ≤ 1 + max a.deep b.deep; omega
theorem Kd.letters_pos : ∀ k : Kd, 1 ≤ k.letters.length
  | .pl _ => Nat.le_refl 1
  | .nd _ a b => by
    show 1 ≤ (a.letters ++ b.letters).length
    have := Kd.letters_pos a
    rw [List.length_append]
    omega
/-- as data -/
def Kd.dat : Kd → PyData
  | .pl s => .tuple [.str "plain", .str s]
  | .nd f a b => .tuple [.str f, a.dat, b.dat]
theorem KAt.dp {K : PySem.W.Frag} {H : Hp} : ∀ {k : Kd} {v : V}, KAt H v k → Dp K H v k.dat
  | .pl _, _, ⟨p, q, h⟩ => by
    subst q
    exact .tup (SqT.of h) (.cons (.str _) (.cons (.str _) .nil))
  | .nd _ _ _, _, ⟨p, x, y, q, h, h1, h2⟩ => by
    subst q
    exact .tup (SqT.of h) (.cons (.str _) (.cons h1.dp (.cons h2.dp .nil)))

/-! ### data -/
mutual
theorem dp_same {K : PySem.W.Frag} {H H' : Hp} (e : Same H H') : ∀ {d : PyData} {v : V}, Dp K H v d → Dp K H' v d
  | .none, _, h => by
    cases h
    exact .non
  | .bool _, _, h => by
    cases h
    exact .bl _
  | .int _, _, h => by
    cases h
    exact .int _
  | .str _, _, h => by
    cases h
    exact .str _
  | .list _, _, h => by
    cases h with
    | lst hs ha => exact .lst (e.seq hs) (dps_same e ha)
  | .tuple _, _, h => by
    cases h with
    | tup hs ha => exact .tup (Evl.ex_t e hs) (dps_same e ha)
  | .dict _, _, h => by cases h
theorem dps_same {K : PySem.W.Frag} {H H' : Hp} (e : Same H H') : ∀ {ds : List PyData} {vs : List V}, DpAll K H vs ds → DpAll K H' vs ds
  | [], _, h => by
    cases h
    exact .nil
  | _ :: _, _, h => by
    cases h with
    | cons h1 h2 => exact .cons (dp_same e h1) (dps_same e h2)
end
end Ww

namespace Ww
open PySem PySem.Spec PyProof.Rows L2 PySem.Froz

/-! ### texts in strict order -/
/-- a is xs without doubles, ascending -/
structure Srt (xs a : List Str) : Prop where
  up : a.Pairwise fun x y => x.cps.toList < y.cps.toList
  mem : ∀ k, k ∈ a ↔ k ∈ xs
theorem str_ext {x y : Str} (h : x.cps.toList = y.cps.toList) : x = y := by
  cases x with
  | mk a =>
    cases y with
    | mk b =>
      have e : a = b := Array.ext' h
      rw [e]
theorem up_unique {α : Type} {R : α → α → Prop} (irr : ∀ x, ¬ R x x) (asy : ∀ x y, R x y → ¬ R y x) : ∀ {a b : List α}, a.Pairwise R → b.Pairwise R → (∀ k, k ∈ a ↔ k ∈ b) → a = b
  | [], [], _, _, _ => rfl
  | [], y :: b, _, _, m => absurd ((m y).2 List.mem_cons_self) (by simp)
  | x :: a, [], _, _, m => absurd ((m x).1 List.mem_cons_self) (by simp)
  | x :: a, y :: b, ha, hb, m => by
    obtain ⟨a1, a2⟩ := List.pairwise_cons.mp ha
    obtain ⟨b1, b2⟩ := List.pairwise_cons.mp hb
    have e : x = y := by
      rcases List.mem_cons.mp ((m x).1 List.mem_cons_self) with e | hx
      · exact e
      · rcases List.mem_cons.mp ((m y).2 List.mem_cons_self) with e | hy
        · exact e.symm
        · exact absurd (a1 y hy) (asy _ _ (b1 x hx))
    subst e
    congr 1
    refine up_unique irr asy a2 b2 fun k => ⟨fun hk => ?_, fun hk => ?_⟩
    · rcases List.mem_cons.mp ((m k).1 (List.mem_cons_of_mem _ hk)) with e | h
      · subst e
        exact absurd (a1 _ hk) (irr _)
      · exact h
    · rcases List.mem_cons.mp ((m k).2 (List.mem_cons_of_mem _ hk)) with e | h
      · subst e
        exact absurd (b1 _ hk) (irr _)
      · exact h
theorem lt_irr (x : List Nat) : ¬ x < x := List.lt_irrefl x
theorem Srt.eq {xs a b : List Str} (h : Srt xs a) (k : Srt xs b) : a = b :=
  up_unique (R := fun x y : Str => x.cps.toList < y.cps.toList) (fun x => lt_irr _) (fun x y h1 h2 => List.lt_asymm h1 h2) h.up k.up fun z => (h.mem z).trans (k.mem z).symm
theorem Srt.same {xs ys a : List Str} (h : Srt xs a) (e : ∀ k, k ∈ xs ↔ k ∈ ys) : Srt ys a := ⟨h.up, fun k => (h.mem k).trans (e k)⟩
theorem Srt.nodup {xs a : List Str} (h : Srt xs a) : a.Nodup := h.up.imp fun {x y} q e => by
  subst e
  exact lt_irr _ q
theorem rises {p : Str} : ∀ {l : List Str}, risingS p l = true → (p :: l).Pairwise fun x y => ¬ y.cps.toList < x.cps.toList
  | [], _ => List.pairwise_singleton _ _
  | x :: r, h => by
    unfold risingS at h
    rw [Bool.and_eq_true] at h
    have h1 : ¬ x.cps.toList < p.cps.toList := by
      have z := h.1
      rw [ltCps_eq] at z
      simpa using z
    have ih := rises h.2
    refine List.pairwise_cons.mpr ⟨fun y hy => ?_, ih⟩
    rcases List.mem_cons.mp hy with e | hy
    · subst e
      exact h1
    · have h2 := (List.pairwise_cons.mp ih).1 y hy
      exact List.not_lt.mpr (List.le_trans (List.not_lt.mp h1) (List.not_lt.mp h2))
theorem srt_of {xs a : List Str} (hs : sortedS a = true) (nd : a.Nodup) (m : ∀ k, k ∈ a ↔ k ∈ xs) : Srt xs a := by
  refine ⟨?_, m⟩
  have h : a.Pairwise fun x y => ¬ y.cps.toList < x.cps.toList := by
    cases a with
    | nil => exact List.Pairwise.nil
    | cons p l => exact rises hs
  refine (List.pairwise_iff_getElem.mpr fun i j hi hj hij => ?_)
  have h1 := List.pairwise_iff_getElem.mp h i j hi hj hij
  have h2 : a[i] ≠ a[j] := List.pairwise_iff_getElem.mp nd i j hi hj hij
  rcases Decidable.em (a[i].cps.toList < a[j].cps.toList) with z | z
  · exact z
  · exact absurd (str_ext (List.le_antisymm (List.not_lt.mp h1) (List.not_lt.mp z))) h2

/-! ### a set of texts -/
/-- the set at a holds the texts l (each once, in some order); it can be walked -/
def SetS (P : Program) (w : World) (h : Heap) (a : Addr) (l : List Str) : Prop :=
  ∃ D : SD, h.get? a = some (sObj "set" D) ∧ TxOk P w D l ∧ l.Nodup ∧ Ris D.2.2.place.toList ∧ (w.params.followText "set-order" = true ∨ D.2.2.led = true)
section
variable {P : Program} {w : World} {h h' : Heap} {a : Addr} {l : List Str}
theorem SetS.at (R : SetS P w h a l) (k : ∀ o, h.get? a = some o → h'.get? a = some o) : SetS P w h' a l := by
  obtain ⟨D, ho, r⟩ := R
  exact ⟨D, k _ ho, r⟩
theorem SetS.lt (R : SetS P w h a l) : a < h.objs.size := by
  obtain ⟨D, ho, _⟩ := R
  exact Heap.lt_size ho
theorem fresh_ris (led : Bool) : Ris (SetTable.fresh 0 0 led).place.toList := List.Pairwise.nil
theorem tail_ris {ep : Nat} {es : Array (Int × Value)} {t : SetTable} {d : Bool} (r : Ris t.place.toList) : Ris (tailTx ep es t d).2.2.place.toList := by
  unfold tailTx
  split
  · exact relayAll_ris _ _ _
  · exact r
theorem tail_led {ep : Nat} {es : Array (Int × Value)} {t : SetTable} {d : Bool} : (tailTx ep es t d).2.2.led = t.led := by
  unfold tailTx
  split
  · exact relayAll_led _ _ _
  · rfl
theorem off_ris {t : SetTable} (r : Ris t.place.toList) : Ris (if t.plain = true then { t with plain := false } else t).place.toList := by
  split <;> exact r
theorem off_led {t : SetTable} : (if t.plain = true then { t with plain := false } else t).led = t.led := by
  split <;> rfl
theorem add_ris {D : SD} {hs : Int} {v : Value} (r : Ris D.2.2.place.toList) : Ris (addTx hs v D).2.2.place.toList :=
  tail_ris (off_ris (layNew_ris D.2.2 D.1 hs v r))
theorem add_led {D : SD} {hs : Int} {v : Value} : (addTx hs v D).2.2.led = D.2.2.led :=
  tail_led.trans (off_led.trans (layNew_led D.2.2 D.1 hs v))
end
section
variable {P : Program} {w : World} {A : Around} {E : Value → Shared → Prop} {s : Shared} {a : Addr} {l : List Str}
/-- a text that the set holds, added once more -/
theorem add_old {D : SD} {k : Str} {u : Tok} {Q : Bool → Shared → Prop} (ho : s.heap.get? a = some (sObj "set" D)) (F : TxOk P w D l) (hk : k ∈ l) (hb : l.length < scanBound) (h : Q false s) :
    wpAny (model P w) A (setAddHashed a (.str k u) (hashStr w k)) Q E s := by
  obtain ⟨es, ep, t⟩ := D
  have hd : (sObj "set" (es, ep, t)).data = .set es ep t := rfl
  have hf : t.fits es.size = true := F.fit
  have hel : ElemsOf (strKind P w) es.toList := F.el
  have hb0 : es.size < scanBound := by
    have := F.sz
    simp only at this
    omega
  have hkey : (strKind P w).is k (.str k u) = true := is_str k u
  unfold setAddHashed setAddHashedIn
  refine wpAny_holding (wpAny_bind (wpAny_setState_of ho hd hf ?_))
  dsimp only
  rw [byScan_of rfl hb0 hel]
  simp only [↓reduceIte]
  unfold setAddByScan
  refine wpAny_bind (wpAny_bind (wpAny_rule (wpAny_bind (wpAny_setScan_of (knd := strKind P w) (k := k) hkey ho hd hf hel ?_))))
  cases hfi : List.findIdx? (fun e => (strKind P w).is k e.2) es.toList with
  | some j =>
    dsimp only
    exact wpAny_pure (wpAny_pure h)
  | none =>
    obtain ⟨e, he, q⟩ := (F.mem k).mp hk
    have c := List.findIdx?_eq_none_iff.mp hfi e he
    rw [q] at c
    cases c
theorem setS_add {k : Str} {u : Tok} {Q : Bool → Shared → Prop} (R : SetS P w s.heap a l) (hb : l.length + 1 < scanBound)
    (h : ∀ (h' : Heap) (b : Bool), Heap.SameBut a s.heap h' → SetS P w h' a (if k ∈ l then l else k :: l) → Q b { s with heap := h' }) :
    wpAny (model P w) A (setAddHashed a (.str k u) (hashStr w k)) Q E s := by
  obtain ⟨D, ho, F, nd, r, hl⟩ := R
  by_cases hk : k ∈ l
  · refine add_old ho F hk (by omega) ?_
    have q := h s.heap false (Heap.SameBut.refl a s.heap)
    rw [if_pos hk] at q
    exact q ⟨D, ho, F, nd, r, hl⟩
  · refine add_x ho F hk hb ?_
    have q := h _ true (Heap.SameBut.update s.heap a (fun _ => sObj "set" (addTx (hashStr w k) (.str k u) D)))
    rw [if_neg hk] at q
    exact q ⟨_, get_upd _ ho rfl, add_ok u F, List.nodup_cons.mpr ⟨hk, nd⟩, add_ris r, hl.imp id fun z => by rw [add_led]; exact z⟩
end
/-- what set(xs) holds -/
def dedup : List Str → List Str → List Str
  | l, [] => l
  | l, k :: r => dedup (if k ∈ l then l else k :: l) r
theorem mem_dedup : ∀ (xs l : List Str) (k : Str), k ∈ dedup l xs ↔ k ∈ l ∨ k ∈ xs
  | [], l, k => by simp [dedup]
  | x :: r, l, k => by
    unfold dedup
    rw [mem_dedup r]
    by_cases hx : x ∈ l
    · rw [if_pos hx, List.mem_cons]
      constructor
      · rintro (z | z)
        · exact .inl z
        · exact .inr (.inr z)
      · rintro (z | z | z)
        · exact .inl z
        · exact .inl (z ▸ hx)
        · exact .inr z
    · rw [if_neg hx, List.mem_cons, List.mem_cons]
      constructor
      · rintro ((z | z) | z)
        · exact .inr (.inl z)
        · exact .inl z
        · exact .inr (.inr z)
      · rintro (z | z | z)
        · exact .inl (.inr z)
        · exact .inl (.inl z)
        · exact .inr z
theorem dedup_len : ∀ (xs l : List Str), (dedup l xs).length ≤ l.length + xs.length
  | [], l => Nat.le_refl _
  | x :: r, l => by
    unfold dedup
    have h := dedup_len r (if x ∈ l then l else x :: l)
    have h2 : (if x ∈ l then l else x :: l).length ≤ l.length + 1 := by split <;> simp
    rw [List.length_cons]
    omega
theorem dedup_more (xs : List Str) : ∀ (l : List Str) (i : Nat) (x : Str), xs[i]? = some x → dedup l (xs.take (i + 1)) = (if x ∈ dedup l (xs.take i) then dedup l (xs.take i) else x :: dedup l (xs.take i)) := by
  induction xs with
  | nil => intro l i x h; simp at h
  | cons y r ih =>
    intro l i x h
    cases i with
    | zero =>
      have e : y = x := by simpa using h
      subst e
      rfl
    | succ i =>
      have h' : r[i]? = some x := by simpa using h
      show dedup (if y ∈ l then l else y :: l) (r.take (i + 1)) = _
      rw [ih _ i x h']
      rfl
end Ww

namespace Ww
open PySem PySem.Spec PyProof.Rows L2 PySem.Froz
theorem strs_ix : ∀ {us : List Value} {xs : List Str}, StrsAre us xs → ∀ (i : Nat) (v : Value), us[i]? = some v → ∃ k t, xs[i]? = some k ∧ v = .str k t
  | _, _, .nil, i, v, h => by simp at h
  | _, _, .cons y t _, 0, v, h => ⟨y, t, rfl, by simpa using h.symm⟩
  | _, _, .cons _ _ hr, i + 1, v, h => by
    obtain ⟨k, t, a, b⟩ := strs_ix hr i v (by simpa using h)
    exact ⟨k, t, by simpa using a, b⟩
theorem strs_len {us : List Value} {xs : List Str} (h : StrsAre us xs) : us.length = xs.length := by
  induction h with
  | nil => rfl
  | cons y t _ ih => rw [List.length_cons, List.length_cons, ih]
section
variable {P : Program} {w : World} {A : Around} {E : Value → Shared → Prop} {s : Shared}
theorem loop_strs {I : Addr} {fp wr : List Addr} {G : Array GenState → Array GenState → Prop} {n : Nat} {Pv : Nat → Value → Prop} {St : Nat → Shared → Prop} {R : Result → Shared → Prop}
    (W : WalksS P w A.in1 I fp wr G n Pv St) (S : Addr) (hf : S ∉ fp) (xs : List Str) (hn : n = xs.length) (hb : xs.length + 1 < scanBound)
    (hv : ∀ i v, Pv i v → ∃ k t, xs[i]? = some k ∧ v = .str k t) : ∀ (m i : Nat) (s : Shared), n - i = m → i ≤ n → St i s → SetS P w s.heap S (dedup [] (xs.take i)) →
      (∀ s', Moved (S :: wr) G s s' → SetS P w s'.heap S (dedup [] xs) → R (.ok (.ret .none)) s') →
      codeAny (model P w) A (.builtin "set.update.loop" ⟨[.ref S, .ref I], []⟩) R s := by
  have nw : S ∉ wr := fun z => hf (W.sub _ z)
  have up : ∀ b ∈ wr, b ∈ S :: wr := fun b z => List.mem_cons_of_mem _ z
  intro m
  induction m with
  | zero =>
    intro i s em hi st hS hR
    obtain rfl : i = n := by omega
    refine codeAny_builtin PyProof.Rows.F.entry_set_update_loop ?_
    rw [Around.under_plainId PyProof.Rows.F.plain_set_update_loop _]
    show wpAny _ A.in1 (pyNext (.ref I) >>= _) _ _ s
    refine wpAny_bind (W.done s _ _ st fun s' mv => ?_)
    show wpAny _ A.in1 (ret Value.none) _ _ s'
    rw [List.take_of_length_le (by omega)] at hS
    exact wpAny_pure (hR s' (mv.mono up) (hS.at fun o e => mv.heap S o nw e))
  | succ m ih =>
    intro i s em hi st hS hR
    have lt : i < n := by omega
    refine codeAny_builtin PyProof.Rows.F.entry_set_update_loop ?_
    rw [Around.under_plainId PyProof.Rows.F.plain_set_update_loop _]
    show wpAny _ A.in1 (pyNext (.ref I) >>= _) _ _ s
    refine wpAny_bind (W.item i s _ _ lt st fun v s1 hP st1 mv => ?_)
    obtain ⟨k, t, ek, rfl⟩ := hv i v hP
    have h1 : SetS P w s1.heap S (dedup [] (xs.take i)) := hS.at fun o e => mv.heap S o nw e
    have room : (dedup [] (xs.take i)).length + 1 < scanBound := by
      have q := dedup_len (xs.take i) []
      rw [List.length_take] at q
      simp only [List.length_nil] at q
      omega
    show wpAny _ A.in1 (holding [Value.str k t] (setAdd S (.str k t)) >>= _) _ _ s1
    refine wpAny_bind (wpAny_holding ?_)
    unfold setAdd
    refine wpAny_holding (wpAny_bind ((strKind P w).pyHash (k := k) (is_str k t) ?_))
    refine setS_add (s := { s1 with toks := s1.toks + 1 }) h1 room fun h' b sb h2 => ?_
    rw [← dedup_more xs [] i k ek] at h2
    refine wpAny_pure ⟨plainId_quiet PyProof.Rows.F.plain_set_update_loop _, ih (i + 1) _ (by omega) lt (W.frame _ s1 _ _ st1 (Nat.le_succ _) fun c hc o e => ?_) h2 fun s2 mv2 h3 => ?_⟩
    · exact (sb.2 c fun z => hf (z ▸ hc)).trans e
    · refine hR s2 (Moved.trans W.gtrans ((mv.mono up).then_heap (Nat.le_succ _) fun c o hc e => ?_) mv2) h3
      exact (sb.2 c fun z => hc (z ▸ List.mem_cons_self)).trans e
theorem setS_nil {h : Heap} {a : Addr} (ho : h.get? a = some { cls := .type "set", dict := none, data := .set #[] 0 (.fresh 0 0 (!w.params.followText "set-order")) }) : SetS P w h a [] :=
  ⟨(#[], 0, .fresh 0 0 (!w.params.followText "set-order")), ho, TxOk.nil rfl, List.nodup_nil, fresh_ris _, by
    cases w.params.followText "set-order"
    · exact .inr rfl
    · exact .inl rfl⟩
set_option maxHeartbeats 8000000 in
/-- set(a list of texts) -/
theorem call_set_strs {l : Addr} {items : Array Value} (xs : List Str) {Q : Value → Shared → Prop} (hh : A.handled = none) (hl : s.heap.IsList l items) (hit : StrsAre items.toList xs) (hb : xs.length + 1 < scanBound)
    (h : ∀ (h' : Heap) (tk : Nat), SetS P w h' s.heap.objs.size (dedup [] xs) → (∀ b o, s.heap.get? b = some o → h'.get? b = some o) → Q (.ref s.heap.objs.size) { s with heap := h', toks := tk }) :
    wpAny (model P w) A (call (.type "set") [.ref l]) Q E s := by
  have size : items.size = xs.length := by
    rw [← Array.length_toList]
    exact strs_len hit
  obtain ⟨c, tl, hmro⟩ := PySem.F.called_set.mro
  have hmade := PySem.F.called_set.made
  have hsub := PySem.F.called_set.sub
  refine wpAny_call (codeAny_of_tree ?_)
  show wpAny _ _ (callAny (.type "set") _) _ _ _
  refine wpAny_pure ⟨Code.quiet_builtin _ (by decide +kernel), codeAny_builtin PySem.F.entry_type_call ?_⟩
  rw [Around.under_plain (weight_type_call_type "set" [.ref l] []) rfl]
  have h1 := PySem.F.called_set.notType
  have h2 := PySem.F.called_set.canCreate
  have hct := PySem.F.typeCall_set_1 (.ref l)
  repeat (any_goals (first | assumption | wp_step))
  refine codeAny_mono (code_set_led1 (.ref l) (E := E) (Q₁ := fun obj s₁ => obj = .ref s.heap.objs.size ∧ s₁ = { s with heap := s.heap.push { cls := .type "set", dict := none, data := .set #[] 0 (.fresh 0 0 (!w.params.followText "set-order")) } }) ⟨rfl, rfl⟩) fun r s₁ hr => ?_
  match r, hr with
  | .error e, hr => exact hr
  | .ok .next, hr => exact hr.elim
  | .ok .brk, hr => exact hr.elim
  | .ok .cont, hr => exact hr.elim
  | .ok (.ret obj), hr =>
    obtain ⟨rfl, rfl⟩ := hr
    have hS : (s.heap.push { cls := .type "set", dict := none, data := .set #[] 0 (.fresh 0 0 (!w.params.followText "set-order")) }).get? s.heap.objs.size = some { cls := .type "set", dict := none, data := .set #[] 0 (.fresh 0 0 (!w.params.followText "set-order")) } := Heap.get?_push_size _ rfl
    have hT : Shared.TypeIs { s with heap := s.heap.push { cls := .type "set", dict := none, data := .set #[] 0 (.fresh 0 0 (!w.params.followText "set-order")) } } (.ref s.heap.objs.size) "set" := ⟨_, hS, rfl⟩
    have hli := PySem.F.called_set.init.lookup
    have hbi := PySem.F.called_set.init.bind (.ref s.heap.objs.size)
    repeat (any_goals (first | assumption | wp_step))
    refine codeAny_mono (codeAny_call_builtin (R := wants (fun r s₂ => r = .none ∧ ∃ h' tk, s₂ = { s with heap := h', toks := tk } ∧ SetS P w h' s.heap.objs.size (dedup [] xs) ∧
        (∀ b o, s.heap.get? b = some o → h'.get? b = some o)) E) PySem.F.called_set.init.plain PySem.F.entry_set_init (PySem.check_set_init_1 hT ?_)) fun r₂ s₂ hr₂ => ?_
    · obtain ⟨⟨ocls, odict, odata, oslots⟩, hol, hcl, nl, hdl⟩ := hl
      simp only at hcl hdl
      subst hcl
      subst hdl
      have hol' : (s.heap.push { cls := .type "set", dict := none, data := .set #[] 0 (.fresh 0 0 (!w.params.followText "set-order")) }).get? l = some { cls := .type "list", dict := odict, data := .seq items nl, slots := oslots } := Heap.get?_push_of_some _ hol
      have hsls := PySem.F.sub_list_set
      have hslf := PySem.F.sub_list_frozenset
      have hne : (Value.type "list" == Value.type "dict") = false := by decide
      have hl1 : (s.heap.push { cls := .type "set", dict := none, data := .set #[] 0 (.fresh 0 0 (!w.params.followText "set-order")) }).IsList l items := ⟨_, hol', rfl, nl, rfl⟩
      unfold Builtin.«set.__init__» noKeywords Builtin.Frozenset.updateFrom
      generalize hPI : pyIter = PI
      wp_walk
      subst hPI
      refine wpAny_pyIter_list hl1 ?_
      refine wpAny_bind (wpAny_runValue ?_)
      have lS : l < s.heap.objs.size := Heap.lt_size hol
      have hh3 : A.in1.in1.in1.handled = none := by simp [hh]
      have hz : (s.heap.push { cls := .type "set", dict := none, data := .set #[] 0 (.fresh 0 0 (!w.params.followText "set-order")) }).objs.size = s.heap.objs.size + 1 := Heap.size_push ..
      have nI : l ≠ (s.heap.push { cls := .type "set", dict := none, data := .set #[] 0 (.fresh 0 0 (!w.params.followText "set-order")) }).objs.size := by
        rw [hz]
        exact Nat.ne_of_lt (Nat.lt_succ_of_lt lS)
      have nf : s.heap.objs.size ∉ [(s.heap.push { cls := .type "set", dict := none, data := .set #[] 0 (.fresh 0 0 (!w.params.followText "set-order")) }).objs.size, l] := by
        rw [hz]
        simp only [List.mem_cons, List.not_mem_nil, or_false, not_or]
        exact ⟨Nat.ne_of_lt (Nat.lt_succ_self _), Nat.ne_of_gt lS⟩
      refine loop_strs ((Walks.list hh3 _ l nI items).toS) s.heap.objs.size nf xs size hb (fun i v q => strs_ix hit i v (by rw [Array.getElem?_toList]; exact q)) (items.size - 0) 0 _ (by omega) (Nat.zero_le _)
        ⟨⟨_, Heap.get?_push_size _ rfl, rfl, rfl⟩, (hl1.push _)⟩ (setS_nil (Heap.get?_push_of_some _ hS)) ?_
      intro s' mv h3
      obtain ⟨h', g2, d', tk', os'⟩ := s'
      have eg : g2 = s.gens := mv.gens
      have ed : d' = s.drawn := mv.drawn
      have eo : os' = s.os := mv.os
      subst eg ed eo
      show wpAny _ _ _ _ _ _
      refine wpAny_pure ?_
      show wpAny _ _ (ret Value.none) _ _ _
      refine wpAny_pure ⟨rfl, h', tk', rfl, h3, fun b o e => ?_⟩
      have b0 : b < s.heap.objs.size := Heap.lt_size e
      refine mv.heap b o ?_ (Heap.get?_push_of_some _ (Heap.get?_push_of_some _ e))
      simp only [List.mem_cons, List.not_mem_nil, or_false, not_or]
      refine ⟨Nat.ne_of_lt b0, ?_⟩
      rw [hz]
      exact Nat.ne_of_lt (Nat.lt_succ_of_lt b0)
    · match r₂, hr₂ with
      | .error e, hr₂ => exact hr₂
      | .ok .next, hr₂ => exact hr₂.elim
      | .ok .brk, hr₂ => exact hr₂.elim
      | .ok .cont, hr₂ => exact hr₂.elim
      | .ok (.ret r), hr₂ =>
        obtain ⟨rfl, h', tk, rfl, h3, hk⟩ := hr₂
        repeat (any_goals (first | assumption | wp_step))
        exact h _ _ h3 hk
end
end Ww

namespace Ww
open PySem PySem.Spec PyProof.Rows L2 PySem.Froz
theorem ne_mem {α : Type} {l : List α} {k x : α} (hk : k ∈ l) (n : x ∉ l) : k ≠ x := fun e => by
  subst e
  exact n hk
theorem nd_perm {α : Type} [DecidableEq α] : ∀ {l m : List α}, l.Nodup → (∀ k ∈ l, k ∈ m) → m.length ≤ l.length → l.Perm m
  | [], m, _, _, h => by
    have e : m = [] := List.length_eq_zero_iff.mp (Nat.le_zero.mp h)
    rw [e]
  | x :: l, m, nd, sub, h => by
    obtain ⟨n1, n2⟩ := List.nodup_cons.mp nd
    have hx := sub x List.mem_cons_self
    have pm := List.perm_cons_erase hx
    have le := List.length_erase_of_mem hx
    have ih : l.Perm (m.erase x) := nd_perm n2 (fun k hk => (List.mem_erase_of_ne (ne_mem hk n1)).mpr (sub k (List.mem_cons_of_mem _ hk))) (by
      rw [List.length_cons] at h
      omega)
    exact (ih.cons x).trans pm.symm
theorem nd_len {α : Type} [DecidableEq α] : ∀ {l m : List α}, l.Nodup → (∀ k ∈ l, k ∈ m) → l.length ≤ m.length
  | [], m, _, _ => Nat.zero_le _
  | x :: l, m, nd, sub => by
    obtain ⟨n1, n2⟩ := List.nodup_cons.mp nd
    have hx := sub x List.mem_cons_self
    have le := List.length_erase_of_mem hx
    have pos : 0 < m.length := List.length_pos_of_mem hx
    have ih := nd_len (m := m.erase x) n2 fun k hk => (List.mem_erase_of_ne (ne_mem hk n1)).mpr (sub k (List.mem_cons_of_mem _ hk))
    rw [List.length_cons]
    omega
section
variable {P : Program} {w : World} {A : Around} {E : Value → Shared → Prop} {s : Shared}
/-- an entry of such a set is a text -/
theorem ent_str {D : SD} {l : List Str} (F : TxOk P w D l) : ∀ v ∈ D.1.toList.map (·.2), ∃ x t, v = Value.str x t := fun v hv => by
  obtain ⟨e, he, rfl⟩ := List.mem_map.mp hv
  obtain ⟨⟨k, h1, _⟩, _⟩ := F.el e he
  obtain ⟨t, q⟩ := Value.isStrOf_shape (x := k) (v := e.2) h1
  exact ⟨k, t, q⟩
theorem ent_perm {D : SD} {l : List Str} (F : TxOk P w D l) (nd : l.Nodup) : ((D.1.toList.map (·.2)).map strOf).Perm l := by
  have mem : ∀ k : Str, k ∈ (D.1.toList.map (·.2)).map strOf ↔ k ∈ l := fun k => by
    rw [F.mem k, List.mem_map]
    constructor
    · rintro ⟨v, hv, q⟩
      obtain ⟨x, t, e⟩ := ent_str F v hv
      obtain ⟨en, hen, e2⟩ := List.mem_map.mp hv
      refine ⟨en, hen, ?_⟩
      rw [e2, e]
      have : x = k := by rw [← q, e]; rfl
      rw [← this]
      exact is_str x t
    · rintro ⟨en, hen, q⟩
      refine ⟨en.2, List.mem_map_of_mem hen, ?_⟩
      obtain ⟨t, e⟩ := Value.isStrOf_shape (x := k) (v := en.2) q
      rw [e]
      rfl
  have len : ((D.1.toList.map (·.2)).map strOf).length = l.length := by
    rw [List.length_map, List.length_map, Array.length_toList]
    exact F.sz
  exact (nd_perm nd (fun k hk => (mem k).2 hk) (Nat.le_of_eq len)).symm
theorem sorted_setS {a : Addr} {l : List Str} {Q : Value → Shared → Prop} (R : SetS P w s.heap a l) (hh : A.handled = none) (h64 : l.length < 64)
    (hQ : ∀ s' p (out : Array Value) (c : Nat) (ss : List Str), (∀ b o, s.heap.get? b = some o → s'.heap.get? b = some o) → s'.gens = s.gens → s'.os = s.os → s.heap.objs.size ≤ p →
      s'.heap.get? p = some (seqObj "list" out c) → StrsAre out.toList ss → Srt l ss → Q (.ref p) s') : wpAny (model P w) A (call (.builtin "sorted") [.ref a]) Q E s := by
  obtain ⟨D, ho, F, nd, r, hl⟩ := R
  have hsz : D.1.size = l.length := F.sz
  refine Calls.call_function_entry kind_sorted plain_sorted entry_sorted (args_sorted1 _) ?_
  unfold Builtin.«sorted»
  refine wpAny_bind (m := checkCount "sorted" 1 1 _) (wpAny_pure ?_)
  refine wpAny_bind (collect_set (A := A.in1) (t := D.2.2) (es := D.1) (ep := D.2.1) hh ⟨_, ho, rfl, rfl⟩ F.fit (by rw [hsz]; unfold scanBound; omega) r hl fun s1 vs k1 z1 g1 o1 pm => ?_)
  have lv : vs.length = l.length := by rw [pm.length_eq, List.length_map, Array.length_toList, hsz]
  have hI : StrsAre vs (vs.map strOf) := strsAre_map vs fun v hv => ent_str F v (pm.mem_iff.mp hv)
  have pl : (vs.map strOf).Perm l := (pm.map strOf).trans (ent_perm F nd)
  refine wpAny_bind (wpAny_newList ?_ (by rw [lv, sizeLine_eq]; omega))
  have hoL : (s1.heap.push (seqObj "list" vs.toArray 0)).get? s1.heap.objs.size = some (seqObj "list" vs.toArray 0) := Heap.get?_push_size _ rfl
  refine wpAny_bind (wpAny_holding (wpAny_call_entry slot_list_sort ⟨_, hoL, rfl⟩ entry_list_sort (list_sort_treeK strKind_oneLt hoL hI.keysOf (fun v₁ v₂ rest e => keyKind_strs (by rw [← e]; exact hI)) (by rw [lv]; exact h64) fun st' hp hs => ⟨_, rfl, ?_⟩) (args_list_sort _)))
  obtain ⟨ss, a1, a2, a3⟩ := sorted_out_str hI hp hs
  obtain ⟨c, hc⟩ := sortedHeap_at (vs := vs) (out := (arrOf st').map (·.2)) hoL
  have pn : ss.Perm l := a2.trans pl
  refine wpAny_pure ⟨_, rfl, hQ _ s1.heap.objs.size _ c ss (fun b u e => ?_) g1 o1 z1 hc a1 (srt_of a3 (pn.nodup_iff.mpr nd) fun k => pn.mem_iff)⟩
  have q := k1 b u e
  have lt := Heap.lt_size q
  show (sortedHeap (s1.heap.push (seqObj "list" vs.toArray 0)) s1.heap.objs.size vs _).get? b = some u
  rw [sortedHeap_old (Nat.ne_of_lt lt) (by rw [size_push']; exact Nat.lt_succ_of_lt lt)]
  exact Heap.get?_push_of_some _ q
end
/-! ### over the layer -/
def SetSO (P : Program) (w : World) (a : Addr) (l : List Str) : HO := .ext fun h => SetS P w h a l
theorem setSO_new {P : Program} {w : World} {H : Hp} {h : Heap} {a : Addr} {l : List Str} (R : SetS P w h a l) : ObjOk P w H h a (SetSO P w a l) := by
  have ⟨D, ho, _⟩ := R
  exact ⟨R, ⟨_, ho⟩, fun h1 h2 p k => SetS.at p k⟩
theorem strsAre_vals : ∀ {ys : List Str} {us : List Value}, Vals (ys.map V.str) us → StrsAre us ys
  | [], _, .nil => .nil
  | y :: ys, _, .cons ⟨t, e⟩ r => by
    subst e
    exact .cons y t (strsAre_vals r)
theorem vals_strsAre : ∀ {ys : List Str} {us : List Value}, StrsAre us ys → Vals (ys.map V.str) us
  | _, _, .nil => .nil
  | _, _, .cons y t r => .cons ⟨t, rfl⟩ (vals_strsAre r)
section
variable {X : Cx}
/-- set(a list of texts) -/
def rSetS (K : PySem.W.Frag) (P : Program) (w : World) : List V → Hp → VK → Prop := fun vs H Q => ∃ (l : Addr) (xs : List Str), vs = [.ref l] ∧ SqL K H l (xs.map V.str) ∧ xs.length ≤ 1000 ∧
  ∀ p, H p = none → Q (.ref p) (upd H p (SetSO P w p (dedup [] xs)))
theorem cr_setS (hc : X.calm = true) : CallR X (.type "set") (rSetS X.K X.prog X.w) := by
  intro pins s σ H vs us Q I r h
  obtain ⟨l, xs, rfl, hl, hz, q⟩ := h
  rw [Vals.ref1 r]
  obtain ⟨its, rv, pl, _⟩ := I.list hl
  have hn : H s.heap.objs.size = none := I.hok.fresh (Nat.le_refl _)
  refine call_set_strs (P := X.prog) (w := X.w) xs (I.ok.hd hc) pl.isList (by simpa using strsAre_vals rv) (by unfold scanBound; omega) fun h' tk R k => ?_
  exact ⟨.ref s.heap.objs.size, _, I.laid (t' := tk) k (Nat.le_refl _) (setSO_new R), rfl, q _ hn⟩
/-- sorted(such a set) -/
def rSortS (P : Program) (w : World) : List V → Hp → VK → Prop := fun vs H Q => ∃ (a : Addr) (l : List Str), vs = [.ref a] ∧ H a = some (SetSO P w a l) ∧ l.length < 64 ∧
  ∀ (ss : List Str) (p : Addr), Srt l ss → H p = none → Q (.ref p) (upd H p (.lst (ss.map V.str)))
theorem cr_sortS (hc : X.calm = true) : CallR X (.builtin "sorted") (rSortS X.prog X.w) := by
  intro pins s σ H vs us Q I r h
  obtain ⟨a, l, rfl, ha, h64, q⟩ := h
  have R : SetS X.prog X.w s.heap a l := (I.hok a _ ha).1
  rw [Vals.ref1 r]
  refine sorted_setS R (I.ok.hd hc) h64 fun s' p out c ss k g o hp hg hS hR => ?_
  have lss : ss.length ≤ l.length := nd_len hR.nodup fun k hk => (hR.mem k).1 hk
  have hlen : (ss.map V.str).length ≤ sizeLine := by rw [List.length_map, sizeLine_eq]; omega
  have hn : H p = none := I.hok.fresh hp
  have J : Inv X pins σ (upd H p (.lst (ss.map V.str))) { s with heap := s'.heap, gens := s'.gens, drawn := s'.drawn, toks := s'.toks } :=
    I.call (ch := []) (Un.laid k hp hn) (I.hok.laid k hp ⟨hlen, out.toList, c, vals_strsAre hS, hg⟩) (by rw [g]; exact I.bare) (fun _ z => nomatch z)
  have e : s' = { s with heap := s'.heap, gens := s'.gens, drawn := s'.drawn, toks := s'.toks } := by
    cases s'
    cases s
    cases o
    rfl
  rw [e]
  exact ⟨.ref p, _, J, rfl, q ss p hR hn⟩
/-- both in one: sorted(set(e)) -/
theorem Srt.of_dedup {xs ss : List Str} (h : Srt (dedup [] xs) ss) : Srt xs ss := h.same fun k => by
  rw [mem_dedup]
  simp
end
end Ww

namespace Ww
open PySem PySem.Spec PyProof.Rows L2
theorem hu64 {A : Around} {k : Nat} (hr : Room k A) : A.units + 64 < cLine := by
  have := hr.un
  omega
theorem fn_none {P : Program} {w : World} {K : PySem.W.Frag} {mg : Str → Option Value} {base : Heap} {CX : CXT} {k : Nat} {f : Addr} {fd : FuncData} {ps : List Str} {sp : Sp} (h : ∀ vs H Q E, sp vs H Q E → False) :
    FnOk P w K mg base CX k f fd ps sp :=
  ⟨fun vs H Q E q => (h vs H Q E q).elim, fun A outer s H args us vs Q E _ _ _ _ q => (h vs H Q E q).elim⟩
theorem sz1 {n : Nat} (h : n ≤ 1000000) : n ≤ sizeLine := Nat.le_trans h (by decide)
theorem sz2 {n : Nat} (h : n < 1000000) : n < sizeLine := Nat.lt_of_lt_of_le h (by decide)
theorem bt {A B : Prop} {c : Bool} (hc : c = true) (h : A) : if c = true then A else B := by
  rw [if_pos hc]
  exact h
theorem bf {A B : Prop} {c : Bool} (hc : c = false) (h : B) : if c = true then A else B := by
  rw [if_neg (by rw [hc]; exact Bool.false_ne_true)]
  exact h
theorem bb {A B : Prop} {c : Bool} (h1 : c = true → A) (h2 : c = false → B) : if c = true then A else B := by
  cases c with
  | true => exact h1 rfl
  | false => exact h2 rfl
/-! ### letters -/
def isLet (s : Str) : Bool := match s.cps.toList with
  | [c] => decide (97 ≤ c ∧ c ≤ 122)
  | _ => false
theorem abc_mem (c : Nat) : (c ∈ (Str.ofString "abcdefghijklmnopqrstuvwxyz").cps.toList) ↔ (97 ≤ c ∧ c ≤ 122) := by
  have e : (Str.ofString "abcdefghijklmnopqrstuvwxyz").cps.toList = List.range' 97 26 := by decide +kernel
  rw [e, List.mem_range'_1]
  omega
theorem str_one {s : Str} (h : s.length = 1) : ∃ c, s = ⟨#[c]⟩ := by
  obtain ⟨a⟩ := s
  obtain ⟨l⟩ := a
  match l, h with
  | [c], _ => exact ⟨c, rfl⟩
theorem isLet_iff {s : Str} : isLet s = true ↔ Let s := by
  constructor
  · intro h
    obtain ⟨⟨l⟩⟩ := s
    match l, h with
    | [c], h =>
      have h' : decide (97 ≤ c ∧ c ≤ 122) = true := h
      have := of_decide_eq_true h'
      exact ⟨c, rfl, this.1, this.2⟩
  · rintro ⟨c, rfl, h1, h2⟩
    exact decide_eq_true ⟨h1, h2⟩
theorem isLet_one (c : Nat) : isLet ⟨#[c]⟩ = decide (97 ≤ c ∧ c ≤ 122) := rfl
theorem isLet_many {s : Str} (h : s.length ≠ 1) : isLet s = false := by
  obtain ⟨⟨l⟩⟩ := s
  match l, h with
  | [], _ => rfl
  | [c], h => exact absurd rfl h
  | _ :: _ :: _, _ => rfl
theorem plain_ne : ∀ {f : Str}, Form f → decide (V.str f = V.str "plain") = false := by
  rintro f (rfl | rfl | rfl) <;> decide +kernel
/-! ### the heap at a tuple -/
theorem at0 {x : V} {r : List V} : atI (x :: r) 0 = some x := by
  have := atI_nat (xs := x :: r) (j := 0) (v := x) rfl
  exact this
theorem at1 {x y : V} {r : List V} : atI (x :: y :: r) 1 = some y := by
  have := atI_nat (xs := x :: y :: r) (j := 1) (v := y) rfl
  exact this
theorem at2 {x y z : V} {r : List V} : atI (x :: y :: z :: r) 2 = some z := by
  have := atI_nat (xs := x :: y :: z :: r) (j := 2) (v := z) rfl
  exact this
theorem at3 {x y z u : V} {r : List V} : atI (x :: y :: z :: u :: r) 3 = some u := by
  have := atI_nat (xs := x :: y :: z :: u :: r) (j := 3) (v := u) rfl
  exact this
theorem at4 {x y z u t : V} {r : List V} : atI (x :: y :: z :: u :: t :: r) 4 = some t := by
  have := atI_nat (xs := x :: y :: z :: u :: t :: r) (j := 4) (v := t) rfl
  exact this
theorem ati {ns : List Int} {i : Nat} (h : i < ns.length) : ∃ x : Int, atI (ns.map V.int) ((0 : Int) + (i : Int)) = some (.int x) ∧ ns[i]? = some x := by
  refine ⟨ns[i], ?_, List.getElem?_eq_getElem h⟩
  rw [Int.zero_add]
  refine atI_nat ?_
  rw [List.getElem?_map, List.getElem?_eq_getElem h]
  rfl
theorem same_mut {H H' : Hp} {p : Addr} (e : Same H H') (h : H p = none) (o : HO) : Same H (upd H' p o) := fun a u q => by
  rw [upd_ne (ne_of_none q h)]
  exact e a u q
theorem Let.len {s : Str} (h : Let s) : s.length = 1 := by
  obtain ⟨c, rfl, _⟩ := h
  rfl
theorem Let.small {s : Str} (h : Let s) : s.length ≤ 1000000 := by
  rw [h.len]
  decide
theorem Kd.let_of : ∀ {k : Kd}, k.ok → ∀ s ∈ k.letters, Let s
  | .pl t, h, s, hs => by
    have e : s = t := by simpa [Kd.letters] using hs
    rw [e]
    exact h
  | .nd f a b, ⟨_, h1, h2⟩, s, hs => by
    rcases List.mem_append.mp (show s ∈ a.letters ++ b.letters from hs) with z | z
    · exact Kd.let_of h1 s z
    · exact Kd.let_of h2 s z
theorem sum_one : ∀ {l : List Str}, (∀ s ∈ l, s.length = 1) → (l.map (·.length)).sum = l.length
  | [], _ => rfl
  | x :: l, h => by
    rw [List.map_cons, List.sum_cons, h x List.mem_cons_self, sum_one fun s hs => h s (List.mem_cons_of_mem _ hs), List.length_cons]
    omega
theorem join_small {k : Kd} {ss : List Str} (h : Srt k.letters ss) (ok : k.ok) {n : Nat} (hz : k.letters.length ≤ n) (hn : n ≤ 1000 := by decide) : (ss.map (·.length)).sum + ss.length * (Str.ofString "").length ≤ 16777216 := by
  have e : (Str.ofString "").length = 0 := by decide +kernel
  have l1 : ss.length ≤ k.letters.length := nd_len h.nodup fun x hx => (h.mem x).1 hx
  rw [e, sum_one fun s hs => (k.let_of ok s ((h.mem s).1 hs)).len]
  omega
end Ww

namespace Ww
open PySem PySem.Spec PyProof.Rows L2
/-! ### types of data -/
theorem tyL {K : PySem.W.Frag} {H : Hp} {a : Addr} {xs : List V} (h : SqL K H a xs) : TyX K H (.ref a) (.type "list") := by
  rcases h with (h | ⟨o, h⟩) | ⟨o, its, n, hk, hc, _⟩
  · exact .base (.lst h)
  · exact .base (.frz h)
  · exact .kList hk hc
theorem tyT {K : PySem.W.Frag} {H : Hp} {a : Addr} {xs : List V} (h : SqT K H a xs) : TyX K H (.ref a) (.type "tuple") := by
  rcases h with (h | ⟨o, h⟩) | ⟨o, its, n, hk, hc, _⟩
  · exact .base (.tup h)
  · exact .fTuple h
  · exact .kTuple hk hc
/-- data of nesting below n, its lists short -/
def Gd : Nat → PyData → Prop
  | 0, _ => False
  | _ + 1, .none => True
  | _ + 1, .bool _ => True
  | _ + 1, .int _ => True
  | _ + 1, .str _ => True
  | n + 1, .list ds => ds.length ≤ 100000 ∧ ∀ d ∈ ds, Gd n d
  | n + 1, .tuple ds => ds.length ≤ 100000 ∧ ∀ d ∈ ds, Gd n d
  | _ + 1, .dict _ => False
theorem Gd.mono : ∀ {n m : Nat} {d : PyData}, Gd n d → n ≤ m → Gd m d
  | 0, _, _, h, _ => h.elim
  | n + 1, 0, _, _, l => absurd l (by omega)
  | n + 1, m + 1, .none, h, l => trivial
  | n + 1, m + 1, .bool _, h, l => trivial
  | n + 1, m + 1, .int _, h, l => trivial
  | n + 1, m + 1, .str _, h, l => trivial
  | n + 1, m + 1, .list ds, ⟨h1, h2⟩, l => ⟨h1, fun d hd => (h2 d hd).mono (by omega)⟩
  | n + 1, m + 1, .tuple ds, ⟨h1, h2⟩, l => ⟨h1, fun d hd => (h2 d hd).mono (by omega)⟩
  | n + 1, m + 1, .dict _, h, l => h
theorem dps_len {K : PySem.W.Frag} {H : Hp} : ∀ {ds : List PyData} {vs : List V}, DpAll K H vs ds → vs.length = ds.length
  | [], _, h => by
    cases h
    rfl
  | d :: ds, _, h => by
    cases h with
    | cons _ h2 => rw [List.length_cons, List.length_cons, dps_len h2]
theorem dps_at {K : PySem.W.Frag} {H : Hp} : ∀ {ds : List PyData} {vs : List V} {i : Nat} {v : V}, DpAll K H vs ds → vs[i]? = some v → ∃ d, ds[i]? = some d ∧ Dp K H v d
  | [], _, i, v, h, e => by
    cases h
    simp at e
  | d :: ds, _, 0, v, h, e => by
    cases h with
    | cons h1 _ =>
      have e' := Option.some.inj (show some _ = some v by simpa using e)
      rw [← e']
      exact ⟨d, rfl, h1⟩
  | d :: ds, _, i + 1, v, h, e => by
    cases h with
    | cons _ h2 =>
      obtain ⟨d', a, b⟩ := dps_at h2 (by simpa using e)
      exact ⟨d', by simpa using a, b⟩
theorem Gd.kd : ∀ {k : Kd}, Gd (k.deep + 1) k.dat
  | .pl s => ⟨(show 2 ≤ 100000 by decide), fun d hd => by
    have : d = .str "plain" ∨ d = .str s := by simpa using hd
    rcases this with rfl | rfl <;> trivial⟩
  | .nd f a b => ⟨(show 3 ≤ 100000 by decide), fun d hd => by
    have : d = .str f ∨ d = a.dat ∨ d = b.dat := by simpa using hd
    show Gd (1 + max a.deep b.deep) d
    rcases this with rfl | rfl | rfl
    · exact Gd.mono (n := 1) trivial (by omega)
    · exact Gd.kd.mono (by omega)
    · exact Gd.kd.mono (by omega)⟩
/-! ### answers of isinstance -/
section
variable {K : PySem.W.Frag} {H : Hp}
theorem kLT {t : String} {b c : Bool} (h1 : kitB t "list" = some b) (h2 : kitB t "tuple" = some c) : PySem.W.kitAny K (.type t) [.type "list", .type "tuple"] = some (b || c) := by
  refine kitAny_cons (kit_ty h1) (fun hb => ?_) (fun hb => by rw [hb]; rfl)
  rw [hb]
  refine kitAny_cons (kit_ty h2) (fun hc => by rw [hc]; rfl) (fun hc => by rw [hc]; rfl)
theorem kLT0 {t : String} (h1 : kitB t "list" = some false) (h2 : kitB t "tuple" = some false) : PySem.W.kitAny K (.type t) [.type "list", .type "tuple"] = some false := kLT h1 h2
theorem clsLT : Paired ClsV [V.ty "list", V.ty "tuple"] [Value.type "list", Value.type "tuple"] := .cons (.ty _) (.cons (.ty _) .nil)
end
end Ww

namespace Ww
open PySem PySem.Spec PyProof.Rows L2
theorem empty_cps : (Str.ofString "").cps.toList = [] := by decide +kernel
theorem join_cps : ∀ ys : List Str, (Txt.join (Str.ofString "") ys).cps.toList = ys.flatMap fun y => y.cps.toList := by
  have go : ∀ ys : List Str, (Str.join (Str.ofString "") ys).cps.toList = ys.flatMap fun y => y.cps.toList := by
    intro ys
    induction ys with
    | nil => rfl
    | cons x r ih =>
      cases r with
      | nil =>
        show x.cps.toList = _
        simp
      | cons y r =>
        show (x ++ Str.ofString "" ++ Str.join (Str.ofString "") (y :: r)).cps.toList = _
        rw [PySem.W.KT.app_list, PySem.W.KT.app_list, empty_cps, List.append_nil, ih]
        rfl
  intro ys
  show (Builtin.Str.glued _ _).cps.toList = _
  rw [StrLaws.glued_eq_join]
  exact go ys
/-- a text of letters -/
def AllLet (t : Str) : Prop := ∀ c ∈ t.cps.toList, 97 ≤ c ∧ c ≤ 122
theorem len_cps (t : Str) : t.length = t.cps.toList.length := (Array.length_toList).symm
theorem AllLet.at {t : Str} (h : AllLet t) {r : Int} (r0 : 0 ≤ r) (r1 : r < (t.length : Int)) : ∃ c, t.cps[r.toNat]? = some c ∧ Let ⟨#[c]⟩ := by
  have hr : r.toNat < t.cps.size := by
    have : t.length = t.cps.size := rfl
    omega
  refine ⟨t.cps[r.toNat], Array.getElem?_eq_getElem hr, _, rfl, ?_⟩
  exact h _ (by simp)
theorem abc_all : AllLet (Str.ofString "abcdefghijklmnopqrstuvwxyz") := fun c hc => (abc_mem c).1 hc
theorem abc_len : (Str.ofString "abcdefghijklmnopqrstuvwxyz").length = 26 := by decide +kernel
theorem join_len {ys : List Str} (h : ∀ y ∈ ys, Let y) : (Txt.join (Str.ofString "") ys).length = ys.length := by
  rw [len_cps, join_cps]
  induction ys with
  | nil => rfl
  | cons x r ih =>
    have hx := (h x List.mem_cons_self).len
    rw [len_cps] at hx
    rw [List.flatMap_cons, List.length_append, hx, ih fun y hy => h y (List.mem_cons_of_mem _ hy), List.length_cons]
    omega
theorem join_all {ys : List Str} (h : ∀ y ∈ ys, Let y) : AllLet (Txt.join (Str.ofString "") ys) := fun c hc => by
  rw [join_cps] at hc
  obtain ⟨y, hy, q⟩ := List.mem_flatMap.mp hc
  obtain ⟨d, rfl, h1, h2⟩ := h y hy
  have e : c = d := by simpa using q
  rw [e]
  exact ⟨h1, h2⟩
theorem let_small {ys : List Str} (h : ∀ y ∈ ys, Let y) (l : ys.length ≤ 1000) : (ys.map (·.length)).sum + ys.length * (Str.ofString "").length ≤ 16777216 := by
  have e : (Str.ofString "").length = 0 := by decide +kernel
  rw [e, sum_one fun s hs => (h s hs).len]
  omega
/-! ### an item at a drawn place -/
theorem atI_of {α : Type} {xs : List α} {r : Int} (r0 : 0 ≤ r) (r1 : r < (xs.length : Int)) : ∃ v, atI xs r = some v ∧ xs[r.toNat]? = some v := by
  have h : r.toNat < xs.length := by omega
  have e : ((r.toNat : Nat) : Int) = r := by omega
  obtain ⟨v, hv⟩ : ∃ v, xs[r.toNat]? = some v := ⟨_, List.getElem?_eq_getElem h⟩
  have q := atI_nat hv
  rw [e] at q
  exact ⟨v, q, hv⟩
theorem atI_mem {α : Type} {xs : List α} {r : Int} (r0 : 0 ≤ r) (r1 : r < (xs.length : Int)) : ∃ v, atI xs r = some v ∧ v ∈ xs := by
  obtain ⟨v, h1, h2⟩ := atI_of r0 r1
  exact ⟨v, h1, List.mem_of_getElem? h2⟩
theorem but_mut {a p : Addr} {H H' : Hp} (e : But a H H') (h : H p = none) (o : HO) : But a H (upd H' p o) := fun b u n q => by
  rw [upd_ne (ne_of_none q h)]
  exact e b u n q
theorem But.same {a : Addr} {H H1 H2 : Hp} (e : But a H H1) (k : Same H1 H2) : But a H H2 := fun b o n h => k b o (e b o n h)
/-- fresh in a later heap is fresh in an earlier one -/
theorem But.free {a p : Addr} {H H' : Hp} {o : HO} (e : But a H H') (ha : H' a = some o) (h : H' p = none) : H p = none := by
  cases q : H p with
  | none => rfl
  | some u =>
    have n : p ≠ a := fun z => by
      rw [z, ha] at h
      cases h
    rw [e p u n q] at h
    cases h
theorem But.at {a b : Addr} {H H' : Hp} {o : HO} (e : But a H H') (n : b ≠ a) (h : H b = some o) : H' b = some o := e b o n h
theorem But.sqL {K : PySem.W.Frag} {a b : Addr} {H H' : Hp} {xs : List V} (e : But a H H') (n : b ≠ a) (h : H b = some (.lst xs)) : SqL K H' b xs := SqL.of (e b _ n h)
theorem lc_yes {σ : L2.St} {H : Hp} {t e : Hp → Prop} (h : t H) : tYes σ H (fun b H3 => if b = true then t H3 else e H3) := h
end Ww

namespace Ww
open PySem PySem.Spec PyProof.Rows L2
/-! ### two lists side by side -/
def All2 {α β : Type} (R : α → β → Prop) : List α → List β → Prop
  | [], [] => True
  | x :: xs, y :: ys => R x y ∧ All2 R xs ys
  | _, _ => False
theorem All2.mono {α β : Type} {R S : α → β → Prop} (e : ∀ x y, R x y → S x y) : ∀ {xs : List α} {ys : List β}, All2 R xs ys → All2 S xs ys
  | [], [], _ => trivial
  | _ :: _, _ :: _, h => ⟨e _ _ h.1, All2.mono e h.2⟩
  | [], _ :: _, h => h.elim
  | _ :: _, [], h => h.elim
theorem All2.len {α β : Type} {R : α → β → Prop} : ∀ {xs : List α} {ys : List β}, All2 R xs ys → xs.length = ys.length
  | [], [], _ => rfl
  | _ :: _, _ :: _, h => by rw [List.length_cons, List.length_cons, All2.len h.2]
  | [], _ :: _, h => h.elim
  | _ :: _, [], h => h.elim
theorem All2.snoc {α β : Type} {R : α → β → Prop} {x : α} {y : β} (r : R x y) : ∀ {xs : List α} {ys : List β}, All2 R xs ys → All2 R (xs ++ [x]) (ys ++ [y])
  | [], [], _ => ⟨r, trivial⟩
  | _ :: _, _ :: _, h => ⟨h.1, All2.snoc r h.2⟩
  | [], _ :: _, h => h.elim
  | _ :: _, [], h => h.elim
theorem All2.app {α β : Type} {R : α → β → Prop} {zs : List α} {us : List β} (r : All2 R zs us) : ∀ {xs : List α} {ys : List β}, All2 R xs ys → All2 R (xs ++ zs) (ys ++ us)
  | [], [], _ => r
  | _ :: _, _ :: _, h => ⟨h.1, All2.app r h.2⟩
  | [], _ :: _, h => h.elim
  | _ :: _, [], h => h.elim
theorem All2.get {α β : Type} {R : α → β → Prop} : ∀ {xs : List α} {ys : List β} {i : Nat} {x : α}, All2 R xs ys → xs[i]? = some x → ∃ y, ys[i]? = some y ∧ R x y
  | [], [], _, _, _, e => by simp at e
  | x :: _, y :: _, 0, z, h, e => by
    have e' : x = z := by simpa using e
    subst e'
    exact ⟨y, rfl, h.1⟩
  | _ :: _, _ :: _, i + 1, _, h, e => by
    obtain ⟨y, a, b⟩ := All2.get h.2 (by simpa using e)
    exact ⟨y, by simpa using a, b⟩
  | [], _ :: _, _, _, h, _ => h.elim
  | _ :: _, [], _, _, h, _ => h.elim
theorem All2.mem {α β : Type} {R : α → β → Prop} {xs : List α} {ys : List β} (h : All2 R xs ys) {x : α} (m : x ∈ xs) : ∃ y, y ∈ ys ∧ R x y := by
  obtain ⟨i, hi⟩ := List.getElem?_of_mem m
  obtain ⟨y, a, b⟩ := h.get hi
  exact ⟨y, List.mem_of_getElem? a, b⟩
/-! ### data that == reads -/
def Lk (K : PySem.W.Frag) (H : Hp) (v : V) : Prop := ∃ d, Dp K H v d ∧ d.canLay0 = true ∧ d.depth ≤ 60
theorem lks {K : PySem.W.Frag} {H : Hp} : ∀ {xs : List V}, (∀ v ∈ xs, Lk K H v) → ∃ ds, DpAll K H xs ds ∧ ds.length = xs.length ∧ PyData.canLayAll0 ds = true ∧ PyData.depthAll ds ≤ 60
  | [], _ => ⟨[], .nil, rfl, rfl, by decide⟩
  | x :: xs, h => by
    obtain ⟨d, h1, h2, h3⟩ := h x List.mem_cons_self
    obtain ⟨ds, g1, g2, g3, g4⟩ := lks fun v hv => h v (List.mem_cons_of_mem _ hv)
    refine ⟨d :: ds, .cons h1 g1, by rw [List.length_cons, List.length_cons, g2], ?_, ?_⟩
    · show (d.canLay0 && PyData.canLayAll0 ds) = true
      rw [h2, g3]
      rfl
    · show max d.depth (PyData.depthAll ds) ≤ 60
      omega
theorem shaped_list {ds : List PyData} (h1 : PyData.canLayAll0 ds = true) (h2 : PyData.depthAll ds ≤ 60) : SeqAt.shaped (.list ds) = true := by
  show (PyData.canLayAll0 ds && decide (PyData.depthAll ds + 1 ≤ 64)) = true
  rw [h1, decide_eq_true (by omega)]
  rfl
theorem eqv_nil : ∀ ds : List PyData, PyData.eqv (.list ds) (.list []) = ds.isEmpty
  | [] => rfl
  | _ :: _ => rfl
theorem ne_nil {K : PySem.W.Frag} {H : Hp} {a p : Addr} {xs : List V} {Q : VK} (h : H a = some (.lst xs)) (hp : H p = some (.lst [])) (l : ∀ v ∈ xs, Lk K H v) (q : Q (.bl (!xs.isEmpty)) H) : rNeD K (.ref a) (.ref p) H Q := by
  obtain ⟨ds, g1, g2, g3, g4⟩ := lks l
  refine ⟨.list ds, .list [], .lst (SqL.of h) g1, .lst (SqL.of hp) .nil, shaped_list g3 g4, by decide, ?_⟩
  rw [eqv_nil]
  have e : ds.isEmpty = xs.isEmpty := by
    cases ds <;> cases xs <;> first | rfl | cases g2
  rw [e]
  exact q
theorem let_ok {s : Str} (h : Let s) : PyData.strOk s = true := by
  obtain ⟨c, rfl, h1, h2⟩ := h
  simp [PyData.strOk]
  omega
theorem form_ok {f : Str} (h : Form f) : PyData.strOk f = true := by
  rcases h with rfl | rfl | rfl <;> decide +kernel
theorem Kd.lay : ∀ {k : Kd}, k.ok → k.dat.canLay0 = true
  | .pl s, h => by
    show (PyData.strOk "plain" && (PyData.strOk s && true)) = true
    rw [let_ok h]
    decide +kernel
  | .nd f a b, ⟨h, h1, h2⟩ => by
    show (PyData.strOk f && (a.dat.canLay0 && (b.dat.canLay0 && true))) = true
    rw [form_ok h, Kd.lay h1, Kd.lay h2]
    rfl
theorem Kd.dat_depth : ∀ k : Kd, k.dat.depth = k.deep
  | .pl s => rfl
  | .nd f a b => by
    show max 0 (max a.dat.depth (max b.dat.depth 0)) + 1 = 1 + max a.deep b.deep
    rw [Kd.dat_depth a, Kd.dat_depth b]
    omega
theorem KAt.lk {K : PySem.W.Frag} {H : Hp} {v : V} {k : Kd} (h : KAt H v k) (ok : k.ok) (d : k.deep ≤ 60) : Lk K H v := ⟨k.dat, h.dp, k.lay ok, by rw [k.dat_depth]; exact d⟩
/-! ### the places of a kind's letters -/
def Kd.places : Kd → Int → List (Str × Int)
  | .pl s, d => [(s, d)]
  | .nd _ a b, d => a.places (d + 1) ++ b.places (d + 1)
def Kd.wt : Kd → Nat
  | .pl _ => 1
  | .nd _ a b => 1 + a.wt + b.wt
theorem Kd.places_fst : ∀ (k : Kd) (d : Int), (k.places d).map (·.1) = k.letters
  | .pl s, d => rfl
  | .nd f a b, d => by
    show (a.places (d + 1) ++ b.places (d + 1)).map (·.1) = a.letters ++ b.letters
    rw [List.map_append, Kd.places_fst a, Kd.places_fst b]
theorem Kd.places_len (k : Kd) (d : Int) : (k.places d).length = k.letters.length := by
  rw [← k.places_fst d, List.length_map]
theorem Kd.places_le : ∀ (k : Kd) (d : Int), ∀ x ∈ k.places d, x.2 ≤ d + (k.deep : Int) - 1
  | .pl s, d, x, h => by
    have e : x = (s, d) := by simpa [Kd.places] using h
    rw [e]
    show d ≤ d + (1 : Nat) - 1
    omega
  | .nd f a b, d, x, h => by
    show x.2 ≤ d + ((1 + max a.deep b.deep : Nat) : Int) - 1
    rcases List.mem_append.mp (show x ∈ a.places (d + 1) ++ b.places (d + 1) from h) with z | z
    · have := Kd.places_le a _ x z
      omega
    · have := Kd.places_le b _ x z
      omega
theorem Kd.places_max : ∀ (k : Kd) (d : Int), ∃ x ∈ k.places d, x.2 = d + (k.deep : Int) - 1
  | .pl s, d => ⟨(s, d), by simp [Kd.places], by show d = d + (1 : Nat) - 1; omega⟩
  | .nd f a b, d => by
    show ∃ x ∈ a.places (d + 1) ++ b.places (d + 1), x.2 = d + ((1 + max a.deep b.deep : Nat) : Int) - 1
    by_cases c : b.deep ≤ a.deep
    · obtain ⟨x, m, e⟩ := Kd.places_max a (d + 1)
      exact ⟨x, List.mem_append_left _ m, by omega⟩
    · obtain ⟨x, m, e⟩ := Kd.places_max b (d + 1)
      exact ⟨x, List.mem_append_right _ m, by omega⟩
theorem places_flat : ∀ st : List (Kd × Int), st.length ≤ (st.flatMap fun x => x.1.places x.2).length
  | [] => Nat.le_refl 0
  | x :: st => by
    rw [List.flatMap_cons, List.length_append, List.length_cons, x.1.places_len]
    have := places_flat st
    have := x.1.letters_pos
    omega
theorem at5 {a b c d e f : V} {r : List V} : atI (a :: b :: c :: d :: e :: f :: r) 5 = some f := by
  have := atI_nat (xs := a :: b :: c :: d :: e :: f :: r) (j := 5) (v := f) rfl
  exact this
theorem at6 {a b c d e f g : V} {r : List V} : atI (a :: b :: c :: d :: e :: f :: g :: r) 6 = some g := by
  have := atI_nat (xs := a :: b :: c :: d :: e :: f :: g :: r) (j := 6) (v := g) rfl
  exact this
end Ww

namespace Ww
open PySem PySem.Spec PyProof.Rows L2
theorem hu1 {A : Around} {k : Nat} (hr : Room k A) : A.units + 1 < cLine := by
  have := hr.un
  omega
/-- a walk over a list, whatever a turn asks -/
theorem walk_list {K : PySem.W.Frag} {a : Addr} {xs : List V} {H0 : Hp} {Qd : Hp → Prop} {B : (Hp → Prop) → V → Hp → Prop} (Pv : Nat → Hp → Prop) (h0 : Pv 0 H0) (hl : ∀ i H, i ≤ xs.length → Pv i H → SqL K H a xs)
    (hs : ∀ i x H, xs[i]? = some x → Pv i H → B (Pv (i + 1)) x H) (hd : ∀ H, Pv xs.length H → Qd H) :
    ∃ W : Nat → Nat → Hp → Prop, (∃ m, W 0 m H0) ∧ ∀ i m H, W i m H →
      ((Itl K a).stop i H ∧ Qd H) ∨ ((Itl K a).go i H ∧ ∃ Nx : Hp → Prop, (∀ H', Nx H' → ∃ m', m' < m ∧ W (i + 1) m' H') ∧ ∀ x H', (Itl K a).yld i H x H' → B Nx x H') := by
  refine ⟨fun i m H => m = xs.length - i ∧ i ≤ xs.length ∧ Pv i H, ⟨xs.length, by simp, Nat.zero_le _, h0⟩, ?_⟩
  rintro i m H ⟨rfl, hi, p⟩
  have q := hl i H hi p
  by_cases hlt : i < xs.length
  · refine .inr ⟨⟨xs, xs[i], q, by simp [hlt]⟩, Pv (i + 1), fun H' p' => ⟨xs.length - (i + 1), by omega, rfl, hlt, p'⟩, fun x H' y => ?_⟩
    obtain ⟨e, y⟩ := y
    subst e
    exact hs i x _ (y xs q) p
  · have e : i = xs.length := by omega
    subst e
    exact .inl ⟨⟨xs, q, Nat.le_refl _⟩, hd H p⟩
theorem eq_nil {K : PySem.W.Frag} {H : Hp} {a p : Addr} {xs : List V} {Q : VK} (h : H a = some (.lst xs)) (hp : H p = some (.lst [])) (l : ∀ v ∈ xs, Lk K H v) (q : Q (.bl xs.isEmpty) H) : rEqD K (.ref a) (.ref p) H Q := by
  obtain ⟨ds, g1, g2, g3, g4⟩ := lks l
  refine ⟨.list ds, .list [], .lst (SqL.of h) g1, .lst (SqL.of hp) .nil, shaped_list g3 g4, by decide, ?_⟩
  rw [eqv_nil]
  have e : ds.isEmpty = xs.isEmpty := by
    cases ds <;> cases xs <;> first | rfl | cases g2
  rw [e]
  exact q
/-! ### pairs and rows in the heap -/
def RowAt (H : Hp) (v : V) (x : Str × Int) : Prop := ∃ p, v = .ref p ∧ H p = some (.tup [.str x.1, .int x.2])
def PairAt (H : Hp) (v : V) (x : Kd × Int) : Prop := ∃ p u, v = .ref p ∧ H p = some (.tup [u, .int x.2]) ∧ KAt H u x.1
theorem RowAt.mono {H H' : Hp} (e : Tps H H') (v : V) (x : Str × Int) (h : RowAt H v x) : RowAt H' v x := by
  obtain ⟨p, q, h⟩ := h
  exact ⟨p, q, e _ _ h⟩
theorem PairAt.mono {H H' : Hp} (e : Tps H H') (v : V) (x : Kd × Int) (h : PairAt H v x) : PairAt H' v x := by
  obtain ⟨p, u, q, h, k⟩ := h
  exact ⟨p, u, q, e _ _ h, k.mono e⟩
theorem PairAt.lk {K : PySem.W.Frag} {H : Hp} {v : V} {x : Kd × Int} (h : PairAt H v x) (ok : x.1.ok) (d : x.1.deep ≤ 8) : Lk K H v := by
  obtain ⟨p, u, rfl, h, k⟩ := h
  refine ⟨.tuple [x.1.dat, .int x.2], .tup (SqT.of h) (.cons k.dp (.cons (.int _) .nil)), ?_, ?_⟩
  · show (x.1.dat.canLay0 && (true && true)) = true
    rw [x.1.lay ok]
    rfl
  · show max x.1.dat.depth (max 0 0) + 1 ≤ 60
    rw [x.1.dat_depth]
    omega
theorem RowAt.lk {K : PySem.W.Frag} {H : Hp} {v : V} {x : Str × Int} (h : RowAt H v x) (ok : Let x.1) : Lk K H v := by
  obtain ⟨p, rfl, h⟩ := h
  refine ⟨.tuple [.str x.1, .int x.2], .tup (SqT.of h) (.cons (.str _) (.cons (.int _) .nil)), ?_, by show 1 ≤ 60; decide⟩
  show (PyData.strOk x.1 && (true && true)) = true
  rw [let_ok ok]
  rfl
def rowDat (x : Str × Int) : PyData := .tuple [.str x.1, .int x.2]
theorem RowAt.dp {K : PySem.W.Frag} {H : Hp} {v : V} {x : Str × Int} (h : RowAt H v x) : Dp K H v (rowDat x) := by
  obtain ⟨p, rfl, h⟩ := h
  exact .tup (SqT.of h) (.cons (.str _) (.cons (.int _) .nil))
theorem row_shaped {x : Str × Int} (ok : Let x.1) : SeqAt.shaped (rowDat x) = true := by
  show ((PyData.strOk x.1 && (true && true)) && decide (1 ≤ 64)) = true
  rw [let_ok ok]
  rfl
theorem row_eqv (x y : Str × Int) : PyData.eqv (rowDat x) (rowDat y) = decide (x = y) := by
  obtain ⟨a, i⟩ := x
  obtain ⟨b, j⟩ := y
  show ((a == b) && ((i == j) && true)) = decide ((a, i) = (b, j))
  rw [Bool.and_true, Bool.eq_iff_iff, Bool.and_eq_true, beq_iff_eq, beq_iff_eq, decide_eq_true_iff, Prod.mk.injEq]
theorem dps_of {α : Type} {K : PySem.W.Frag} {H : Hp} {R : V → α → Prop} (f : α → PyData) (e : ∀ v x, R v x → Dp K H v (f x)) : ∀ {vs : List V} {xs : List α}, All2 R vs xs → DpAll K H vs (xs.map f)
  | [], [], _ => .nil
  | _ :: _, _ :: _, h => .cons (e _ _ h.1) (dps_of f e h.2)
  | [], _ :: _, h => h.elim
  | _ :: _, [], h => h.elim
/-! ### a list of kinds -/
def KB (k : Kd) : Prop := k.ok ∧ k.deep ≤ 8 ∧ k.letters.length ≤ 60
theorem ks_lk {K : PySem.W.Frag} {H : Hp} {vs : List V} {ks : List Kd} (h : All2 (KAt H) vs ks) (b : ∀ k ∈ ks, KB k) : ∀ v ∈ vs, Lk K H v := fun v hv => by
  obtain ⟨k, m, r⟩ := h.mem hv
  exact r.lk (b k m).1 (by have := (b k m).2.1; omega)
theorem ks_dp {K : PySem.W.Frag} {H : Hp} {vs : List V} {ks : List Kd} (h : All2 (KAt H) vs ks) : DpAll K H vs (ks.map Kd.dat) := dps_of (R := KAt H) Kd.dat (fun _ _ h => h.dp) h
theorem ks_gd {ks : List Kd} (b : ∀ k ∈ ks, k.deep ≤ 8) (l : ks.length ≤ 100000) {n : Nat} (hn : 10 ≤ n) : Gd n (.list (ks.map Kd.dat)) := by
  obtain ⟨m, rfl⟩ : ∃ m, n = m + 1 := ⟨n - 1, by omega⟩
  refine ⟨by rw [List.length_map]; exact l, fun d hd => ?_⟩
  obtain ⟨k, hk, rfl⟩ := List.mem_map.mp hd
  exact Gd.kd.mono (by have := b k hk; omega)
theorem rows_gd {ps : List (Str × Int)} (l : ps.length ≤ 100000) {n : Nat} (hn : 3 ≤ n) : Gd n (.list (ps.map rowDat)) := by
  obtain ⟨m, rfl⟩ : ∃ m, n = m + 3 := ⟨n - 3, by omega⟩
  refine ⟨by rw [List.length_map]; exact l, fun d hd => ?_⟩
  obtain ⟨k, hk, rfl⟩ := List.mem_map.mp hd
  refine ⟨by show 2 ≤ 100000; decide, fun d hd => ?_⟩
  simp only [List.mem_cons, List.not_mem_nil, or_false] at hd
  rcases hd with rfl | rfl <;> exact trivial
theorem All2.rev {α β : Type} {R : α → β → Prop} : ∀ {xs : List α} {ys : List β}, All2 R xs ys → All2 R xs.reverse ys.reverse
  | [], [], _ => trivial
  | x :: xs, y :: ys, h => by
    rw [List.reverse_cons, List.reverse_cons]
    exact All2.snoc h.1 (All2.rev h.2)
  | [], _ :: _, h => h.elim
  | _ :: _, [], h => h.elim
/-! ### turned -/
def turnF (f : Str) : Str := if f = "behind" then "ahead" else if f = "ahead" then "behind" else f
theorem behind_ahead : ¬ (Str.ofString "behind" = Str.ofString "ahead") := by decide +kernel
theorem ahead_behind : ¬ (Str.ofString "ahead" = Str.ofString "behind") := by decide +kernel
theorem with_behind : ¬ (Str.ofString "with" = Str.ofString "behind") := by decide +kernel
theorem with_ahead : ¬ (Str.ofString "with" = Str.ofString "ahead") := by decide +kernel
theorem behind_with : ¬ (Str.ofString "behind" = Str.ofString "with") := by decide +kernel
theorem ahead_with : ¬ (Str.ofString "ahead" = Str.ofString "with") := by decide +kernel
theorem turnF_b : turnF "behind" = "ahead" := if_pos rfl
theorem turnF_a : turnF "ahead" = "behind" := by
  show (if Str.ofString "ahead" = Str.ofString "behind" then _ else _) = _
  rw [if_neg ahead_behind]
  exact if_pos rfl
theorem turnF_w : turnF "with" = "with" := by
  show (if Str.ofString "with" = Str.ofString "behind" then _ else _) = _
  rw [if_neg with_behind]
  exact if_neg with_ahead
def Kd.turn : Kd → Kd
  | .pl s => .pl s
  | .nd f a b => .nd (turnF f) b.turn a.turn
theorem turnF_form {f : Str} (h : Form f) : Form (turnF f) := by
  rcases h with rfl | rfl | rfl
  · exact .inr (.inl turnF_b)
  · exact .inl turnF_a
  · exact .inr (.inr turnF_w)
theorem turnF_twice {f : Str} (h : Form f) : turnF (turnF f) = f := by
  rcases h with rfl | rfl | rfl
  · rw [turnF_b, turnF_a]
  · rw [turnF_a, turnF_b]
  · rw [turnF_w, turnF_w]
theorem Kd.turn_ok : ∀ {k : Kd}, k.ok → k.turn.ok
  | .pl _, h => h
  | .nd _ _ _, ⟨h, a, b⟩ => ⟨turnF_form h, Kd.turn_ok b, Kd.turn_ok a⟩
theorem Kd.turn_deep : ∀ k : Kd, k.turn.deep = k.deep
  | .pl _ => rfl
  | .nd f a b => by
    show 1 + max b.turn.deep a.turn.deep = 1 + max a.deep b.deep
    rw [Kd.turn_deep a, Kd.turn_deep b]
    omega
theorem Kd.turn_turn : ∀ {k : Kd}, k.ok → k.turn.turn = k
  | .pl _, _ => rfl
  | .nd f a b, ⟨h, x, y⟩ => by
    show Kd.nd (turnF (turnF f)) a.turn.turn b.turn.turn = _
    rw [turnF_twice h, Kd.turn_turn x, Kd.turn_turn y]
theorem Kd.turn_letters : ∀ k : Kd, k.turn.letters = k.letters.reverse
  | .pl _ => rfl
  | .nd f a b => by
    show b.turn.letters ++ a.turn.letters = (a.letters ++ b.letters).reverse
    rw [Kd.turn_letters a, Kd.turn_letters b, List.reverse_append]
theorem Kd.turn_single : ∀ {k : Kd}, k.ok → k.turn.single = k.single
  | .pl _, _ => rfl
  | .nd f a b, ⟨h, x, y⟩ => by
    show (!decide (turnF f = "with") && (b.turn.single && a.turn.single)) = (!decide (f = "with") && (a.single && b.single))
    rw [Kd.turn_single x, Kd.turn_single y, Bool.and_comm b.single]
    rcases h with rfl | rfl | rfl
    · rw [turnF_b, decide_eq_false behind_with, decide_eq_false ahead_with]
    · rw [turnF_a, decide_eq_false behind_with, decide_eq_false ahead_with]
    · rw [turnF_w]
theorem Kd.turn_kb {k : Kd} (h : KB k) : KB k.turn := by
  refine ⟨Kd.turn_ok h.1, ?_, ?_⟩
  · rw [k.turn_deep]
    exact h.2.1
  · rw [k.turn_letters, List.length_reverse]
    exact h.2.2
/-! ### the signed letters of a kind -/
def Kd.sgn : Kd → Int → List (Str × Int)
  | .pl x, s => [(x, s)]
  | .nd f a b, s => if s = 1 then a.sgn (if f = "ahead" then -s else s) ++ b.sgn (if f = "behind" then -s else s) else b.sgn (if f = "behind" then -s else s) ++ a.sgn (if f = "ahead" then -s else s)
theorem Kd.sgn_len : ∀ (k : Kd) (s : Int), (k.sgn s).length = k.letters.length
  | .pl _, _ => rfl
  | .nd f a b, s => by
    show (if s = 1 then _ else _ : List (Str × Int)).length = (a.letters ++ b.letters).length
    by_cases h : s = 1
    · rw [if_pos h, List.length_append, List.length_append, Kd.sgn_len, Kd.sgn_len]
    · rw [if_neg h, List.length_append, List.length_append, Kd.sgn_len, Kd.sgn_len]
      omega
theorem Kd.sgn_mem : ∀ (k : Kd) (s : Int) (x : Str), x ∈ (k.sgn s).map (·.1) ↔ x ∈ k.letters
  | .pl y, s, x => by simp [Kd.sgn, Kd.letters]
  | .nd f a b, s, x => by
    show x ∈ (if s = 1 then _ else _ : List (Str × Int)).map (·.1) ↔ x ∈ a.letters ++ b.letters
    by_cases h : s = 1
    · rw [if_pos h, List.map_append, List.mem_append, List.mem_append, Kd.sgn_mem, Kd.sgn_mem]
    · rw [if_neg h, List.map_append, List.mem_append, List.mem_append, Kd.sgn_mem, Kd.sgn_mem]
      exact Or.comm
theorem Kd.sgn_turn : ∀ {k : Kd} (s : Int), k.ok → k.turn.sgn s = (k.sgn s).reverse
  | .pl _, _, _ => rfl
  | .nd f a b, s, ⟨h, x, y⟩ => by
    show (if s = 1 then b.turn.sgn (if turnF f = "ahead" then -s else s) ++ a.turn.sgn (if turnF f = "behind" then -s else s) else a.turn.sgn (if turnF f = "behind" then -s else s) ++ b.turn.sgn (if turnF f = "ahead" then -s else s)) = (if s = 1 then _ else _ : List (Str × Int)).reverse
    have e1 : (turnF f = "ahead") ↔ (f = "behind") := by
      rcases h with rfl | rfl | rfl
      · rw [turnF_b]
        exact ⟨fun _ => rfl, fun _ => rfl⟩
      · rw [turnF_a]
        exact ⟨fun z => (behind_ahead z).elim, fun z => (ahead_behind z).elim⟩
      · rw [turnF_w]
        exact ⟨fun z => (with_ahead z).elim, fun z => (with_behind z).elim⟩
    have e2 : (turnF f = "behind") ↔ (f = "ahead") := by
      rcases h with rfl | rfl | rfl
      · rw [turnF_b]
        exact ⟨fun z => (ahead_behind z).elim, fun z => (behind_ahead z).elim⟩
      · rw [turnF_a]
        exact ⟨fun _ => rfl, fun _ => rfl⟩
      · rw [turnF_w]
        exact ⟨fun z => (with_behind z).elim, fun z => (with_ahead z).elim⟩
    simp only [e1, e2]
    rw [Kd.sgn_turn _ x, Kd.sgn_turn _ y]
    by_cases c : s = 1
    · rw [if_pos c, if_pos c, List.reverse_append]
    · rw [if_neg c, if_neg c, List.reverse_append]
def rowSgn (ks : List Kd) : List (Str × Int) := ks.flatMap fun k => k.sgn 1
theorem rowSgn_turn : ∀ {ks : List Kd}, (∀ k ∈ ks, k.ok) → rowSgn (ks.reverse.map Kd.turn) = (rowSgn ks).reverse
  | [], _ => rfl
  | k :: ks, h => by
    have ih := rowSgn_turn fun x hx => h x (List.mem_cons_of_mem _ hx)
    have hk := h k List.mem_cons_self
    unfold rowSgn at ih ⊢
    rw [List.reverse_cons, List.map_append, List.flatMap_append, ih, List.flatMap_cons, List.reverse_append, List.map_cons, List.map_nil, List.flatMap_cons, List.flatMap_nil, List.append_nil, Kd.sgn_turn _ hk]
/-! ### what is left when all that cancels is taken out -/
def inv (p : Str × Int) : Str × Int := (p.1, -p.2)
theorem inv_inv (p : Str × Int) : inv (inv p) = p := by
  obtain ⟨a, i⟩ := p
  show (a, - -i) = (a, i)
  rw [Int.neg_neg]
theorem inv_sym {p q : Str × Int} (h : q = inv p) : p = inv q := by rw [h, inv_inv]
def rstep (st : List (Str × Int)) (p : Str × Int) : List (Str × Int) := match st with
  | [] => [p]
  | q :: r => if q = inv p then r else p :: q :: r
def fold (st ps : List (Str × Int)) : List (Str × Int) := ps.foldl rstep st
def red (ps : List (Str × Int)) : List (Str × Int) := (fold [] ps).reverse
def Rd0 : List (Str × Int) → Prop
  | [] => True
  | [_] => True
  | p :: q :: r => q ≠ inv p ∧ Rd0 (q :: r)
theorem Rd0.tail {p : Str × Int} : ∀ {r : List (Str × Int)}, Rd0 (p :: r) → Rd0 r
  | [], _ => trivial
  | _ :: _, h => h.2
theorem rstep_rd {st : List (Str × Int)} {p : Str × Int} (h : Rd0 st) : Rd0 (rstep st p) := by
  cases st with
  | nil => exact trivial
  | cons q r =>
    show Rd0 (if q = inv p then r else p :: q :: r)
    by_cases c : q = inv p
    · rw [if_pos c]
      exact h.tail
    · rw [if_neg c]
      exact ⟨c, h⟩
theorem fold_rd : ∀ {ps st : List (Str × Int)}, Rd0 st → Rd0 (fold st ps)
  | [], _, h => h
  | _ :: ps, _, h => fold_rd (ps := ps) (rstep_rd h)
theorem rstep_back {st : List (Str × Int)} {p : Str × Int} (h : Rd0 st) : rstep (rstep st p) (inv p) = st := by
  cases st with
  | nil =>
    show (if p = inv (inv p) then [] else _) = []
    rw [if_pos (inv_inv p).symm]
  | cons q r =>
    show rstep (if q = inv p then r else p :: q :: r) (inv p) = q :: r
    by_cases c : q = inv p
    · rw [if_pos c]
      cases r with
      | nil => rw [c]; rfl
      | cons q2 r2 =>
        show (if q2 = inv (inv p) then r2 else inv p :: q2 :: r2) = _
        have n : ¬ q2 = inv (inv p) := fun z => h.1 (by rw [z, c])
        rw [if_neg n, c]
    · rw [if_neg c]
      show (if p = inv (inv p) then q :: r else _) = q :: r
      rw [if_pos (inv_inv p).symm]
theorem fold_app (st a b : List (Str × Int)) : fold st (a ++ b) = fold (fold st a) b := List.foldl_append
theorem snoc_ind {α : Type} {P : List α → Prop} (h0 : P []) (hs : ∀ l x, P l → P (l ++ [x])) (l : List α) : P l := by
  have g : ∀ m : List α, P m.reverse := by
    intro m
    induction m with
    | nil => exact h0
    | cons x m ih =>
      rw [List.reverse_cons]
      exact hs _ _ ih
  have := g l.reverse
  rw [List.reverse_reverse] at this
  exact this
theorem fold_red (l : List (Str × Int)) : ∀ st, Rd0 st → fold st l = fold st (red l) := by
  refine snoc_ind (P := fun l => ∀ st, Rd0 st → fold st l = fold st (red l)) (fun _ _ => rfl) (fun l p ih st hst => ?_) l
  have e : fold [] (l ++ [p]) = rstep (fold [] l) p := fold_app [] l [p]
  unfold red at ih ⊢
  rw [e, fold_app st l [p], ih st hst]
  have hr : Rd0 (fold [] l) := fold_rd trivial
  revert hr
  cases fold [] l with
  | nil => intro _; rfl
  | cons q r =>
    intro hr
    show rstep (fold st (q :: r).reverse) p = fold st (if q = inv p then r else p :: q :: r).reverse
    by_cases c : q = inv p
    · rw [if_pos c, List.reverse_cons, fold_app, inv_sym c]
      exact rstep_back (fold_rd hst)
    · rw [if_neg c, List.reverse_cons (a := p), fold_app st _ [p]]
      rfl
theorem fold_rev (l : List (Str × Int)) : ∀ st, Rd0 st → fold st l.reverse = fold st (fold [] l) := by
  refine snoc_ind (P := fun l => ∀ st, Rd0 st → fold st l.reverse = fold st (fold [] l)) (fun _ _ => rfl) (fun l p ih st hst => ?_) l
  have e : fold [] (l ++ [p]) = rstep (fold [] l) p := fold_app [] l [p]
  rw [e, List.reverse_append]
  show fold (rstep st p) l.reverse = _
  rw [ih _ (rstep_rd hst)]
  cases fold [] l with
  | nil => rfl
  | cons q r =>
    show fold (rstep (rstep st p) q) r = fold st (if q = inv p then r else p :: q :: r)
    by_cases c : q = inv p
    · rw [if_pos c, c, rstep_back hst]
    · rw [if_neg c]
      rfl
theorem fold_of_rd : ∀ {w acc : List (Str × Int)}, Rd0 w → (∀ p r q s, w = p :: r → acc = q :: s → q ≠ inv p) → fold acc w = w.reverse ++ acc
  | [], _, _, _ => rfl
  | p :: r, acc, h, c => by
    have e : rstep acc p = p :: acc := by
      cases acc with
      | nil => rfl
      | cons q s => exact if_neg (c p r q s rfl rfl)
    show fold (rstep acc p) r = (p :: r).reverse ++ acc
    rw [e, fold_of_rd h.tail (fun p2 r2 q s e1 e2 => by
      subst e1
      obtain ⟨e3, _⟩ := List.cons.inj e2
      subst e3
      exact fun z => h.1 (inv_sym z)), List.reverse_cons, List.append_assoc]
    rfl
theorem red_rev (l : List (Str × Int)) : red l.reverse = (red l).reverse := by
  unfold red
  have h : Rd0 (fold [] l) := fold_rd (st := []) trivial
  rw [fold_rev l [] trivial, fold_of_rd h (fun _ _ _ _ _ z => by cases z), List.append_nil]
theorem red_mem (l : List (Str × Int)) : ∀ x ∈ red l, x ∈ l := by
  refine snoc_ind (P := fun l => ∀ x ∈ red l, x ∈ l) (fun _ z => nomatch z) (fun l p ih x hx => ?_) l
  have e : fold [] (l ++ [p]) = rstep (fold [] l) p := fold_app [] l [p]
  unfold red at ih hx
  rw [e, List.mem_reverse] at hx
  have ih' : ∀ y ∈ fold [] l, y ∈ l := fun y hy => ih y (List.mem_reverse.mpr hy)
  revert hx ih'
  cases fold [] l with
  | nil =>
    intro hx _
    exact List.mem_append_right _ hx
  | cons q r =>
    intro hx ih'
    have hx' : x ∈ (if q = inv p then r else p :: q :: r) := hx
    by_cases c : q = inv p
    · rw [if_pos c] at hx'
      exact List.mem_append_left _ (ih' x (List.mem_cons_of_mem _ hx'))
    · rw [if_neg c] at hx'
      rcases List.mem_cons.mp hx' with rfl | h
      · exact List.mem_append_right _ (List.mem_singleton.mpr rfl)
      · exact List.mem_append_left _ (ih' x h)
theorem fold_len : ∀ (ps st : List (Str × Int)), (fold st ps).length ≤ st.length + ps.length
  | [], st => Nat.le_refl _
  | p :: ps, st => by
    have h := fold_len ps (rstep st p)
    have e : (rstep st p).length ≤ st.length + 1 := by
      cases st with
      | nil => exact Nat.le_refl _
      | cons q r =>
        show (if q = inv p then r else p :: q :: r).length ≤ _
        by_cases c : q = inv p
        · rw [if_pos c, List.length_cons]
          omega
        · rw [if_neg c]
          exact Nat.le_refl _
    show (fold (rstep st p) ps).length ≤ st.length + (ps.length + 1)
    omega
/-! ### the balance -/
def cnt : List (Str × Int) → Str → Int
  | [], _ => 0
  | p :: ps, s => (if p.1 = s then p.2 else 0) + cnt ps s
theorem cnt_app (s : Str) : ∀ a b : List (Str × Int), cnt (a ++ b) s = cnt a s + cnt b s
  | [], b => by
    show cnt b s = 0 + cnt b s
    omega
  | p :: a, b => by
    show _ + cnt (a ++ b) s = _ + cnt a s + cnt b s
    rw [cnt_app s a b]
    omega
theorem cnt_rev (s : Str) : ∀ a : List (Str × Int), cnt a.reverse s = cnt a s
  | [] => rfl
  | p :: a => by
    rw [List.reverse_cons, cnt_app, cnt_rev s a]
    show _ + (_ + 0) = _ + _
    omega
def bal (ps : List (Str × Int)) (ss : List Str) : List (Str × Int) := (ss.map fun s => (s, cnt ps s)).filter fun x => decide (x.2 ≠ 0)
/-- a dict of counts -/
def DC (kvs : List (L2.Key × V)) (ps : List (Str × Int)) : Prop := ∃ ks : List Str, kvs.map (·.1) = ks.map Sum.inr ∧ ks.Nodup ∧ (∀ s, s ∈ ks ↔ s ∈ ps.map (·.1)) ∧ ∀ s, valV kvs (.inr s) = if s ∈ ks then some (.int (cnt ps s)) else none
theorem DC.nil : DC [] [] := ⟨[], rfl, List.nodup_nil, fun _ => Iff.rfl, fun s => by rw [if_neg (by simp)]; rfl⟩
theorem cnt_out {s : Str} : ∀ {ps : List (Str × Int)}, s ∉ ps.map (·.1) → cnt ps s = 0
  | [], _ => rfl
  | p :: ps, h => by
    rw [List.map_cons, List.mem_cons, not_or] at h
    show (if p.1 = s then p.2 else 0) + cnt ps s = 0
    rw [if_neg (fun z => h.1 z.symm), cnt_out h.2]
    rfl
theorem DC.get {kvs : List (L2.Key × V)} {ps : List (Str × Int)} (h : DC kvs ps) (s : Str) : (valV kvs (.inr s)).getD (.int 0) = .int (cnt ps s) := by
  obtain ⟨ks, h1, h2, h3, h4⟩ := h
  rw [h4]
  by_cases c : s ∈ ks
  · rw [if_pos c]
    rfl
  · rw [if_neg c, cnt_out fun z => c ((h3 s).2 z)]
    rfl
theorem putK_keys {kvs : List (L2.Key × V)} {k : L2.Key} {y : V} (h : k ∈ kvs.map (·.1)) : (putK kvs k y).map (·.1) = kvs.map (·.1) := by
  unfold putK
  have a : (kvs.any fun kv => decide (kv.1 = k)) = true := by
    obtain ⟨x, m, e⟩ := List.mem_map.mp h
    exact List.any_eq_true.mpr ⟨x, m, decide_eq_true e⟩
  rw [if_pos a, List.map_map]
  refine List.map_congr_left fun x _ => ?_
  show (if x.1 = k then (x.1, y) else x).1 = x.1
  split <;> rfl
theorem DC.put {kvs : List (L2.Key × V)} {ps : List (Str × Int)} (h : DC kvs ps) (p : Str × Int) : DC (putK kvs (.inr p.1) (.int (cnt ps p.1 + p.2))) (ps ++ [p]) := by
  obtain ⟨ks, h1, h2, h3, h4⟩ := h
  have cs : ∀ s, cnt (ps ++ [p]) s = cnt ps s + (if p.1 = s then p.2 else 0) := fun s => by
    rw [cnt_app]
    show _ + (_ + 0) = _
    omega
  by_cases c : p.1 ∈ ks
  · refine ⟨ks, ?_, h2, fun s => ?_, fun s => ?_⟩
    · rw [putK_keys (by rw [h1]; exact List.mem_map_of_mem c), h1]
    · rw [List.map_append, List.mem_append, ← h3 s]
      refine ⟨.inl, fun z => z.elim id fun z => ?_⟩
      have e : s = p.1 := by simpa using z
      rw [e]
      exact c
    · rw [valV_put, h4, cs]
      by_cases e : s = p.1
      · subst e
        rw [if_pos rfl, if_pos c, if_pos rfl]
      · have e2 : ¬ p.1 = s := fun z => e z.symm
        have e3 : ¬ (Sum.inr s : L2.Key) = Sum.inr p.1 := fun z => e (Sum.inr.inj z)
        rw [if_neg e3, if_neg e2, Int.add_zero]
  · have nv : valV kvs (.inr p.1) = none := by rw [h4, if_neg c]
    refine ⟨ks ++ [p.1], ?_, ?_, fun s => ?_, fun s => ?_⟩
    · rw [putK_new _ nv, List.map_append, h1, List.map_append]
      rfl
    · rw [List.nodup_append]
      refine ⟨h2, by simp, fun a ha b hb z => ?_⟩
      rw [List.mem_singleton] at hb
      rw [z, hb] at ha
      exact c ha
    · rw [List.map_append, List.mem_append, List.mem_append, h3 s]
      rfl
    · rw [valV_put, h4, cs]
      by_cases e : s = p.1
      · subst e
        rw [if_pos rfl, if_pos (List.mem_append_right _ (List.mem_singleton.mpr rfl)), if_pos rfl]
      · have e2 : ¬ p.1 = s := fun z => e z.symm
        have e3 : ¬ (Sum.inr s : L2.Key) = Sum.inr p.1 := fun z => e (Sum.inr.inj z)
        rw [if_neg e3, if_neg e2, Int.add_zero]
        by_cases c2 : s ∈ ks
        · rw [if_pos c2, if_pos (List.mem_append_left _ c2)]
        · rw [if_neg c2, if_neg (fun z => (List.mem_append.mp z).elim c2 fun z => e (List.mem_singleton.mp z))]
end Ww

namespace Ww
open PySem PySem.Spec PyProof.Rows L2
theorem All2.kat {H H' : Hp} {xs : List V} {ks : List Kd} (e : Tps H H') (w : All2 (KAt H) xs ks) : All2 (KAt H') xs ks := w.mono fun _ _ h => h.mono e
theorem All2.row {H H' : Hp} {xs : List V} {ks : List (Str × Int)} (e : Tps H H') (w : All2 (RowAt H) xs ks) : All2 (RowAt H') xs ks := w.mono (RowAt.mono e)
/-- all but a and h stands -/
def Bt2 (a h : Addr) (H H' : Hp) : Prop := ∀ b o, b ≠ a → b ≠ h → H b = some o → H' b = some o
theorem Bt2.refl (a h : Addr) (H : Hp) : Bt2 a h H H := fun _ _ _ _ q => q
theorem Bt2.trans {a h : Addr} {H H1 H2 : Hp} (x : Bt2 a h H H1) (y : Bt2 a h H1 H2) : Bt2 a h H H2 := fun b o n m q => y b o n m (x b o n m q)
theorem Bt2.of {a h : Addr} {H H' : Hp} (e : Same H H') : Bt2 a h H H' := fun b o _ _ q => e b o q
theorem Bt2.but {a h : Addr} {H H' : Hp} (e : But a H H') : Bt2 a h H H' := fun b o n _ q => e b o n q
theorem Bt2.mut {a h p : Addr} {H H' : Hp} (e : Bt2 a h H H') (n : H p = none) (o : HO) : Bt2 a h H (upd H' p o) := fun b u x y q => by
  rw [upd_ne (ne_of_none q n)]
  exact e b u x y q
theorem Bt2.at2 {a h : Addr} {H H' : Hp} (e : Bt2 a h H H') (o : HO) : Bt2 a h H (upd H' h o) := fun b u x y q => by
  rw [upd_ne y]
  exact e b u x y q
theorem Bt2.tps {a h : Addr} {H H' : Hp} {xs ys : List V} (e : Bt2 a h H H') (ha : H a = some (.lst xs)) (hh : H h = some (.lst ys)) : Tps H H' := fun b zs q =>
  e b _ (ne_of q ha (fun z => by cases z)) (ne_of q hh (fun z => by cases z)) q
theorem str_app (x y : Str) : (x ++ y).cps.toList = x.cps.toList ++ y.cps.toList := PySem.W.KT.app_list x y
theorem str_len_app (x y : Str) : (x ++ y).length = x.length + y.length := by
  rw [len_cps, len_cps, len_cps, str_app, List.length_append]
theorem AllLet.app {x y : Str} (a : AllLet x) (b : AllLet y) : AllLet (x ++ y) := fun c hc => by
  rw [str_app] at hc
  rcases List.mem_append.mp hc with z | z
  · exact a c z
  · exact b c z
theorem rowSgn_snoc (ks : List Kd) (k : Kd) : (rowSgn (ks ++ [k])).length = (rowSgn ks).length + k.letters.length := by
  unfold rowSgn
  rw [List.flatMap_append, List.length_append]
  show _ + ([k].flatMap _).length = _
  rw [List.flatMap_cons, List.flatMap_nil, List.append_nil, k.sgn_len]
end Ww

namespace Ww.DS
open PySem PySem.W PySem.Calls PyProof.Rows PyProof.V PySem.Spec L2.DX DT
variable {prog : Program} {w : World} {A : Around} {E : Value → Shared → Prop} {s : Shared}
/-- v is a pair: a text, anything -/
def PairS (h : Heap) (v : Value) (y : Str) : Prop := ∃ (a : Addr) (t : Tok) (b : Addr), v = .ref a ∧ IsTup h a #[.str y t, .ref b]
def keyS (h : Heap) (v : Value) : Str := txOf (seqAt0 h (refOf (some v)))
theorem PairS.tx {h : Heap} {v : Value} {y : Str} (x : PairS h v y) : keyS h v = y := by
  obtain ⟨a, t, u, rfl, h1⟩ := x
  show txOf (seqAt0 h a) = y
  rw [seqAt0_of h1]
  rfl
theorem firsts {h : Heap} : ∀ vs : List Value, (∀ v ∈ vs, ∃ y, PairS h v y) → ∃ fs : List Value, KatTups h vs fs ∧ fs.length = vs.length ∧ ∀ f ∈ fs, ∃ (y : Str) (t : Tok), f = Value.str y t
  | [], _ => ⟨[], KatTups.nil, rfl, fun f hf => by simp at hf⟩
  | v :: vs, x => by
    obtain ⟨fs, k, hl, hi⟩ := firsts vs fun u hu => x u (List.mem_cons_of_mem _ hu)
    obtain ⟨y, a, t, u, rfl, ⟨o, ho, hc, n, hd⟩⟩ := x v (List.mem_cons_self ..)
    refine ⟨.str y t :: fs, KatTups.cons ho hc hd rfl k, by rw [List.length_cons, List.length_cons, hl], fun f hf => ?_⟩
    rcases List.mem_cons.mp hf with rfl | hf
    · exact ⟨y, t, rfl⟩
    · exact hi f hf
theorem kind_ss {vs : List Value} {ρ : Str → Int} (h2 : 2 ≤ vs.length) (hu : A.units < cLine) (x : ∀ v ∈ vs, ∃ y, PairS s.heap v y)
    (hd : ∀ v ∈ vs, ∀ u ∈ vs, keyS s.heap v = keyS s.heap u → v = u)
    (hρ : ∀ v ∈ vs, ∀ u ∈ vs, decide ((keyS s.heap v).cps.toList < (keyS s.heap u).cps.toList) = decide (ρ (keyS s.heap v) < ρ (keyS s.heap u))) (Q : SortKind → Shared → Prop)
    (h : ∀ κ, TS.Cmp prog w A s κ (pairsOf vs) (fun v => ρ (keyS s.heap v)) → Q κ s) : wpAny (model prog w) A (keyKind' vs.toArray) Q E s := by
  obtain ⟨fs, k, hl, hi⟩ := firsts vs x
  refine kat_kind (T := Value.type "str") k (by omega) (fun f hf => ?_) rfl (h _ ?_)
  · obtain ⟨y, t, rfl⟩ := hi f hf
    exact .now
  · have hb : (Value.type "str" != Value.type "tuple") = true := by first | rfl | decide | simp
    rw [hb]
    intro p q hp hq Q' E' hQ
    rw [pairsOf_toList] at hp hq
    have mp := mem_zip_self hp
    have mq := mem_zip_self hq
    obtain ⟨y, py⟩ := x _ mp.2
    obtain ⟨z, pz⟩ := x _ mq.2
    have hr := hρ _ mp.2 _ mq.2
    have hdd := hd _ mp.2 _ mq.2
    have hQ' : Q' (decide (y.cps.toList < z.cps.toList)) s := by
      rw [py.tx, pz.tx] at hr
      rw [hr]
      have hQ2 : Q' (decide (ρ (keyS s.heap p.1) < ρ (keyS s.heap q.1))) s := hQ
      rw [py.tx, pz.tx] at hQ2
      exact hQ2
    rw [py.tx, pz.tx] at hdd
    obtain ⟨a, t, b, e1, ho⟩ := py
    obtain ⟨a', t', b', e2, ho'⟩ := pz
    obtain ⟨o, go, hc, n, hdt⟩ := id ho
    obtain ⟨o', go', hc', n', hdt'⟩ := id ho'
    have hdd' := hdd
    rw [e1, e2] at hdd' ⊢
    refine kat_lt go hdt go' hdt' ?_
    show KatLex prog w A true false Q' [(Value.str y t, Value.str z t'), (Value.ref b, Value.ref b')] 0 s
    by_cases e : y = z
    · have ea : a = a' := Value.ref.inj (hdd' e)
      subst ea
      have eo : o = o' := Option.some.inj (go.symm.trans go')
      subst eo
      have es := hdt.symm.trans hdt'
      injection es with es1 es2
      have eb : b = b' := by
        have := congrArg (fun z : Array Value => z[1]?) es1
        simpa using this
      subst eb
      have irr : decide (y.cps.toList < z.cps.toList) = false := by
        rw [e]
        first | exact decide_eq_false (List.lt_irrefl _) | simp
      rw [irr] at hQ'
      refine kat_cons (wpAny_eqBool_str ?_)
      refine kat_go (fun _ => ?_) (fun e0 => absurd e (of_decide_eq_false e0))
      refine kat_yes (kat_cons ?_)
      have same : ∀ {R : Bool → Shared → Prop}, R true s → wpAny (model prog w) A (eqBool (Value.ref b) (Value.ref b)) R (fun _ _ => False) s := fun {R} h => by
        unfold eqBool
        refine wpAny_holding ?_
        have eb : (Value.ref b == Value.ref b) = true := by simp
        rw [if_pos eb]
        exact wpAny_bind (wpAny_rule (wpAny_pure h))
      exact same (kat_yes (kat_nil hQ'))
    · refine kat_cons (wpAny_eqBool_str ?_)
      refine kat_go (fun e0 => absurd (of_decide_eq_true e0) e) (fun _ => ?_)
      exact kat_no (oneLt_str hQ')
end Ww.DS
namespace Ww.DS
open PySem PySem.Spec PyProof.Rows L2 L2.DX
theorem pairs_at {P : Program} {w : World} {es : List DictEntry} {vs : List (L2.Key × Value)} (h : PySem.Pairs (mixKind P w) es vs) : ∀ {kvs : List (L2.Key × V)}, Paired (fun (p : L2.Key × V) (q : L2.Key × Value) => p.1 = q.1 ∧ RelV p.2 q.2) kvs vs → ∀ (j : Nat) (en : DictEntry), es[j]? = some en →
    ∃ k v, kvs[j]? = some (k, v) ∧ keyIs k en.key = true ∧ RelV v en.val := by
  induction h with
  | nil =>
    intro kvs r j en h
    simp at h
  | @cons e kv es vs h1 h2 hs ih =>
    intro kvs r j en h
    cases r with
    | @cons p _ ps _ r1 rs =>
      cases j with
      | zero =>
        have e' : e = en := by simpa using h
        subst e'
        refine ⟨p.1, p.2, rfl, ?_, ?_⟩
        · rw [r1.1]
          exact h1
        · rw [h2]
          exact r1.2
      | succ j =>
        obtain ⟨k, v, a, b⟩ := ih rs j en (by simpa using h)
        exact ⟨k, v, by simpa using a, b⟩
/-! ### a rank of texts -/
theorem cnt_lt {α : Type} {p q : α → Bool} : ∀ {L : List α}, (∀ a ∈ L, p a = true → q a = true) → (∃ a ∈ L, q a = true ∧ p a = false) → L.countP p < L.countP q
  | [], _, ⟨a, h, _⟩ => nomatch h
  | x :: L, h, ⟨a, ha, h1, h2⟩ => by
    have mono : L.countP p ≤ L.countP q := List.countP_mono_left fun b hb => h b (List.mem_cons_of_mem _ hb)
    rw [List.countP_cons, List.countP_cons]
    rcases List.mem_cons.mp ha with rfl | ha
    · rw [h1, h2]
      simp
      omega
    · have ih := cnt_lt (fun b hb => h b (List.mem_cons_of_mem _ hb)) ⟨a, ha, h1, h2⟩
      have hx := h x List.mem_cons_self
      by_cases c : p x = true
      · rw [if_pos c, if_pos (hx c)]
        omega
      · rw [if_neg c]
        split <;> omega
def rank (L : List Str) (x : Str) : Int := (L.countP fun y => decide (y.cps.toList < x.cps.toList) : Nat)
theorem tri {x y : Str} (n : ¬ x = y) : x.cps.toList < y.cps.toList ∨ y.cps.toList < x.cps.toList := by
  rcases Decidable.em (x.cps.toList < y.cps.toList) with z | z
  · exact .inl z
  · rcases Decidable.em (y.cps.toList < x.cps.toList) with z2 | z2
    · exact .inr z2
    · exact absurd (str_ext (List.le_antisymm (List.not_lt.mp z2) (List.not_lt.mp z))) n
theorem rank_lt {L : List Str} {x y : Str} (hx : x ∈ L) (h : x.cps.toList < y.cps.toList) : rank L x < rank L y := by
  have := cnt_lt (p := fun z : Str => decide (z.cps.toList < x.cps.toList)) (q := fun z : Str => decide (z.cps.toList < y.cps.toList)) (L := L) (fun a _ ha => decide_eq_true (List.lt_trans (of_decide_eq_true ha) h)) ⟨x, hx, decide_eq_true h, decide_eq_false (lt_irr _)⟩
  unfold rank
  omega
theorem rank_iff {L : List Str} {x y : Str} (hx : x ∈ L) (hy : y ∈ L) : decide (x.cps.toList < y.cps.toList) = decide (rank L x < rank L y) := by
  rw [decide_eq_decide]
  refine ⟨rank_lt hx, fun h => ?_⟩
  by_cases e : x = y
  · rw [e] at h
    omega
  · rcases tri e with z | z
    · exact z
    · have := rank_lt hy z
      omega
/-! ### d.items() and sorted(d.items()) of a dict of texts -/
abbrev entS (e : Str × Addr) : L2.Key × V := (Sum.inr e.1, V.ref e.2)
section
variable {X : Cx}
theorem mt_itemsK : MtR X "dict.items" (fun x xs H Q => ∃ (a : Addr) (kvs : List (L2.Key × V)), x = .ref a ∧ xs = [] ∧ H a = some (.dK kvs) ∧ ∀ p, H p = none → Q (.ref p) (upd H p (itemsO p a))) := by
  intro pins s σ H x xs v us Q I rx rxs h
  obtain ⟨a, kvs, rfl, rfl, ha, q⟩ := h
  cases rx
  cases rxs
  obtain ⟨z, hd, vs, rel, o, es, ep, ho, hx, hdat, _⟩ := dk_of I.hok ha
  refine DT.callItems (es := es) (ep := ep) hd ⟨o, ho, hx, hdat⟩ ?_
  have hf : H s.heap.objs.size = none := I.hok.fresh (Nat.le_refl _)
  exact ⟨.ref s.heap.objs.size, upd H s.heap.objs.size (itemsO s.heap.objs.size a), I.laid (t' := s.toks) (fun b u e => Heap.get?_push_of_some _ e) (Nat.le_refl _) (itemsO_ok (Heap.get?_push_size _ rfl)), rfl, q _ hf⟩
def rSortIK : List V → Hp → VK → Prop := fun vs H Q => ∃ (p a : Addr) (ks : List (Str × Addr)), vs = [.ref p] ∧ H p = some (itemsO p a) ∧ H a = some (.dK (ks.map entS)) ∧ ks.length < 64 ∧ (ks.map (·.1)).Nodup ∧
  ∀ (H' : Hp) (l : Addr) (ps : List (Addr × Str × Addr)), Same H H' → H l = none → (ps.map (·.2)).Perm ks → (ps.map (·.2)).Pairwise (fun e f => e.1.cps.toList < f.1.cps.toList) → H' l = some (.lst (ps.map fun z => V.ref z.1)) →
    (∀ z ∈ ps, H' z.1 = some (.tup [.str z.2.1, .ref z.2.2])) → Q (.ref l) H'
theorem cr_sortedItemsK (hc : X.calm = true) (hu : X.A.units + 64 < cLine) : CallR X (.builtin "sorted") rSortIK := by
  intro pins s σ H xs us Q I r h
  obtain ⟨p, a, ks, rfl, hp, ha, h64, hnd, q⟩ := h
  obtain rfl := Vals.ref1 r
  have view : s.heap.IsItemsView p a := (show ObjOk X.prog X.w H s.heap p (itemsO p a) from I.hok p _ hp).1
  obtain ⟨z, hd, vs', rel, o, es, ep, ho, hx, hdat, hes, his, hn⟩ := dk_of I.hok ha
  have l1 : (ks.map entS).length = vs'.length := Paired.length rel
  rw [List.length_map] at l1
  have l2 : es.size = vs'.length := by
    rw [← Array.length_toList]
    exact PySem.Pairs.length his
  have hh : X.A.handled = none := I.ok.hd hc
  refine DT.sortedI (es := es) (ep := ep) hh view ⟨o, ho, hx, hdat⟩ (by rw [sizeLine_eq]; omega) fun h' tk as hk hlt hl hG => ?_
  have lak : as.length = ks.length := by omega
  have nd : as.Nodup := List.Pairwise.imp (fun h => Nat.ne_of_lt h) hG.rise
  have pr : ∀ (j : Nat) (b : Addr), as[j]? = some b → ∃ (e : Str × Addr) (t : Tok), ks[j]? = some e ∧ h'.get? b = some { cls := .type "tuple", data := .seq #[Value.str e.1 t, Value.ref e.2] } := by
    intro j b hj
    obtain ⟨en, he, hg⟩ := hG.pairs j b hj
    rw [← Array.getElem?_toList] at he
    obtain ⟨k, v, hkv, hkey, hval⟩ := pairs_at his rel j en he
    rw [List.getElem?_map] at hkv
    obtain ⟨e, hke, he2⟩ := Option.map_eq_some_iff.mp hkv
    have e1 : (Sum.inr e.1 : L2.Key) = k := congrArg Prod.fst he2
    have e2 : V.ref e.2 = v := congrArg Prod.snd he2
    subst e1
    subst e2
    rcases keyIs_shape hkey with ⟨i, t, c, _⟩ | ⟨y, t, c, ek⟩
    · cases c
    · have ey : e.1 = y := Sum.inr.inj c
      subst ey
      refine ⟨e, t, hke, ?_⟩
      have ev : en.val = Value.ref e.2 := hval
      rw [hg, ek, ev]
  have hob : (h'.push { cls := .type "list", data := .seq (as.map Value.ref).toArray }).get? h'.objs.size = some (seqObj "list" (as.map Value.ref).toArray 0) := Heap.get?_push_size _ rfl
  have kb : ∀ b o, s.heap.get? b = some o → (h'.push { cls := .type "list", data := .seq (as.map Value.ref).toArray }).get? b = some o := fun b o e => Heap.get?_push_of_some _ (hk b o e)
  have ne0 : ∀ b o, h'.get? b = some o → b ≠ h'.objs.size := fun b o e => Nat.ne_of_lt (Heap.lt_size e)
  generalize hh2 : h'.push { cls := .type "list", data := .seq (as.map Value.ref).toArray } = h2 at hob kb ⊢
  have ka : ∀ b o, h'.get? b = some o → h2.get? b = some o := fun b o e => by rw [← hh2]; exact Heap.get?_push_of_some _ e
  have pin : ∀ (j : Nat) (b : Addr), as[j]? = some b → ∃ e : Str × Addr, ks[j]? = some e ∧ PairS (TS.midHeap h2 h'.objs.size (as.map Value.ref)) (.ref b) e.1 := by
    intro j b hj
    obtain ⟨e, t, he, hg⟩ := pr j b hj
    exact ⟨e, he, b, t, e.2, rfl, ⟨_, TS.midHeap_old (ne0 _ _ hg) (ka _ _ hg), rfl, 0, rfl⟩⟩
  have tx : ∀ (j : Nat) (b : Addr) (e : Str × Addr), as[j]? = some b → ks[j]? = some e → keyS (TS.midHeap h2 h'.objs.size (as.map Value.ref)) (.ref b) = e.1 := by
    intro j b e hj he
    obtain ⟨e', he', hp'⟩ := pin j b hj
    have ee : e' = e := Option.some.inj (he'.symm.trans he)
    rw [← ee]
    exact hp'.tx
  have at_ : ∀ v ∈ as.map Value.ref, ∃ (j : Nat) (b : Addr) (e : Str × Addr), v = .ref b ∧ as[j]? = some b ∧ ks[j]? = some e := by
    intro v hv'
    obtain ⟨b, hb, rfl⟩ := List.mem_map.mp hv'
    obtain ⟨j, hj⟩ := List.mem_iff_getElem?.mp hb
    obtain ⟨e, _, he, _⟩ := pr j b hj
    exact ⟨j, b, e, rfl, hj, he⟩
  have mem1 : ∀ {j : Nat} {e : Str × Addr}, ks[j]? = some e → e.1 ∈ ks.map (·.1) := fun h => List.mem_map_of_mem (List.mem_of_getElem? h)
  refine wpAny_call_entry PyProof.Rows.slot_list_sort ⟨_, hob, rfl⟩ PyProof.Rows.entry_list_sort
    (SK.plain_sort (s := { s with heap := h2, toks := tk }) (r := fun v => rank (ks.map (·.1)) (keyS (TS.midHeap h2 h'.objs.size (as.map Value.ref)) v)) hob (by rw [List.length_map]; omega) (fun h2' Qk hQk => ?_) fun ps out o1 o2 o3 => ⟨.none, rfl, ?_⟩) (PyProof.Rows.args_list_sort _)
  · refine kind_ss (s := { s with heap := TS.midHeap h2 h'.objs.size (as.map Value.ref), toks := tk }) (ρ := rank (ks.map (·.1))) h2' (by show X.A.units + 1 + 1 < cLine; omega) (fun v hv' => ?_) (fun v hv' u hu' hvu => ?_) (fun v hv' u hu' => ?_) Qk hQk
    · obtain ⟨j, b, e, rfl, hj, he⟩ := at_ v hv'
      obtain ⟨e', _, hp'⟩ := pin j b hj
      exact ⟨e'.1, hp'⟩
    · obtain ⟨j, b, e, rfl, hj, he⟩ := at_ v hv'
      obtain ⟨j2, b2, e2, rfl, hj2, he2⟩ := at_ u hu'
      rw [tx j b e hj he, tx j2 b2 e2 hj2 he2] at hvu
      have m1 : (ks.map (·.1))[j]? = some e.1 := by rw [List.getElem?_map, he]; rfl
      have m2 : (ks.map (·.1))[j2]? = some e.1 := by rw [List.getElem?_map, he2, hvu]; rfl
      have ej : j = j2 := (List.getElem?_inj (List.getElem?_eq_some_iff.mp m1).1 hnd).mp (m1.trans m2.symm)
      subst ej
      rw [Option.some.inj (hj.symm.trans hj2)]
    · obtain ⟨j, b, e, rfl, hj, he⟩ := at_ v hv'
      obtain ⟨j2, b2, e2, rfl, hj2, he2⟩ := at_ u hu'
      rw [tx j b e hj he, tx j2 b2 e2 hj2 he2]
      exact rank_iff (mem1 he) (mem1 he2)
  · show EP X pins σ Q (.ref h'.objs.size) { s with heap := sortedHeap h2 h'.objs.size (as.map Value.ref) out, toks := tk }
    obtain ⟨zs, pz, ez⟩ := perm_lift (fun z : Addr × Str × Addr => (Value.ref z.1, Value.ref z.1)) o2 (as.zip ks) (zip_self Value.ref as ks lak)
    have idx : ∀ z ∈ zs, ∃ j : Nat, as[j]? = some z.1 ∧ ks[j]? = some z.2 := by
      intro z' hz'
      obtain ⟨j, hj⟩ := List.mem_iff_getElem?.mp (pz.mem_iff.mp hz')
      exact ⟨j, List.getElem?_zip_eq_some.mp hj⟩
    have hout : out.toList = zs.map fun z => Value.ref z.1 := by
      rw [o1, ← ez, List.map_map]
      all_goals rfl
    have hperm : (zs.map (·.2)).Perm ks := by
      have e := pz.map (·.2)
      have m2 : (as.zip ks).map (·.2) = ks := List.map_snd_zip (by rw [lak]; exact Nat.le_refl _)
      rw [m2] at e
      exact e
    have hnd2 : ((zs.map (·.2)).map (·.1)).Nodup := (hperm.map (·.1)).nodup_iff.mpr hnd
    have hsort : (zs.map (·.2)).Pairwise (fun e f => e.1.cps.toList < f.1.cps.toList) := by
      rw [← ez, List.pairwise_map] at o3
      rw [List.map_map, List.Nodup, List.pairwise_map] at hnd2
      rw [List.pairwise_map]
      refine List.Pairwise.imp_of_mem (fun {x y} hx hy h => ?_) (o3.and hnd2)
      obtain ⟨j, j1, j2⟩ := idx x hx
      obtain ⟨i, i1, i2⟩ := idx y hy
      have h' : rank (ks.map (·.1)) (keyS (TS.midHeap h2 h'.objs.size (as.map Value.ref)) (.ref x.1)) ≤ rank (ks.map (·.1)) (keyS (TS.midHeap h2 h'.objs.size (as.map Value.ref)) (.ref y.1)) := h.1
      rw [tx j _ _ j1 j2, tx i _ _ i1 i2] at h'
      have ne : ¬ x.2.1 = y.2.1 := h.2
      rcases tri ne with z | z
      · exact z
      · have := rank_lt (L := ks.map (·.1)) (mem1 i2) z
        omega
    have kF : ∀ b o, b ≠ h'.objs.size → h2.get? b = some o → (sortedHeap h2 h'.objs.size (as.map Value.ref) out).get? b = some o := fun b o hb e => (PyProof.Rows.sortedHeap_old hb (Heap.lt_size e)).trans e
    have kS : ∀ b o, s.heap.get? b = some o → (sortedHeap h2 h'.objs.size (as.map Value.ref) out).get? b = some o := fun b o e => kF b o (ne0 _ _ (hk b o e)) (kb b o e)
    obtain ⟨eF, heF⟩ := PyProof.Rows.sortedHeap_at (vs := as.map Value.ref) (out := out) hob
    have I1 : Inv X pins σ H { s with heap := sortedHeap h2 h'.objs.size (as.map Value.ref) out, toks := tk } := I.kept (t' := tk) kS
    have hn0 : H h'.objs.size = none := I.hok.fresh (Nat.le_of_lt hlt)
    have hlen : (zs.map fun z => V.ref z.1).length ≤ sizeLine := by
      have e := hperm.length_eq
      rw [List.length_map] at e
      rw [List.length_map, sizeLine_eq]
      omega
    have rv : Vals (zs.map fun z => V.ref z.1) out.toList := by
      rw [hout]
      exact vals_maps (fun z : Addr × Str × Addr => V.ref z.1) (fun z => Value.ref z.1) zs fun _ _ => rfl
    have I2 : Inv X pins σ (upd H h'.objs.size (.lst (zs.map fun z => V.ref z.1))) { s with heap := sortedHeap h2 h'.objs.size (as.map Value.ref) out, toks := tk } :=
      I1.take (h' := sortedHeap h2 h'.objs.size (as.map Value.ref) out) (t' := tk) (fun b ob _ e => e) (I.fpOk (Nat.le_of_lt hlt) hn0) ⟨hlen, out.toList, eF, rv, heF⟩
    obtain ⟨H2, I3, g, qt⟩ := takeT (P := fun b vs => ∃ (j : Nat) (e : Str × Addr), as[j]? = some b ∧ ks[j]? = some e ∧ vs = [.str e.1, .ref e.2]) I as _ I2 nd fun b hb => by
      obtain ⟨j, hj⟩ := List.mem_iff_getElem?.mp hb
      obtain ⟨e, t, he, hg⟩ := pr j b hj
      have hbl : s.heap.objs.size ≤ b := Nat.le_of_lt (hG.above b hb)
      refine ⟨hbl, ?_, [.str e.1, .ref e.2], ⟨j, e, hj, he, rfl⟩, fun H3 => ⟨(by rw [sizeLine_eq]; show 2 ≤ 16777216; omega), [Value.str e.1 t, Value.ref e.2], .cons ⟨t, rfl⟩ (.cons rfl .nil), ⟨_, kF _ _ (ne0 _ _ hg) (ka _ _ hg), rfl, 0, rfl⟩⟩⟩
      rw [upd_ne (ne0 _ _ hg)]
      exact I.hok.fresh hbl
    have gr : ∀ b o, H b = some o → H2 b = some o := fun b o e => g b o (by rw [upd_ne (ne_of_none e hn0)]; exact e)
    refine ⟨.ref h'.objs.size, H2, I3, rfl, q H2 h'.objs.size zs gr hn0 hperm hsort (g _ _ upd_same) fun z' hz' => ?_⟩
    obtain ⟨i, i1, i2⟩ := idx z' hz'
    obtain ⟨vs, ⟨j, e, j1, j2, ev⟩, hH⟩ := qt z'.1 (List.mem_of_getElem? i1)
    have eij : i = j := (List.getElem?_inj (List.getElem?_eq_some_iff.mp i1).1 nd).mp (i1.trans j1.symm)
    subst eij
    have ee : e = z'.2 := Option.some.inj (j2.symm.trans i2)
    rw [ev, ee] at hH
    exact hH
end
end Ww.DS

namespace Ww
open PySem PySem.Spec PyProof.Rows L2
/-! ### xs.count(y) of texts -/
def eqs (k : Str) (v : Value) : Bool := match v with
  | .str n _ => n == k
  | _ => false
theorem eqs_count {k : Str} : ∀ {us : List Value} {ns : List Str}, StrsAre us ns → us.countP (eqs k) = ns.count k
  | _, _, .nil => rfl
  | _, _, .cons n t h => by
    have ih := eqs_count (k := k) h
    rw [List.countP_cons, List.count_cons, ih] <;> rfl
theorem eqs_at {A : Around} {s : Shared} {k : Str} {t : Tok} : ∀ {us : List Value} {ns : List Str}, StrsAre us ns → ∀ y ∈ us, SeqAt.EqAt A s y (.str k t) (eqs k y)
  | _, _, .nil => fun y hy => by cases hy
  | _, _, .cons n t' h => fun y hy => by
    rcases List.mem_cons.mp hy with e | e
    · rw [e]
      exact SeqAt.EqAt.str_str n t' k t
    · exact eqs_at h y e
section
variable {X : Cx}
def rCntS (K : PySem.W.Frag) : V → List V → Hp → VK → Prop := fun x xs H Q => ∃ (p : Addr) (ns : List Str) (k : Str), x = .ref p ∧ xs = [.str k] ∧ SqL K H p (ns.map V.str) ∧ Q (.int (ns.count k : Nat)) H
theorem mt_lcountS : MtR X "list.count" (rCntS X.K) := by
  intro pins s σ H x xs v us Q I rx rxs h
  obtain ⟨p, ns, k, rfl, rfl, hs, q⟩ := h
  cases rx
  obtain ⟨u, rfl, ru⟩ := rxs.one
  obtain ⟨t, rfl⟩ := ru
  obtain ⟨its, rv, ⟨⟨cls, dd, data, sl⟩, n, ho, hc, hdn, hd⟩, hlen⟩ := I.list hs
  simp only at hc hd
  subst hc hd
  have hi := strsAre_vals rv
  refine call_meets PySem.F.slot_list_count ⟨_, ho, rfl⟩ PySem.F.entry_list_count (PySem.F.args_list_count_2 _ _)
    (SeqAt.list_countAt p its.toArray n dd sl (.str k t) (eqs k)) ⟨ho, fun y hy => eqs_at hi y (by simpa using hy), ?_⟩
  have ec : its.toArray.toList.countP (eqs k) = ns.count k := eqs_count hi
  refine ⟨.int (ns.count k : Nat), H, I.tok _, ⟨s.toks, ?_⟩, q⟩
  show Value.int ((its.toArray.toList.countP (eqs k) : Nat) : Int) s.toks = Value.int ((ns.count k : Nat) : Int) s.toks
  rw [ec]
end
/-- two keywords, the other way about -/
theorem kb_two {K : PySem.W.Frag} {x qual y z : Str} {st : Stmt} {f : Addr} {fd : FuncData} (F : Fun K x qual st f fd)
    (h : ∀ (kV doc pm : Value) (an : Option Addr) (cdv ct u v : Value), bindArgs (PySem.W.fnOf x qual (defArgs st) (defBody st) (defScope st) .none kV doc pm an cdv ct) ⟨[], [(z, u), (y, v)]⟩ = pure [(y, v), (z, u)]) :
    KB0 K fd [y, z] [z, y] (fun ws => ws.reverse) (fun zs => zs.reverse) := by
  obtain ⟨oc, od, kV, doc, pm, an, cdv, ct, osl, rfl, lk, hcd⟩ := F.ex
  refine ⟨fun s ws hl => ?_, fun r => ?_⟩
  · match ws, hl with
    | [u, v], _ => exact .of_eq (h kV doc pm an cdv ct u v)
  · have go : ∀ {zs : List V} {ws : List Value}, Vals zs ws → ∀ {zs2 : List V} {ws2 : List Value}, Vals zs2 ws2 → Vals (zs.reverse ++ zs2) (ws.reverse ++ ws2) := by
      intro zs ws r
      induction r with
      | nil => exact fun r2 => r2
      | cons a b ih =>
        intro zs2 ws2 r2
        rw [List.reverse_cons, List.reverse_cons, List.append_assoc, List.append_assoc]
        exact ih (.cons a r2)
    have := go r .nil
    rw [List.append_nil, List.append_nil] at this
    exact this
/-! ### kinds alike -/
theorem kd_eqv : ∀ a b : Kd, PyData.eqv a.dat b.dat = true ↔ a = b
  | .pl s, .pl t => by
    show ((Str.ofString "plain" == Str.ofString "plain") && ((s == t) && true)) = true ↔ _
    rw [beq_self_eq_true, Bool.true_and, Bool.and_true, beq_iff_eq, Kd.pl.injEq]
  | .nd f a b, .nd g c d => by
    show ((f == g) && (PyData.eqv a.dat c.dat && (PyData.eqv b.dat d.dat && true))) = true ↔ _
    rw [Bool.and_true, Bool.and_eq_true, Bool.and_eq_true, beq_iff_eq, kd_eqv a c, kd_eqv b d, Kd.nd.injEq]
  | .pl s, .nd g c d => by
    refine ⟨fun h => ?_, fun h => nomatch h⟩
    have : ((Str.ofString "plain" == g) && (PyData.eqv (.str s) c.dat && false)) = true := h
    simp at this
  | .nd f a b, .pl t => by
    refine ⟨fun h => ?_, fun h => nomatch h⟩
    have : ((f == Str.ofString "plain") && (PyData.eqv a.dat (.str t) && false)) = true := h
    simp at this
/-! ### how a kind is another one -/
def prs : Kd → Kd → Option (List (Str × Kd))
  | .pl s, o => some [(s, o)]
  | .nd _ _ _, .pl _ => none
  | .nd f a b, .nd g c d => if f = g then (match prs a c, prs b d with
    | some x, some y => some (x ++ y)
    | _, _ => none) else none
def Con (l : List (Str × Kd)) : Prop := ∀ s x y, (s, x) ∈ l → (s, y) ∈ l → x = y
theorem Con.sub {l m : List (Str × Kd)} (h : Con m) (e : ∀ x ∈ l, x ∈ m) : Con l := fun s x y a b => h s x y (e _ a) (e _ b)
/-- a table: each name once -/
def Good (t : List (Str × Kd)) : Prop := (t.map (·.1)).Nodup
theorem nodup_con : ∀ {t : List (Str × Kd)}, (t.map (·.1)).Nodup → Con t
  | [], _, s, x, y, a, _ => nomatch a
  | p :: t, h, s, x, y, a, b => by
    rw [List.map_cons, List.nodup_cons] at h
    rcases List.mem_cons.mp a with a | a
    · rcases List.mem_cons.mp b with b | b
      · have e := a.trans b.symm
        exact (Prod.mk.inj e).2
      · exact absurd (by rw [← a]; exact List.mem_map_of_mem (f := (·.1)) b) h.1
    · rcases List.mem_cons.mp b with b | b
      · exact absurd (by rw [← b]; exact List.mem_map_of_mem (f := (·.1)) a) h.1
      · exact nodup_con h.2 s x y a b
/-- what the matching says, from a table -/
def Mat (k o : Kd) (t : List (Str × Kd)) (r : Bool) (t' : List (Str × Kd)) : Prop :=
  (r = true → ∃ ps, prs k o = some ps ∧ Con (t ++ ps) ∧ ∀ x, x ∈ t' ↔ x ∈ t ++ ps) ∧ (r = false → ∀ ps, prs k o = some ps → ¬ Con (t ++ ps))
/-- the table in the heap -/
def TabAt (H : Hp) (es : List (Str × Addr)) (t : List (Str × Kd)) : Prop := All2 (fun (e : Str × Addr) (x : Str × Kd) => e.1 = x.1 ∧ KAt H (.ref e.2) x.2) es t
theorem TabAt.mono {H H' : Hp} {es : List (Str × Addr)} {t : List (Str × Kd)} (e : Tps H H') (h : TabAt H es t) : TabAt H' es t := All2.mono (fun _ _ h => ⟨h.1, h.2.mono e⟩) h
theorem KAt.ref {H : Hp} {v : V} : ∀ {k : Kd}, KAt H v k → ∃ p, v = .ref p
  | .pl _, ⟨p, e, _⟩ => ⟨p, e⟩
  | .nd _ _ _, ⟨p, _, _, e, _⟩ => ⟨p, e⟩
theorem TabAt.keys : ∀ {H : Hp} {es : List (Str × Addr)} {t : List (Str × Kd)}, TabAt H es t → es.map (·.1) = t.map (·.1)
  | _, [], [], _ => rfl
  | _, _ :: _, _ :: _, h => by rw [List.map_cons, List.map_cons, h.1.1, TabAt.keys h.2]
  | _, [], _ :: _, h => h.elim
  | _, _ :: _, [], h => h.elim
/-- what the table holds at a name -/
theorem TabAt.val {H : Hp} : ∀ {es : List (Str × Addr)} {t : List (Str × Kd)} (s : Str), TabAt H es t →
    (∃ p k, valV (es.map DS.entS) (.inr s) = some (.ref p) ∧ (s, k) ∈ t ∧ KAt H (.ref p) k) ∨ (valV (es.map DS.entS) (.inr s) = none ∧ s ∉ t.map (·.1))
  | [], [], s, _ => .inr ⟨rfl, by simp⟩
  | e :: es, x :: t, s, ⟨⟨h1, h2⟩, h3⟩ => by
    rw [List.map_cons]
    by_cases c : e.1 = s
    · refine .inl ⟨e.2, x.2, valV_pos (p := DS.entS e) (by show (Sum.inr e.1 : L2.Key) = _; rw [c]), ?_, h2⟩
      have : (s, x.2) = x := by rw [← c, h1]
      rw [this]
      exact List.mem_cons_self
    · have n : ¬ (DS.entS e).1 = (Sum.inr s : L2.Key) := fun z => c (Sum.inr.inj z)
      rw [valV_neg n]
      rcases TabAt.val s h3 with ⟨p, k, a, b, d⟩ | ⟨a, b⟩
      · exact .inl ⟨p, k, a, List.mem_cons_of_mem _ b, d⟩
      · refine .inr ⟨a, ?_⟩
        rw [List.map_cons, List.mem_cons, not_or]
        exact ⟨fun z => c (h1.trans z.symm), b⟩
  | [], _ :: _, _, h => h.elim
  | _ :: _, [], _, h => h.elim
/-- sorted(set(xs)) in one -/
theorem set_sorted {K : PySem.W.Frag} {P : Program} {w : World} {l : Addr} {xs : List Str} {H : Hp} {Q : VK} (h : SqL K H l (xs.map V.str)) (hz : xs.length ≤ 60)
    (q : ∀ ss p H', Same H H' → H p = none → Srt xs ss → H' p = some (.lst (ss.map V.str)) → Q (.ref p) H') : rSetS K P w [.ref l] H (fun v H1 => rSortS P w [v] H1 Q) := by
  refine ⟨l, xs, rfl, h, by omega, fun p hp => ?_⟩
  have l2 := dedup_len xs []
  rw [List.length_nil] at l2
  refine ⟨p, _, rfl, upd_same, by omega, fun ss p3 hs hp3 => ?_⟩
  have e := same_new hp (SetSO P w p (dedup [] xs))
  exact q ss p3 _ (e.trans (same_new hp3 _)) (e.free hp3) hs.of_dedup upd_same
theorem new_at {H : Hp} {p : Addr} (_h : H p = none) (o : HO) : upd H p o p = some o := upd_same
end Ww

namespace K06
open PySem PySem.Spec PyProof.Rows L2 Ww
def top (i : Nat) : Stmt := PySem.Challenge.pw_waitwords_k06_whole_puts.main.body.getD i (.Pass ⟨0, 0, 0, 0⟩)
abbrev s_is_letter : Stmt := top 8
abbrev N_is_letter : List Str := ["text"]
abbrev P_is_letter : List Str := ["text"]
theorem sc_is_letter : FnScope N_is_letter P_is_letter (defScope s_is_letter) := ⟨rfl, rfl, rfl, by decide +kernel, rfl, by decide +kernel, by decide +kernel⟩

abbrev s_wrong_part : Stmt := top 9
abbrev N_wrong_part : List Str := ["kind", "wrong"]
abbrev P_wrong_part : List Str := ["kind"]
theorem sc_wrong_part : FnScope N_wrong_part P_wrong_part (defScope s_wrong_part) := ⟨rfl, rfl, rfl, by decide +kernel, rfl, by decide +kernel, by decide +kernel⟩

abbrev s_checked_kind : Stmt := top 10
abbrev N_checked_kind : List Str := ["kind", "wrong"]
abbrev P_checked_kind : List Str := ["kind"]
theorem sc_checked_kind : FnScope N_checked_kind P_checked_kind (defScope s_checked_kind) := ⟨rfl, rfl, rfl, by decide +kernel, rfl, by decide +kernel, by decide +kernel⟩

abbrev s_checked_kinds : Stmt := top 11
abbrev N_checked_kinds : List Str := ["kinds", "kind"]
abbrev P_checked_kinds : List Str := ["kinds"]
theorem sc_checked_kinds : FnScope N_checked_kinds P_checked_kinds (defScope s_checked_kinds) := ⟨rfl, rfl, rfl, by decide +kernel, rfl, by decide +kernel, by decide +kernel⟩

abbrev s_matches : Stmt := top 12
abbrev N_matches : List Str := ["kind", "other", "table"]
abbrev P_matches : List Str := ["kind", "other", "table"]
theorem sc_matches : FnScope N_matches P_matches (defScope s_matches) := ⟨rfl, rfl, rfl, by decide +kernel, rfl, by decide +kernel, by decide +kernel⟩

abbrev s_puts : Stmt := top 13
abbrev N_puts : List Str := ["kind", "other", "table"]
abbrev P_puts : List Str := ["kind", "other"]
theorem sc_puts : FnScope N_puts P_puts (defScope s_puts) := ⟨rfl, rfl, rfl, by decide +kernel, rfl, by decide +kernel, by decide +kernel⟩

abbrev s_begun : Stmt := top 15
abbrev N_begun : List Str := ["_law_script", "_law_great", "_law_number", "_law_k"]
abbrev P_begun : List Str := ["_law_script"]
theorem sc_begun : FnScope N_begun P_begun (defScope s_begun) := ⟨rfl, rfl, rfl, by decide +kernel, rfl, by decide +kernel, by decide +kernel⟩

abbrev s_pick : Stmt := top 16
abbrev N_pick : List Str := ["_law_source", "_law_many", "_law_found", "_law_stirred"]
abbrev P_pick : List Str := ["_law_source", "_law_many"]
theorem sc_pick : FnScope N_pick P_pick (defScope s_pick) := ⟨rfl, rfl, rfl, by decide +kernel, rfl, by decide +kernel, by decide +kernel⟩

abbrev s_alike : Stmt := top 17
abbrev N_alike : List Str := ["_law_found", "_law_due_here", "_law_one", "_law_other"]
abbrev P_alike : List Str := ["_law_found", "_law_due_here"]
theorem sc_alike : FnScope N_alike P_alike (defScope s_alike) := ⟨rfl, rfl, rfl, by decide +kernel, rfl, by decide +kernel, by decide +kernel⟩

abbrev s_pool : Stmt := top 18
abbrev N_pool : List Str := ["_law_source", "_law_signs", "_law_many", "_law_k"]
abbrev P_pool : List Str := ["_law_source"]
theorem sc_pool : FnScope N_pool P_pool (defScope s_pool) := ⟨rfl, rfl, rfl, by decide +kernel, rfl, by decide +kernel, by decide +kernel⟩

abbrev s_grown : Stmt := top 19
abbrev N_grown : List Str := ["_law_source", "_law_most", "_law_deep", "_law_forms", "_law_signs", "_law_form", "_law_first", "_law_one"]
abbrev P_grown : List Str := ["_law_source", "_law_most", "_law_deep", "_law_forms", "_law_signs"]
theorem sc_grown : FnScope N_grown P_grown (defScope s_grown) := ⟨rfl, rfl, rfl, by decide +kernel, rfl, by decide +kernel, by decide +kernel⟩

abbrev s_places : Stmt := top 20
abbrev N_places : List Str := ["_law_kind", "_law_found", "_law_left", "_law_part", "_law_deep"]
abbrev P_places : List Str := ["_law_kind"]
theorem sc_places : FnScope N_places P_places (defScope s_places) := ⟨rfl, rfl, rfl, by decide +kernel, rfl, by decide +kernel, by decide +kernel⟩

abbrev s_put : Stmt := top 21
abbrev N_put : List Str := ["_law_kind", "_law_table_here"]
abbrev P_put : List Str := ["_law_kind", "_law_table_here"]
theorem sc_put : FnScope N_put P_put (defScope s_put) := ⟨rfl, rfl, rfl, by decide +kernel, rfl, by decide +kernel, by decide +kernel⟩

abbrev s_table : Stmt := top 22
abbrev N_table : List Str := ["_law_source", "_law_kind", "_law_signs", "_law_rows", "_law_names", "_law_row", "_law_room", "_law_deep", "_law_table_here", "_law_name", "_law_most", "_law_made"]
abbrev P_table : List Str := ["_law_source", "_law_kind", "_law_signs"]
theorem sc_table : FnScope N_table P_table (defScope s_table) := ⟨rfl, rfl, rfl, by decide +kernel, rfl, by decide +kernel, by decide +kernel⟩

abbrev s_bent : Stmt := top 23
abbrev N_bent : List Str := ["_law_source", "_law_kind", "_law_way"]
abbrev P_bent : List Str := ["_law_source", "_law_kind"]
theorem sc_bent : FnScope N_bent P_bent (defScope s_bent) := ⟨rfl, rfl, rfl, by decide +kernel, rfl, by decide +kernel, by decide +kernel⟩

abbrev s_due : Stmt := top 24
abbrev N_due : List Str := ["_law_kind", "_law_other", "_law_pairs", "_law_left", "_law_one", "_law_two", "_law_found", "_law_name", "_law_pair", "_law_parts", "_law_part"]
abbrev P_due : List Str := ["_law_kind", "_law_other"]
theorem sc_due : FnScope N_due P_due (defScope s_due) := ⟨rfl, rfl, rfl, by decide +kernel, rfl, by decide +kernel, by decide +kernel⟩

abbrev s_law : Stmt := top 25
abbrev N_law : List Str := ["_law_script", "_law_source", "_law_k", "_law_signs", "_law_forms", "_law_kind", "_law_table_here", "_law_other", "_law_due_here", "_law_name", "_law_found", "_law_third", "_law_two"]
abbrev P_law : List Str := ["_law_script"]
theorem sc_law : FnScope N_law P_law (defScope s_law) := ⟨rfl, rfl, rfl, by decide +kernel, rfl, by decide +kernel, by decide +kernel⟩

/-! ### promises -/
def spIsLetter : Sp := fun vs H Q _ => ∃ s : Str, vs = [.str s] ∧ s.length ≤ 1000000 ∧ Q (.bl (isLet s)) H
def spWrong (n : Nat) : Sp := fun vs H Q _ => ∃ (v : V) (k : Kd), vs = [v] ∧ KAt H v k ∧ k.ok ∧ k.deep ≤ n ∧ Q .non H
theorem spWrong_0 {vs : List V} {H : Hp} {Q : VK} {E : XK} (h : spWrong 0 vs H Q E) : False := by
  obtain ⟨v, k, _, _, _, hd, _⟩ := h
  have := k.deep_pos
  omega
def spChecked : Sp := fun vs H Q _ => ∃ (v : V) (k : Kd), vs = [v] ∧ KAt H v k ∧ k.ok ∧ k.deep ≤ 8 ∧ Q v H
def spSingle (n : Nat) : Sp := fun vs H Q _ => ∃ (v : V) (k : Kd), vs = [v] ∧ KAt H v k ∧ k.ok ∧ k.deep ≤ n ∧ Q (.bl k.single) H
theorem spSingle_0 {vs : List V} {H : Hp} {Q : VK} {E : XK} (h : spSingle 0 vs H Q E) : False := by
  obtain ⟨v, k, _, _, _, hd, _⟩ := h
  have := k.deep_pos
  omega
def spLettersOf (n : Nat) : Sp := fun vs H Q _ => ∃ (v : V) (k : Kd), vs = [v] ∧ KAt H v k ∧ k.ok ∧ k.deep ≤ n ∧ k.letters.length ≤ 1000 ∧
  ∀ p H', Same H H' → H' p = some (.lst (k.letters.map V.str)) → Q (.ref p) H'
theorem spLettersOf_0 {vs : List V} {H : Hp} {Q : VK} {E : XK} (h : spLettersOf 0 vs H Q E) : False := by
  obtain ⟨v, k, _, _, _, hd, _⟩ := h
  have := k.deep_pos
  omega
def spDepthOf (n : Nat) : Sp := fun vs H Q _ => ∃ (v : V) (k : Kd), vs = [v] ∧ KAt H v k ∧ k.ok ∧ k.deep ≤ n ∧ Q (.int (k.deep : Int)) H
theorem spDepthOf_0 {vs : List V} {H : Hp} {Q : VK} {E : XK} (h : spDepthOf 0 vs H Q E) : False := by
  obtain ⟨v, k, _, _, _, hd, _⟩ := h
  have := k.deep_pos
  omega
/-- a kind in the bounds of these laws -/
def KOk (H : Hp) (v : V) (k : Kd) : Prop := KAt H v k ∧ k.ok ∧ k.deep ≤ 8 ∧ k.letters.length ≤ 60
def spLetters : Sp := fun vs H Q _ => ∃ (v : V) (k : Kd), vs = [v] ∧ KOk H v k ∧ ∀ ss H', Same H H' → Srt k.letters ss → Q (.str (Txt.join "" ss)) H'
def spSize : Sp := fun vs H Q _ => ∃ (v : V) (k : Kd), vs = [v] ∧ KOk H v k ∧ ∀ H', Same H H' → Q (.int (k.letters.length : Int)) H'
def spDepth : Sp := fun vs H Q _ => ∃ (v : V) (k : Kd), vs = [v] ∧ KOk H v k ∧ Q (.int (k.deep : Int)) H
def spIsSingle : Sp := fun vs H Q _ => ∃ (v : V) (k : Kd), vs = [v] ∧ KOk H v k ∧ Q (.bl k.single) H
/-- the law's source of draws: the list at a, its great cells at g; at most n draws so far -/
def SrcAt (H : Hp) (a g : Addr) (n : Nat) : Prop := ∃ (gs : List Int) (i o m c : Int), a ≠ g ∧ H a = some (.lst [.ref g, .int i, .int o, .int m, .int c]) ∧ H g = some (.lst (gs.map V.int)) ∧
  gs.length ≤ 63 ∧ (∀ x ∈ gs, 0 ≤ x) ∧ 0 ≤ i ∧ i ≤ gs.length ∧ 0 ≤ o ∧ 0 ≤ m ∧ m < 10 ^ 18 ∧ 0 ≤ c ∧ c ≤ n
theorem SrcAt.mono {H H' : Hp} {a g : Addr} {n n' : Nat} (h : SrcAt H a g n) (e : Same H H') (l : n ≤ n') : SrcAt H' a g n' := by
  obtain ⟨gs, i, o, m, c, h1, h2, h3, h4, h5, h6, h7, h8, h9, h10, h11, h12⟩ := h
  exact ⟨gs, i, o, m, c, h1, e _ _ h2, e _ _ h3, h4, h5, h6, h7, h8, h9, h10, h11, by omega⟩
theorem SrcAt.le {H : Hp} {a g : Addr} {n n' : Nat} (h : SrcAt H a g n) (l : n ≤ n') : SrcAt H a g n' := h.mono (Same.refl H) l
theorem SrcAt.lst {H : Hp} {a g : Addr} {n : Nat} (h : SrcAt H a g n) : ∃ xs, H a = some (.lst xs) := by
  obtain ⟨gs, i, o, m, c, _, h2, _⟩ := h
  exact ⟨_, h2⟩
theorem SrcAt.ne {H : Hp} {a g p : Addr} {n : Nat} (h : SrcAt H a g n) (hp : H p = none) : p ≠ a ∧ p ≠ g := by
  obtain ⟨gs, i, o, m, c, _, h2, h3, _⟩ := h
  exact ⟨(ne_of_none h2 hp).symm, (ne_of_none h3 hp).symm⟩
theorem SrcAt.upd {H : Hp} {a g p : Addr} {n : Nat} {u : HO} (h : SrcAt H a g n) (na : p ≠ a ∧ p ≠ g) : SrcAt (upd H p u) a g n := by
  obtain ⟨gs, i, o, m, c, h1, h2, h3, rest⟩ := h
  refine ⟨gs, i, o, m, c, h1, ?_, ?_, rest⟩
  · rw [upd_ne na.1.symm]
    exact h2
  · rw [upd_ne na.2.symm]
    exact h3
theorem SrcAt.new {H : Hp} {a g p : Addr} {n : Nat} {u : HO} (h : SrcAt H a g n) (hp : H p = none) : SrcAt (L2.upd H p u) a g n := h.upd (h.ne hp)
def spBegun (K : PySem.W.Frag) : Sp := fun vs H Q _ => ∃ (s : Addr) (ns : List Int), vs = [.ref s] ∧ SqL K H s (ns.map V.int) ∧ ns.length ≤ 63 ∧
  ∀ a g H', Same H H' → H a = none → H g = none → SrcAt H' a g 0 → Q (.ref a) H'
def spPick : Sp := fun vs H Q _ => ∃ (a g : Addr) (m : Int) (n : Nat), vs = [.ref a, .int m] ∧ 0 < m ∧ m < 2 ^ 200 ∧ SrcAt H a g n ∧ n ≤ 1000000 ∧
  ∀ r H', 0 ≤ r → r < m → But a H H' → SrcAt H' a g (n + 1) → Q (.int r) H'
def spAlike (K : PySem.W.Frag) (n : Nat) : Sp := fun vs H Q _ => ∃ (x y : V) (d : PyData), vs = [x, y] ∧ Dp K H x d ∧ Dp K H y d ∧ Gd n d ∧ ∀ H', Same H H' → Q (.bl true) H'
theorem spAlike_0 {K : PySem.W.Frag} {vs : List V} {H : Hp} {Q : VK} {E : XK} (h : spAlike K 0 vs H Q E) : False := by
  obtain ⟨x, y, d, _, _, _, g, _⟩ := h
  exact g
/-- a pool of letters -/
def Pool (t : Str) : Prop := AllLet t ∧ 1 ≤ t.length ∧ t.length ≤ 14
def spPool : Sp := fun vs H Q _ => ∃ (a g : Addr) (n : Nat), vs = [.ref a] ∧ SrcAt H a g n ∧ n ≤ 900000 ∧ ∀ t H', But a H H' → SrcAt H' a g (n + 9) → AllLet t → 1 ≤ t.length → t.length ≤ 7 → Q (.str t) H'
/-- a list of forms -/
def Forms (fs : List Str) : Prop := fs ≠ [] ∧ fs.length ≤ 10 ∧ ∀ f ∈ fs, Form f
def spGrown (n : Nat) : Sp := fun vs H Q _ => ∃ (a g l : Addr) (most deep : Int) (fs : List Str) (t : Str) (c : Nat), vs = [.ref a, .int most, .int deep, .ref l, .str t] ∧ SrcAt H a g c ∧ c + 3 * most.toNat ≤ 900000 ∧ l ≠ a ∧ H l = some (.lst (fs.map V.str)) ∧ Forms fs ∧ Pool t ∧
  1 ≤ most ∧ most ≤ 20 ∧ 1 ≤ deep ∧ deep ≤ n ∧ ∀ v k H', But a H H' → SrcAt H' a g (c + 3 * most.toNat - 2) → KAt H' v k → k.ok → (k.deep : Int) ≤ deep → (k.letters.length : Int) ≤ most → Q v H'
theorem spGrown_0 {vs : List V} {H : Hp} {Q : VK} {E : XK} (h : spGrown 0 vs H Q E) : False := by
  obtain ⟨a, g, l, most, deep, fs, t, c, _, _, _, _, _, _, _, _, _, h1, h2, _⟩ := h
  omega
def spCheckedKinds : Sp := fun vs H Q _ => ∃ (l : Addr) (xs : List V) (ks : List Kd), vs = [.ref l] ∧ H l = some (.lst xs) ∧ All2 (KAt H) xs ks ∧ (∀ k ∈ ks, KB k) ∧ Q (.ref l) H
theorem But.tpsD {d : Addr} {H H' : Hp} {kvs : List (L2.Key × V)} (e : But d H H') (h : H d = some (.dK kvs)) : Tps H H' := fun b ys q => e b _ (ne_of q h (fun z => by cases z)) q
def KsOk (t : List (Str × Kd)) : Prop := ∀ x ∈ t, x.2.ok ∧ x.2.deep ≤ 8
def spMatches (K : PySem.W.Frag) (n : Nat) : Sp := fun vs H Q _ => ∃ (v u : V) (k o : Kd) (d : Addr) (es : List (Str × Addr)) (t : List (Str × Kd)), vs = [v, u, .ref d] ∧ KAt H v k ∧ KAt H u o ∧ k.ok ∧ o.ok ∧ k.deep ≤ n ∧ o.deep ≤ 8 ∧
  H d = some (.dK (es.map DS.entS)) ∧ TabAt H es t ∧ Good t ∧ KsOk t ∧ es.length + k.letters.length ≤ 1000 ∧
  ∀ r es' t' H', But d H H' → H' d = some (.dK (es'.map DS.entS)) → TabAt H' es' t' → Good t' → KsOk t' → es'.length ≤ es.length + k.letters.length → Mat k o t r t' → Q (.bl r) H'
theorem spMatches_0 {K : PySem.W.Frag} {vs : List V} {H : Hp} {Q : VK} {E : XK} (h : spMatches K 0 vs H Q E) : False := by
  obtain ⟨v, u, k, o, d, es, t, _, _, _, _, _, hd, _⟩ := h
  have := k.deep_pos
  omega
def KRow (H : Hp) (v : V) (x : Str × Kd) : Prop := ∃ p u, v = .ref p ∧ H p = some (.tup [.str x.1, u]) ∧ KAt H u x.2
theorem KRow.mono {H H' : Hp} (e : Tps H H') (v : V) (x : Str × Kd) (h : KRow H v x) : KRow H' v x := by
  obtain ⟨p, u, q, h, k⟩ := h
  exact ⟨p, u, q, e _ _ h, k.mono e⟩
/-- a table, ascending -/
def Asc (zs ps : List (Str × Kd)) : Prop := zs.Pairwise (fun e f => e.1.cps.toList < f.1.cps.toList) ∧ ∀ x, x ∈ zs ↔ x ∈ ps
def spPuts : Sp := fun vs H Q _ => ∃ (v u : V) (k o : Kd), vs = [v, u] ∧ KOk H v k ∧ KOk H u o ∧
  (∀ l rows zs ps H', Same H H' → H l = none → H' l = some (.lst rows) → All2 (KRow H') rows zs → prs k o = some ps → Con ps → Asc zs ps → Q (.ref l) H') ∧ (∀ H', Same H H' → (∀ ps, prs k o = some ps → ¬ Con ps) → Q .non H')
structure Txt (w : World) (K : PySem.W.Frag) (mg : Str → Option Value) where
  a_is_letter : Addr
  d_is_letter : FuncData
  F_is_letter : Fun K "is_letter" "is_letter" s_is_letter a_is_letter d_is_letter
  m_is_letter : mg "is_letter" = some (.ref a_is_letter)
  B_is_letter : Binds K d_is_letter P_is_letter []
  a_wrong_part : Addr
  d_wrong_part : FuncData
  F_wrong_part : Fun K "wrong_part" "wrong_part" s_wrong_part a_wrong_part d_wrong_part
  m_wrong_part : mg "wrong_part" = some (.ref a_wrong_part)
  B_wrong_part : Binds K d_wrong_part P_wrong_part []
  a_checked_kind : Addr
  d_checked_kind : FuncData
  F_checked_kind : Fun K "checked_kind" "checked_kind" s_checked_kind a_checked_kind d_checked_kind
  m_checked_kind : mg "checked_kind" = some (.ref a_checked_kind)
  B_checked_kind : Binds K d_checked_kind P_checked_kind []
  a_checked_kinds : Addr
  d_checked_kinds : FuncData
  F_checked_kinds : Fun K "checked_kinds" "checked_kinds" s_checked_kinds a_checked_kinds d_checked_kinds
  m_checked_kinds : mg "checked_kinds" = some (.ref a_checked_kinds)
  B_checked_kinds : Binds K d_checked_kinds P_checked_kinds []
  a_matches : Addr
  d_matches : FuncData
  F_matches : Fun K "matches" "matches" s_matches a_matches d_matches
  m_matches : mg "matches" = some (.ref a_matches)
  B_matches : Binds K d_matches P_matches []
  a_puts : Addr
  d_puts : FuncData
  F_puts : Fun K "puts" "puts" s_puts a_puts d_puts
  m_puts : mg "puts" = some (.ref a_puts)
  B_puts : Binds K d_puts P_puts []
  K_puts : KB0 K d_puts ["kind", "other"] ["other", "kind"] (fun ws => ws.reverse) (fun zs => zs.reverse)
  a_begun : Addr
  d_begun : FuncData
  F_begun : Fun K "_law_begun" "_law_begun" s_begun a_begun d_begun
  m_begun : mg "_law_begun" = some (.ref a_begun)
  B_begun : Binds K d_begun P_begun []
  a_pick : Addr
  d_pick : FuncData
  F_pick : Fun K "_law_pick" "_law_pick" s_pick a_pick d_pick
  m_pick : mg "_law_pick" = some (.ref a_pick)
  B_pick : Binds K d_pick P_pick []
  a_alike : Addr
  d_alike : FuncData
  F_alike : Fun K "_law_alike" "_law_alike" s_alike a_alike d_alike
  m_alike : mg "_law_alike" = some (.ref a_alike)
  B_alike : Binds K d_alike P_alike []
  a_pool : Addr
  d_pool : FuncData
  F_pool : Fun K "_law_pool" "_law_pool" s_pool a_pool d_pool
  m_pool : mg "_law_pool" = some (.ref a_pool)
  B_pool : Binds K d_pool P_pool []
  a_grown : Addr
  d_grown : FuncData
  F_grown : Fun K "_law_grown" "_law_grown" s_grown a_grown d_grown
  m_grown : mg "_law_grown" = some (.ref a_grown)
  B_grown : Binds K d_grown P_grown []
  a_places : Addr
  d_places : FuncData
  F_places : Fun K "_law_places" "_law_places" s_places a_places d_places
  m_places : mg "_law_places" = some (.ref a_places)
  B_places : Binds K d_places P_places []
  a_put : Addr
  d_put : FuncData
  F_put : Fun K "_law_put" "_law_put" s_put a_put d_put
  m_put : mg "_law_put" = some (.ref a_put)
  B_put : Binds K d_put P_put []
  a_table : Addr
  d_table : FuncData
  F_table : Fun K "_law_table" "_law_table" s_table a_table d_table
  m_table : mg "_law_table" = some (.ref a_table)
  B_table : Binds K d_table P_table []
  a_bent : Addr
  d_bent : FuncData
  F_bent : Fun K "_law_bent" "_law_bent" s_bent a_bent d_bent
  m_bent : mg "_law_bent" = some (.ref a_bent)
  B_bent : Binds K d_bent P_bent []
  a_due : Addr
  d_due : FuncData
  F_due : Fun K "_law_due" "_law_due" s_due a_due d_due
  m_due : mg "_law_due" = some (.ref a_due)
  B_due : Binds K d_due P_due []
  a_law : Addr
  d_law : FuncData
  F_law : Fun K "law" "law" s_law a_law d_law
  m_law : mg "law" = some (.ref a_law)
  B_law : Binds K d_law P_law []
  b_bool : mg "bool" = none
  b_int : mg "int" = none
  b_isinstance : mg "isinstance" = none
  b_len : mg "len" = none
  b_list : mg "list" = none
  b_max : mg "max" = none
  b_range : mg "range" = none
  b_set : mg "set" = none
  b_sorted : mg "sorted" = none
  b_str : mg "str" = none
  b_tuple : mg "tuple" = none
  b_zip : mg "zip" = none
  t_LETTERS : Tok
  g_LETTERS : mg "LETTERS" = some (.str "abcdefghijklmnopqrstuvwxyz" t_LETTERS)
  o_TURNS : Addr
  e_TURNS : Array DictEntry
  n_TURNS : Nat
  g_TURNS : mg "TURNS" = some (.ref o_TURNS)
  D_TURNS : KDict K w o_TURNS e_TURNS n_TURNS
  t0_TURNS : Tok
  v0_TURNS : PySem.W.nsIn K o_TURNS "behind" = some (some (.str "ahead" t0_TURNS))
  t1_TURNS : Tok
  v1_TURNS : PySem.W.nsIn K o_TURNS "ahead" = some (some (.str "behind" t1_TURNS))
  t2_TURNS : Tok
  v2_TURNS : PySem.W.nsIn K o_TURNS "with" = some (some (.str "with" t2_TURNS))
end K06

namespace K06
open PySem PySem.Spec PyProof.Rows L2 Ww
section
variable {P : Program} {w : World} {K : PySem.W.Frag} {mg : Str → Option Value} {base : Heap}
theorem ok_is_letter (T : Txt w K mg) : FnOk P w K mg base CX0 (1) T.a_is_letter T.d_is_letter P_is_letter (spIsLetter) := by
  refine T.F_is_letter.ok sc_is_letter (fun vs H Q E h => ?_) (fun cdv A outer s H vs Q E hr h => ⟨_, (pss_one (ps_ret (pe_and (pe_cmpR op_eq (pe_callB call_len_str rfl T.b_len PySem.boot_len (pa_cons (pv 0) pa_nil)) pe_int (nomark _)) (pe_one (pe_cmpR op_in_sign (pv 0) (pe_glob (v := .str _) rfl T.g_LETTERS ⟨_, rfl⟩) rfl))))), ?_⟩)
  · obtain ⟨s, rfl, _⟩ := h
    rfl
  · obtain ⟨s, rfl, hz, q⟩ := h
    refine ⟨_, rfl, s, rfl, sz1 hz, rfl, _, rfl, ?_⟩
    by_cases c : s.length = 1
    · obtain ⟨x, rfl⟩ := str_one c
      refine bt rfl ⟨_, rfl, x, _, rfl, rfl, ?_⟩
      have e : decide (x ∈ (Str.ofString "abcdefghijklmnopqrstuvwxyz").cps.toList) = isLet ⟨#[x]⟩ := by
        rw [isLet_one]
        exact decide_eq_decide.mpr (abc_mem x)
      rw [e]
      exact q
    · refine bf (decide_eq_false fun z => c ?_) ?_
      · have z2 : (s.length : Int) = 1 := V.int.inj z
        omega
      · rw [isLet_many c] at q
        exact q
end
end K06

namespace K06
open PySem PySem.Spec PyProof.Rows L2 Ww
section
variable {P : Program} {w : World} {K : PySem.W.Frag} {mg : Str → Option Value} {base : Heap}
theorem turns (T : Txt w K mg) : ∀ {f : Str}, Form f → ∃ u, PySem.W.nsIn K T.o_TURNS f = some (some u) := by
  rintro f (rfl | rfl | rfl)
  · exact ⟨_, T.v0_TURNS⟩
  · exact ⟨_, T.v1_TURNS⟩
  · exact ⟨_, T.v2_TURNS⟩
theorem ok_wrong_part (T : Txt w K mg) : ∀ n : Nat, FnOk P w K mg base CX0 (n + 1) T.a_wrong_part T.d_wrong_part P_wrong_part (spWrong n)
  | 0 => fn_none fun vs H Q E h => spWrong_0 h
  | n + 1 => by
    have IH := ok_wrong_part T n
    refine T.F_wrong_part.ok sc_wrong_part (fun vs H Q E h => ?_) (fun cdv A outer s H vs Q E hr h => ⟨_, (pss_cons (ps_if (pt_cmpR op_eq (pe_ix ix_tup (pv 0) pe_int (fun _ _ => rfl)) pe_str (nomark _))
    (pss_one (ps_ret (pe_ifExp (pt_val (pe_call (ok_is_letter T) (hr.mono (by first | decide | omega)) rfl T.m_is_letter T.F_is_letter.kp T.B_is_letter .nil pass0 (pa_cons (pe_ix ix_tup (pv 0) pe_int (fun _ _ => rfl)) pa_nil))) pe_non (pv 0))))
    pss_nil)
    (pss_cons (ps_if (pt_cmpR (op_notIn_kd T.D_TURNS) (pe_ix ix_tup (pv 0) pe_int (fun _ _ => rfl)) (pe_glob (v := .ref _) rfl T.g_TURNS rfl) rfl)
    (pss_one (ps_ret (pv 0)))
    pss_nil)
    (pss_cons (ps_set (i := 1) sc_wrong_part.nd rfl (Or.inl rfl) (pe_call IH (hr.mono (by first | decide | omega)) rfl T.m_wrong_part T.F_wrong_part.kp T.B_wrong_part .nil pass0 (pa_cons (pe_ix ix_tup (pv 0) pe_int (fun _ _ => rfl)) pa_nil)))
    (pss_one (ps_ret (pe_ifExp (pt_cmp (pc_isN (pv 1))) (pe_call IH (hr.mono (by first | decide | omega)) rfl T.m_wrong_part T.F_wrong_part.kp T.B_wrong_part .nil pass0 (pa_cons (pe_ix ix_tup (pv 0) pe_int (fun _ _ => rfl)) pa_nil)) (pv 1))))))), ?_⟩)
    · obtain ⟨v, k, rfl, _⟩ := h
      rfl
    · obtain ⟨v, k, rfl, hk, ok, hd, q⟩ := h
      cases k with
      | pl s =>
        obtain ⟨p, rfl, hp⟩ := hk
        refine ⟨_, rfl, p, _, _, _, rfl, rfl, SqT.of hp, at0, rfl, _, rfl, bt rfl ?_⟩
        exact ⟨_, rfl, p, _, _, _, rfl, rfl, SqT.of hp, at1, s, rfl, ok.small, _, rfl, bt (isLet_iff.mpr ok) q⟩
      | nd f a b =>
        obtain ⟨p, x, y, rfl, hp, ha, hb⟩ := hk
        obtain ⟨hf, oa, ob⟩ := ok
        have dm : 1 + max a.deep b.deep ≤ n + 1 := hd
        obtain ⟨u, hu⟩ := turns T hf
        refine ⟨_, rfl, p, _, _, _, rfl, rfl, SqT.of hp, at0, rfl, _, rfl, bf (plain_ne hf) ?_⟩
        refine ⟨_, rfl, p, _, _, _, rfl, rfl, SqT.of hp, at0, f, _, rfl, rfl, hu, _, rfl, bf rfl ?_⟩
        refine ⟨_, rfl, p, _, _, _, rfl, rfl, SqT.of hp, at1, x, a, rfl, ha, oa, by omega, ?_⟩
        refine ⟨_, rfl, _, rfl, bt (decide_eq_true rfl) ?_⟩
        exact ⟨_, rfl, p, _, _, _, rfl, rfl, SqT.of hp, at2, y, b, rfl, hb, ob, by omega, q⟩
end
end K06

namespace K06
open PySem PySem.Spec PyProof.Rows L2 Ww
section
variable {P : Program} {w : World} {K : PySem.W.Frag} {mg : Str → Option Value} {base : Heap}
theorem ok_checked_kind (T : Txt w K mg) : FnOk P w K mg base CX0 (10) T.a_checked_kind T.d_checked_kind P_checked_kind (spChecked) := by
  refine T.F_checked_kind.ok sc_checked_kind (fun vs H Q E h => ?_) (fun cdv A outer s H vs Q E hr h => ⟨_, (pss_cons (ps_set (i := 1) sc_checked_kind.nd rfl (Or.inl rfl) (pe_call (ok_wrong_part T 8) (hr.mono (by first | decide | omega)) rfl T.m_wrong_part T.F_wrong_part.kp T.B_wrong_part .nil pass0 (pa_cons (pv 0) pa_nil)))
    (pss_cons (ps_if (pt_cmp (pc_notN (pv 1)))
    (pss_one ps_never)
    pss_nil)
    (pss_one (ps_ret (pv 0))))), ?_⟩)
  · obtain ⟨v, k, rfl, _⟩ := h
    rfl
  · obtain ⟨v, k, rfl, hk, ok, hd, q⟩ := h
    refine ⟨_, rfl, v, k, rfl, hk, ok, hd, ?_⟩
    exact ⟨_, rfl, _, rfl, bf (by decide) ⟨_, rfl, q⟩⟩
end
end K06

namespace K06
open PySem PySem.Spec PyProof.Rows L2 Ww
section
variable {P : Program} {w : World} {K : PySem.W.Frag} {mg : Str → Option Value} {base : Heap}
theorem ok_checked_kinds (T : Txt w K mg) : FnOk P w K mg base CX0 (11) T.a_checked_kinds T.d_checked_kinds P_checked_kinds (spCheckedKinds) := by
  refine T.F_checked_kinds.ok sc_checked_kinds (fun vs H Q E h => ?_) (fun cdv A outer s H vs Q E hr h => ⟨_, (pss_cons (ps_for PassesOwn.never rfl (pi_list (pv 0)) (pg_name (i := 1) sc_checked_kinds.nd rfl (Or.inl rfl))
    (pss_one (ps_expr (pe_call (ok_checked_kind T) (hr.mono (by first | decide | omega)) rfl T.m_checked_kind T.F_checked_kind.kp T.B_checked_kind .nil pass0 (pa_cons (pv 1) pa_nil)))))
    (pss_one (ps_ret (pv 0)))), ?_⟩)
  · obtain ⟨l, xs, ks, rfl, _⟩ := h
    rfl
  · obtain ⟨l, xs, ks, rfl, hl, hks, hb, q⟩ := h
    refine ⟨_, rfl, l, rfl, ⟨xs, SqL.of hl⟩, for_list (xs := xs) (fun i σ H' => ∃ o, σ = [some (.ref l), o] ∧ H' = H) ⟨none, rfl, rfl⟩ (fun i σ H' _ ⟨_, _, e⟩ => by subst e; exact SqL.of hl) ?_ ?_⟩
    · rintro i x σ H' hx ⟨o, rfl, rfl⟩
      obtain ⟨k, hk, r⟩ := hks.get hx
      have b := hb k (List.mem_of_getElem? hk)
      exact ⟨_, rfl, x, k, rfl, r, b.1, b.2.1, _, rfl, rfl⟩
    · rintro σ H' ⟨o, rfl, rfl⟩
      exact ⟨_, rfl, q⟩
end
end K06

namespace K06
open PySem PySem.Spec PyProof.Rows L2 Ww
section
variable {P : Program} {w : World} {K : PySem.W.Frag} {mg : Str → Option Value} {base : Heap}
theorem mat_nd {f : Str} {a b c d : Kd} {t t1 t2 : List (Str × Kd)} {r : Bool} (m1 : Mat a c t true t1) (m2 : Mat b d t1 r t2) : Mat (.nd f a b) (.nd f c d) t r t2 := by
  obtain ⟨ps1, e1, c1, i1⟩ := m1.1 rfl
  have pe : prs (.nd f a b) (.nd f c d) = (match prs a c, prs b d with
    | some x, some y => some (x ++ y)
    | _, _ => none) := if_pos rfl
  refine ⟨fun hr => ?_, fun hr ps hp hc => ?_⟩
  · obtain ⟨ps2, e2, c2, i2⟩ := m2.1 hr
    refine ⟨ps1 ++ ps2, by rw [pe, e1, e2], c2.sub fun x hx => ?_, fun x => ?_⟩
    · rw [← List.append_assoc] at hx
      rcases List.mem_append.mp hx with z | z
      · exact List.mem_append_left _ ((i1 x).2 z)
      · exact List.mem_append_right _ z
    · rw [i2 x, List.mem_append, i1 x, ← List.append_assoc, List.mem_append (s := t ++ ps1)]
  · rw [pe, e1] at hp
    cases e2 : prs b d with
    | none =>
      rw [e2] at hp
      cases hp
    | some y =>
      rw [e2] at hp
      have ep : ps1 ++ y = ps := Option.some.inj hp
      subst ep
      refine m2.2 hr y e2 (hc.sub fun x hx => ?_)
      rw [← List.append_assoc]
      rcases List.mem_append.mp hx with z | z
      · exact List.mem_append_left _ ((i1 x).1 z)
      · exact List.mem_append_right _ z
theorem mat_nd0 {f : Str} {a b c d : Kd} {t t1 : List (Str × Kd)} (m1 : Mat a c t false t1) : Mat (.nd f a b) (.nd f c d) t false t1 := by
  have pe : prs (.nd f a b) (.nd f c d) = (match prs a c, prs b d with
    | some x, some y => some (x ++ y)
    | _, _ => none) := if_pos rfl
  refine ⟨(fun z => nomatch z), fun _ ps hp hc => ?_⟩
  rw [pe] at hp
  cases e1 : prs a c with
  | none =>
    rw [e1] at hp
    cases hp
  | some x =>
    cases e2 : prs b d with
    | none =>
      rw [e1, e2] at hp
      cases hp
    | some y =>
      rw [e1, e2] at hp
      have ep : x ++ y = ps := Option.some.inj hp
      subst ep
      refine m1.2 rfl x e1 (hc.sub fun z hz => ?_)
      rcases List.mem_append.mp hz with z | z
      · exact List.mem_append_left _ z
      · exact List.mem_append_right _ (List.mem_append_left _ z)
theorem kd_shaped {k : Kd} (ok : k.ok) (h : k.deep ≤ 8) : SeqAt.shaped k.dat = true := by
  show (k.dat.canLay0 && decide (k.dat.depth ≤ 64)) = true
  rw [k.lay ok, k.dat_depth, decide_eq_true (by omega)]
  rfl
theorem ok_matches (T : Txt w K mg) : ∀ n : Nat, FnOk P w K mg base CX0 (n + 1) T.a_matches T.d_matches P_matches (spMatches K n)
  | 0 => fn_none fun vs H Q E h => spMatches_0 h
  | n + 1 => by
    have IH := ok_matches T n
    refine T.F_matches.ok sc_matches (fun vs H Q E h => ?_) (fun cdv A outer s H vs Q E hr h => ⟨_, (pss_cons (ps_if (pt_cmpR op_eq (pe_ix ix_tup (pv 0) pe_int (fun _ _ => rfl)) pe_str (nomark _))
    (pss_one (ps_ret (pe_cmpR (op_eqD (hu64 hr)) (pe_dsetd (pv 2) (pe_ix ix_tup (pv 0) pe_int (fun _ _ => rfl)) (pv 1) ⟨rfl, rfl, rfl, rfl⟩) (pv 1) (nomark _))))
    pss_nil)
    (pss_cons (ps_if (pt_cmpR op_ne (pe_ix ix_tup (pv 0) pe_int (fun _ _ => rfl)) (pe_ix ix_tup (pv 1) pe_int (fun _ _ => rfl)) (nomark _))
    (pss_one (ps_ret pe_bl))
    pss_nil)
    (pss_one (ps_ret (pe_and (pe_call IH (hr.mono (by first | decide | omega)) rfl T.m_matches T.F_matches.kp T.B_matches .nil pass0 (pa_cons (pe_ix ix_tup (pv 0) pe_int (fun _ _ => rfl)) (pa_cons (pe_ix ix_tup (pv 1) pe_int (fun _ _ => rfl)) (pa_cons (pv 2) pa_nil)))) (pe_one (pe_call IH (hr.mono (by first | decide | omega)) rfl T.m_matches T.F_matches.kp T.B_matches .nil pass0 (pa_cons (pe_ix ix_tup (pv 0) pe_int (fun _ _ => rfl)) (pa_cons (pe_ix ix_tup (pv 1) pe_int (fun _ _ => rfl)) (pa_cons (pv 2) pa_nil)))))))))), ?_⟩)
    · obtain ⟨v, u, k, o, d, es, t, rfl, _⟩ := h
      rfl
    · obtain ⟨v, u, k, o, d, es, t, rfl, hk, ho, ok, oo, hd, hod, htab, ht, hg, hks, hsz, q⟩ := h
      cases k with
      | pl s =>
        obtain ⟨p, rfl, hp⟩ := hk
        refine ⟨_, rfl, p, _, _, _, rfl, rfl, SqT.of hp, at0, rfl, _, rfl, bt rfl ?_⟩
        have lsz : es.length + 1 ≤ 1000 := hsz
        have dpo := ho.dp (K := K)
        obtain ⟨pu, rfl⟩ := ho.ref
        refine ⟨_, rfl, d, rfl, .inl ⟨_, .inl htab⟩, _, rfl, p, _, _, _, rfl, rfl, SqT.of hp, at1, _, rfl, _, .inr s, htab, rfl, sz2 (by rw [List.length_map]; omega), fun x hx => ?_, fun hn => ?_⟩
        · rcases ht.val s with ⟨px, kx, hv, hmem, hkx⟩ | ⟨hv, _⟩
          · have ex : x = .ref px := Option.some.inj (hx.symm.trans hv)
            subst ex
            have okx := hks _ hmem
            refine ⟨_, rfl, kx.dat, o.dat, hkx.dp, dpo, kd_shaped okx.1 okx.2, kd_shaped oo hod, ?_⟩
            refine q _ es t H (But.refl d H) htab ht hg hks (by omega) ⟨fun hr => ?_, fun hr ps hps hc => ?_⟩
            · have e := (kd_eqv _ _).1 hr
              subst e
              refine ⟨[(s, kx)], rfl, (nodup_con hg).sub fun y hy => ?_, fun y => ⟨List.mem_append_left _, fun hy => ?_⟩⟩
              · rcases List.mem_append.mp hy with z | z
                · exact z
                · rw [List.mem_singleton] at z
                  rw [z]
                  exact hmem
              · rcases List.mem_append.mp hy with z | z
                · exact z
                · rw [List.mem_singleton] at z
                  rw [z]
                  exact hmem
            · have ep : [(s, o)] = ps := Option.some.inj hps
              subst ep
              have e := hc s kx o (List.mem_append_left _ hmem) (List.mem_append_right _ (List.mem_singleton.mpr rfl))
              rw [(kd_eqv _ _).2 e] at hr
              cases hr
          · rw [hx] at hv
            cases hv
        · rcases ht.val s with ⟨px, kx, hv, hmem, hkx⟩ | ⟨hv, hnm⟩
          · rw [hn] at hv
            cases hv
          · have ek : putK (es.map DS.entS) (.inr s) (.ref pu) = (es ++ [(s, pu)]).map DS.entS := by
              rw [putK_new _ hn, List.map_append]
              rfl
            rw [ek]
            have tp : Tps H (upd H d (.dK ((es ++ [(s, pu)]).map DS.entS))) := But.tpsD But.upd htab
            have dpo' := (ho.mono tp).dp (K := K)
            refine ⟨_, rfl, o.dat, o.dat, dpo', dpo', kd_shaped oo hod, kd_shaped oo hod, ?_⟩
            have ev : PyData.eqv o.dat o.dat = true := (kd_eqv _ _).2 rfl
            rw [ev]
            have g' : Good (t ++ [(s, o)]) := by
              show ((t ++ [(s, o)]).map (·.1)).Nodup
              rw [List.map_append, List.nodup_append]
              refine ⟨hg, by simp, fun x hx y hy e => ?_⟩
              have ey : y = s := by simpa using hy
              rw [e, ey] at hx
              exact hnm hx
            refine q true (es ++ [(s, pu)]) (t ++ [(s, o)]) _ But.upd upd_same (All2.snoc ⟨rfl, ho.mono tp⟩ (ht.mono tp)) g' (fun x hx => ?_) (by rw [List.length_append]; exact Nat.le_refl _) ⟨fun _ => ⟨[(s, o)], rfl, nodup_con g', fun x => Iff.rfl⟩, fun z => nomatch z⟩
            rcases List.mem_append.mp hx with z | z
            · exact hks x z
            · rw [List.mem_singleton] at z
              subst z
              exact ⟨oo, hod⟩
      | nd f a b =>
        obtain ⟨p, x, y, rfl, hp, ha, hb⟩ := hk
        obtain ⟨hf, oa, ob⟩ := ok
        have dm : 1 + max a.deep b.deep ≤ n + 1 := hd
        have lz : es.length + (a.letters ++ b.letters).length ≤ 1000 := hsz
        rw [List.length_append] at lz
        refine ⟨_, rfl, p, _, _, _, rfl, rfl, SqT.of hp, at0, rfl, _, rfl, bf (plain_ne hf) ?_⟩
        cases o with
        | pl s2 =>
          obtain ⟨p2, rfl, hp2⟩ := ho
          refine ⟨_, rfl, p, _, _, _, rfl, rfl, SqT.of hp, at0, _, rfl, p2, _, _, _, rfl, rfl, SqT.of hp2, at0, rfl, _, rfl, bt (by rw [plain_ne hf]; rfl) ?_⟩
          exact q false es t H (But.refl d H) htab ht hg hks (by omega) ⟨(fun z => nomatch z), fun _ ps z => nomatch z⟩
        | nd g c e =>
          obtain ⟨p2, x2, y2, rfl, hp2, hc2, he2⟩ := ho
          obtain ⟨hgf, oc, oe⟩ := oo
          have dm2 : 1 + max c.deep e.deep ≤ 8 := hod
          refine ⟨_, rfl, p, _, _, _, rfl, rfl, SqT.of hp, at0, _, rfl, p2, _, _, _, rfl, rfl, SqT.of hp2, at0, rfl, _, rfl, bb (fun cc => ?_) (fun cc => ?_)⟩
          · have ne : ¬ f = g := fun z => by
              subst z
              rw [decide_eq_true rfl] at cc
              cases cc
            refine q false es t H (But.refl d H) htab ht hg hks (by omega) ⟨(fun z => nomatch z), fun _ ps z => ?_⟩
            have : prs (.nd f a b) (.nd g c e) = none := if_neg ne
            rw [this] at z
            cases z
          · have eq : f = g := by
              have c2 := of_decide_eq_true (show decide (V.str f = V.str g) = true by simpa using cc)
              exact V.str.inj c2
            subst eq
            refine ⟨_, rfl, p, _, _, _, rfl, rfl, SqT.of hp, at1, _, rfl, p2, _, _, _, rfl, rfl, SqT.of hp2, at1, _, rfl, x, x2, a, c, d, es, t, rfl, ha, hc2, oa, oc, by omega, by omega, htab, ht, hg, hks, by omega, fun r1 es1 t1 H1 b1 h1 ta1 g1 ks1 l1 m1 => ⟨_, rfl, ?_⟩⟩
            have tp := But.tpsD b1 htab
            cases r1 with
            | false => exact bf rfl (q false es1 t1 H1 b1 h1 ta1 g1 ks1 (by rw [show (Kd.nd f a b).letters = a.letters ++ b.letters from rfl, List.length_append]; omega) (mat_nd0 m1))
            | true =>
              refine bt rfl ?_
              refine ⟨_, rfl, p, _, _, _, rfl, rfl, SqT.of (tp _ _ hp), at2, _, rfl, p2, _, _, _, rfl, rfl, SqT.of (tp _ _ hp2), at2, _, rfl, y, y2, b, e, d, es1, t1, rfl, hb.mono tp, he2.mono tp, ob, oe, by omega, by omega, h1, ta1, g1, ks1, by omega, fun r2 es2 t2 H2 b2 h2 ta2 g2 ks2 l2 m2 => ?_⟩
              exact q r2 es2 t2 H2 (b1.trans b2) h2 ta2 g2 ks2 (by rw [show (Kd.nd f a b).letters = a.letters ++ b.letters from rfl, List.length_append]; omega) (mat_nd m1 m2)
end
end K06

namespace K06
open PySem PySem.Spec PyProof.Rows L2 Ww
section
variable {P : Program} {w : World} {K : PySem.W.Frag} {mg : Str → Option Value} {base : Heap}
theorem all2_of {α β : Type} {R : α → β → Prop} : ∀ {xs : List α}, (∀ x ∈ xs, ∃ y, R x y) → ∃ ys, All2 R xs ys
  | [], _ => ⟨[], trivial⟩
  | x :: xs, h => by
    obtain ⟨y, hy⟩ := h x List.mem_cons_self
    obtain ⟨ys, hys⟩ := all2_of fun z hz => h z (List.mem_cons_of_mem _ hz)
    exact ⟨y :: ys, hy, hys⟩
theorem all2_map {α β γ : Type} {R : α → β → Prop} (f : α → γ) (g : β → γ) (e : ∀ x y, R x y → f x = g y) : ∀ {xs : List α} {ys : List β}, All2 R xs ys → xs.map f = ys.map g
  | [], [], _ => rfl
  | _ :: _, _ :: _, h => by rw [List.map_cons, List.map_cons, e _ _ h.1, all2_map f g e h.2]
  | [], _ :: _, h => h.elim
  | _ :: _, [], h => h.elim
theorem all2_back {α β : Type} {R : α → β → Prop} : ∀ {xs : List α} {ys : List β}, All2 R xs ys → ∀ y ∈ ys, ∃ x ∈ xs, R x y
  | [], [], _, y, h => nomatch h
  | x :: _, y :: _, h, z, hz => by
    rcases List.mem_cons.mp hz with rfl | hz
    · exact ⟨x, List.mem_cons_self, h.1⟩
    · obtain ⟨w, a, b⟩ := all2_back h.2 z hz
      exact ⟨w, List.mem_cons_of_mem _ a, b⟩
  | [], _ :: _, h, _, _ => h.elim
  | _ :: _, [], h, _, _ => h.elim
/-- the told rows of a table -/
theorem rows_of {H H' : Hp} {es : List (Str × Addr)} {t : List (Str × Kd)} {ps : List (Addr × Str × Addr)} (e : Same H H') (ht : TabAt H es t) (g : Good t) (perm : (ps.map (·.2)).Perm es) (srt : (ps.map (·.2)).Pairwise (fun e f => e.1.cps.toList < f.1.cps.toList))
    (hz : ∀ z ∈ ps, H' z.1 = some (.tup [.str z.2.1, .ref z.2.2])) : ∃ zs, All2 (KRow H') (ps.map fun z => V.ref z.1) zs ∧ Asc zs t := by
  have one : ∀ z ∈ ps, ∃ x : Str × Kd, z.2.1 = x.1 ∧ x ∈ t ∧ KRow H' (.ref z.1) x := fun z hzm => by
    have m : z.2 ∈ es := perm.mem_iff.mp (List.mem_map_of_mem hzm)
    obtain ⟨x, hx, h1, h2⟩ := All2.mem ht m
    exact ⟨x, h1, hx, z.1, _, rfl, by rw [← h1]; exact hz z hzm, h2.mono (.of e)⟩
  obtain ⟨zs, hzs⟩ := all2_of one
  have names : ps.map (fun z => z.2.1) = zs.map (·.1) := all2_map _ _ (fun _ _ h => h.1) hzs
  have rows : ∀ {ps : List (Addr × Str × Addr)} {zs : List (Str × Kd)}, All2 (fun (z : Addr × Str × Addr) (x : Str × Kd) => z.2.1 = x.1 ∧ x ∈ t ∧ KRow H' (.ref z.1) x) ps zs → All2 (KRow H') (ps.map fun z => V.ref z.1) zs := by
    intro ps
    induction ps with
    | nil =>
      intro zs h
      cases zs with
      | nil => trivial
      | cons _ _ => exact h.elim
    | cons p ps ih =>
      intro zs h
      cases zs with
      | nil => exact h.elim
      | cons z zs => exact ⟨h.1.2.2, ih h.2⟩
  refine ⟨zs, rows hzs, ?_, fun x => ⟨fun hx => ?_, fun hx => ?_⟩⟩
  · have h1 : (zs.map (·.1)).Pairwise fun a b : Str => a.cps.toList < b.cps.toList := by
      rw [← names]
      rw [List.pairwise_map] at srt ⊢
      exact srt
    rw [List.pairwise_map] at h1
    exact h1
  · obtain ⟨z, _, r⟩ := all2_back hzs x hx
    exact r.2.1
  · have hk : x.1 ∈ es.map (·.1) := by
      rw [ht.keys]
      exact List.mem_map_of_mem hx
    obtain ⟨e0, he0, ee⟩ := List.mem_map.mp hk
    obtain ⟨z, hz1, ez⟩ := List.mem_map.mp (perm.mem_iff.mpr he0)
    obtain ⟨y, hy, r1, r2, r3⟩ := All2.mem hzs hz1
    have e1 : y.1 = x.1 := by rw [← r1, ez, ee]
    have e2 : y.2 = x.2 := nodup_con g x.1 y.2 x.2 (by rw [← e1]; exact r2) hx
    have e3 : y = x := Prod.ext e1 e2
    rw [← e3]
    exact hy
theorem ok_puts (T : Txt w K mg) : FnOk P w K mg base CX0 (12) T.a_puts T.d_puts P_puts (spPuts) := by
  refine T.F_puts.ok sc_puts (fun vs H Q E h => ?_) (fun cdv A outer s H vs Q E hr h => ⟨_, (pss_cons (ps_expr (pe_call (ok_checked_kinds T) (hr.mono (by first | decide | omega)) rfl T.m_checked_kinds T.F_checked_kinds.kp T.B_checked_kinds .nil pass0 (pa_cons (pe_lst (pa_cons (pv 0) (pa_cons (pv 1) pa_nil))) pa_nil)))
    (pss_cons (ps_set (i := 2) sc_puts.nd rfl (Or.inl rfl) pe_dnewK)
    (pss_one (ps_ret (pe_ifExp (pt_val (pe_call (ok_matches T 8) (hr.mono (by first | decide | omega)) rfl T.m_matches T.F_matches.kp T.B_matches .nil pass0 (pa_cons (pv 0) (pa_cons (pv 1) (pa_cons (pv 2) pa_nil))))) (pe_callB (DS.cr_sortedItemsK rfl (hu64 hr)) rfl T.b_sorted (by decide +kernel) (pa_cons (pe_bm0 PySem.F.plainAttrs_dict PySem.F.slot_dict_items PySem.F.type_dict_items DS.mt_itemsK (pv 2)) pa_nil)) pe_non))))), ?_⟩)
  · obtain ⟨v, u, k, o, rfl, _⟩ := h
    rfl
  · obtain ⟨v, u, k, o, rfl, hk, ho, q1, q2⟩ := h
    refine ⟨_, rfl, _, rfl, sz1 (by show 2 ≤ 1000000; decide), fun l nl => ?_⟩
    have e1 := same_new nl (.lst [v, u])
    have hl := upd_same (H := H) (a := l) (o := .lst [v, u])
    generalize upd H l (.lst [v, u]) = H1 at e1 hl
    refine ⟨l, [v, u], [k, o], rfl, hl, ⟨hk.1.mono (.of e1), ho.1.mono (.of e1), trivial⟩, fun x hx => ?_, fun d nd => ?_⟩
    · simp only [List.mem_cons, List.not_mem_nil, or_false] at hx
      rcases hx with rfl | rfl
      · exact hk.2
      · exact ho.2
    · have e2 := e1.trans (same_new nd (.dK []))
      have hd := upd_same (H := H1) (a := d) (o := .dK [])
      have ndH := e1.free nd
      generalize upd H1 d (.dK []) = H2 at e2 hd
      have lz := hk.2.2.2
      refine ⟨_, rfl, _, rfl, _, rfl, v, u, k, o, d, [], [], rfl, hk.1.mono (.of e2), ho.1.mono (.of e2), hk.2.1, ho.2.1, hk.2.2.1, ho.2.2.1, hd, trivial, List.nodup_nil, (fun _ z => nomatch z), by show 0 + _ ≤ _; omega, fun r es t H3 b3 hd3 ht3 g3 ks3 l3 m3 => ⟨_, rfl, ?_⟩⟩
      have e3 : Same H H3 := fun b x hx => b3 b x (ne_of_none hx ndH) (e2 b x hx)
      cases r with
      | false => exact bf rfl (q2 H3 e3 (fun ps hp hc => m3.2 rfl ps hp hc))
      | true =>
        obtain ⟨ps, hps, hc, hi⟩ := m3.1 rfl
        refine bt rfl ?_
        refine ⟨_, rfl, .inr (.inr (.inl ⟨rfl, .inl ⟨_, hd3⟩⟩)), d, _, rfl, rfl, hd3, fun p np => ?_⟩
        have e4 := same_new np (DX.itemsO p d)
        have l60 : es.length ≤ 60 := by
          have : es.length ≤ 0 + k.letters.length := l3
          omega
        refine ⟨p, d, es, rfl, upd_same, e4 _ _ hd3, by omega, by rw [ht3.keys]; exact g3, fun H5 l5 zs e5 nl5 perm srt hl5 hz5 => ?_⟩
        have e45 := e4.trans e5
        obtain ⟨rs, w1, w2⟩ := rows_of e45 ht3 g3 perm srt hz5
        refine q1 l5 _ rs ps H5 (e3.trans e45) ((e3.trans e4).free nl5) hl5 w1 hps hc ⟨w2.1, fun x => (w2.2 x).trans (hi x)⟩
end
end K06

namespace K06
open PySem PySem.Spec PyProof.Rows L2 Ww
section
variable {P : Program} {w : World} {K : PySem.W.Frag} {mg : Str → Option Value} {base : Heap}
theorem ok_begun (T : Txt w K mg) : FnOk P w K mg base CX0 (1) T.a_begun T.d_begun P_begun (spBegun K) := by
  refine T.F_begun.ok sc_begun (fun vs H Q E h => ?_) (fun cdv A outer s H vs Q E hr h => ⟨_, (pss_cons (ps_par (i := 1) (j := 2) rfl sc_begun.nd rfl rfl (by decide) rfl rfl (pa_cons (pe_lst pa_nil) (pa_cons pe_int pa_nil)) rfl)
    (pss_cons (ps_for PassesOwn.never rfl (pi_range1 rfl T.b_range (pa_cons (pe_callB call_len_seq rfl T.b_len PySem.boot_len (pa_cons (pv 0) pa_nil)) pa_nil)) (pg_name (i := 3) sc_begun.nd rfl (Or.inl rfl))
    (pss_one (ps_if (pt_cmpR op_ge (pe_ix ix_list (pv 0) (pv 3) (fun _ _ => rfl)) (pe_op op_pow pe_int pe_int) (nomark _))
    (pss_one (ps_expr (pe_bm PySem.F.plainAttrs_list PySem.F.slot_list_append PySem.F.type_list_append mt_append (pv 1) (pa_cons (pe_op op_sub (pe_ix ix_list (pv 0) (pv 3) (fun _ _ => rfl)) (pe_op op_pow pe_int pe_int)) pa_nil))))
    (pss_one (ps_set (i := 2) sc_begun.nd rfl (Or.inl rfl) (pe_op op_mod (pe_callTy call_int1 (by rfl) T.b_int (by decide +kernel) (pa_cons (pe_op op_add (pe_op op_pow (pe_op op_add (pe_op op_add (pv 2) (pe_op op_mod (pe_callTy call_int1 (by rfl) T.b_int (by decide +kernel) (pa_cons (pe_ix ix_list (pv 0) (pv 3) (fun _ _ => rfl)) pa_nil)) pe_int)) (pe_op op_mul pe_int (pv 3))) pe_int) (pv 3)) pa_nil)) pe_int))))))
    (pss_one (ps_ret (pe_lst (pa_cons (pv 1) (pa_cons pe_int (pa_cons pe_int (pa_cons (pv 2) (pa_cons pe_int pa_nil)))))))))), ?_⟩)
  · obtain ⟨a, ns, rfl, _⟩ := h
    rfl
  · obtain ⟨a, ns, rfl, hS, h63, q⟩ := h
    refine ⟨sz1 (by show 0 ≤ 1000000; decide), fun g hg => ⟨_, _, rfl, ?_⟩⟩
    have g1 : Same H (upd H g (.lst [])) := same_new hg _
    refine ⟨_, rfl, a, _, rfl, .inl (g1.seq hS), _, rfl, ?_, ?_, for_range (lo := 0) (fun i σ H' => ∃ (v3 : Option V) (gs : List Int) (m : Int), σ = [some (.ref a), some (.ref g), some (.int m), v3] ∧ Same H H' ∧ H' g = some (.lst (gs.map V.int)) ∧
      gs.length ≤ i ∧ (∀ x ∈ gs, 0 ≤ x) ∧ 0 ≤ m ∧ m < 10 ^ 18) ⟨none, [], _, rfl, g1, upd_same, Nat.le_refl 0, (fun _ z => nomatch z), by decide, by decide⟩ ?_ ?_⟩
    · rw [List.length_map]; omega
    · rw [List.length_map]; omega
    · rintro i σ H1 hi ⟨v3, gs, m, rfl, e1, hgs, hl, hpos, m0, m1⟩
      have hi' : i < ns.length := by
        rw [List.length_map] at hi
        omega
      obtain ⟨x, hx, _⟩ := ati hi'
      have hS1 := e1.seq hS
      refine ⟨_, rfl, _, rfl, a, _, _, _, rfl, rfl, hS1, hx, _, _, rfl, rfl, ⟨by decide, by decide, by decide⟩, _, _, rfl, rfl, _, rfl, bb (fun c => ?_) (fun c => ?_)⟩
      · refine ⟨_, rfl, .inl ⟨rfl, _, SqL.of hgs⟩, _, rfl, _, rfl, a, _, _, _, rfl, rfl, hS1, hx, _, _, rfl, rfl, ⟨by decide, by decide, by decide⟩, _, _, rfl, rfl, g, _, _, rfl, rfl, hgs, sz2 (by rw [List.length_map]; omega), ?_⟩
        refine ⟨_, gs ++ [x - 10 ^ (18 : Int).toNat], m, rfl, same_mut e1 hg _, ?_, ?_, ?_, m0, m1⟩
        · rw [upd_same, List.map_append]
          rfl
        · rw [List.length_append]
          exact Nat.succ_le_succ hl
        · intro y hy
          rcases List.mem_append.mp hy with z | z
          · exact hpos y z
          · rw [List.mem_singleton] at z
            rw [z]
            exact Int.sub_nonneg_of_le (of_decide_eq_true c)
      · have x0 : 0 ≤ x % 10000000000037 := Int.emod_nonneg _ (by decide)
        have x1 : x % 10000000000037 < 10000000000037 := Int.emod_lt_of_pos _ (by decide)
        refine ⟨_, rfl, _, rfl, _, rfl, a, _, _, _, rfl, rfl, hS1, hx, .inl ⟨_, rfl, _, _, rfl, rfl, (show (0 : Int) < 10000000000037 by decide), _, _, rfl, rfl, _, rfl, _, _, rfl, rfl, .inl ⟨by decide, by decide⟩, _, _, rfl, rfl, _, _, rfl, rfl, ⟨by decide, by decide, ?_⟩, _, rfl, _, _, rfl, rfl, .inl ⟨_, rfl, _, _, rfl, rfl, (show (0 : Int) < 999999999999999989 by decide), ?_⟩⟩⟩
        · show (m + x % 10000000000037 + 911 * ((0 : Int) + (i : Int))).natAbs < 2 ^ 64
          omega
        · exact ⟨_, gs, _, rfl, e1, hgs, by omega, hpos, Int.emod_nonneg _ (by decide), Int.lt_trans (Int.emod_lt_of_pos _ (by decide)) (by decide)⟩
    · rintro σ H1 ⟨v3, gs, m, rfl, e1, hgs, hl, hpos, m0, m1⟩
      rw [List.length_map] at hl
      refine ⟨_, rfl, _, rfl, sz1 (by show 5 ≤ 1000000; decide), fun p hp => ?_⟩
      exact q p g _ (e1.trans (same_new hp _)) (e1.free hp) hg ⟨gs, 0, 0, m, 0, (ne_of_none hgs hp).symm, upd_same, same_new hp _ _ _ hgs, by omega, hpos, Int.le_refl 0, by omega, Int.le_refl 0, m0, m1, Int.le_refl 0, Int.le_refl 0⟩
end
end K06

namespace K06
open PySem PySem.Spec PyProof.Rows L2 Ww
section
variable {P : Program} {w : World} {K : PySem.W.Frag} {mg : Str → Option Value} {base : Heap}
theorem ok_pick (T : Txt w K mg) : FnOk P w K mg base CX0 (1) T.a_pick T.d_pick P_pick (spPick) := by
  refine T.F_pick.ok sc_pick (fun vs H Q E h => ?_) (fun cdv A outer s H vs Q E hr h => ⟨_, (Evl.pss_cut (ps_if (PW.pt (pw_and (pt_cmpR op_eq (pe_ix ix_list (pv 0) pe_int (fun _ _ => rfl)) pe_int (nomark _)) (pw_and1 (pt_cmpR op_lt (pe_ix ix_list (pv 0) pe_int (fun _ _ => rfl)) (pe_callB call_len_seq rfl T.b_len PySem.boot_len (pa_cons (pe_ix ix_list (pv 0) pe_int (fun _ _ => rfl)) pa_nil)) (nomark _)))))
    (pss_cons (ps_asg (pe_ix ix_list (pe_ix ix_list (pv 0) pe_int (fun _ _ => rfl)) (pe_ix ix_list (pv 0) pe_int (fun _ _ => rfl)) (fun _ _ => rfl)) (pg_sub (pv 0) pe_int set_list))
    (pss_one (ps_asg (pe_op op_add (pe_ix ix_list (pv 0) pe_int (fun _ _ => rfl)) pe_int) (pg_sub (pv 0) pe_int set_list))))
    pss_nil)
    (pss_cons (ps_if (pt_cmpR op_gt (pe_ix ix_list (pv 0) pe_int (fun _ _ => rfl)) pe_int (nomark _))
    (pss_cons (ps_set (i := 2) sc_pick.nd rfl (Or.inl rfl) (pe_op op_mod (pe_callTy call_int1 (by rfl) T.b_int (by decide +kernel) (pa_cons (pe_ix ix_list (pv 0) pe_int (fun _ _ => rfl)) pa_nil)) (pv 1)))
    (pss_cons (ps_asg (pe_op op_fdivW (pe_ix ix_list (pv 0) pe_int (fun _ _ => rfl)) (pv 1)) (pg_sub (pv 0) pe_int set_list))
    (pss_one (ps_ret (pv 2)))))
    pss_nil)
    (pss_cons (ps_asg (pe_op op_add (pe_ix ix_list (pv 0) pe_int (fun _ _ => rfl)) pe_int) (pg_sub (pv 0) pe_int set_list))
    (pss_cons (ps_set (i := 3) sc_pick.nd rfl (Or.inl rfl) (pe_op op_mod (pe_callTy call_int1 (by rfl) T.b_int (by decide +kernel) (pa_cons (pe_op op_pow (pe_op op_add (pe_ix ix_list (pv 0) pe_int (fun _ _ => rfl)) (pe_op op_mulW (pe_op op_mulW pe_int (pe_ix ix_list (pv 0) pe_int (fun _ _ => rfl))) (pe_ix ix_list (pv 0) pe_int (fun _ _ => rfl)))) pe_int) pa_nil)) pe_int))
    (pss_one (ps_ret (pe_op op_mod (pe_op op_fdivW (pe_op op_mod (pe_callTy call_int1 (by rfl) T.b_int (by decide +kernel) (pa_cons (pe_op op_mulW (pv 3) (pe_op op_add (pv 3) pe_int)) pa_nil)) pe_int) pe_int) (pv 1)))))))), ?_⟩)
  · obtain ⟨a, g, m, n, rfl, _⟩ := h
    rfl
  · obtain ⟨a, g, many, n, rfl, m0, m1, hs, hn, q⟩ := h
    have log : CDivW 0 many := wide_div (b := 200) m0 (by omega) (by decide) (by decide)
    refine ⟨fun σ H1 => σ = [some (.ref a), some (.int many), none, none] ∧ But a H H1 ∧ SrcAt H1 a g n, ?_, ?_⟩
    · obtain ⟨gs, i, o, m, c, ne, ha, hg, h63, hpos, i0, i1, o0, mm0, mm1, c0, c1⟩ := hs
      have keep : SrcAt H a g n := ⟨gs, i, o, m, c, ne, ha, hg, h63, hpos, i0, i1, o0, mm0, mm1, c0, c1⟩
      refine ⟨_, rfl, a, _, _, _, rfl, rfl, SqL.of ha, at2, rfl, _, rfl, bb (fun _ => ?_) (fun _ => bf rfl ⟨rfl, But.refl a H, keep⟩)⟩
      refine ⟨_, rfl, a, _, _, _, rfl, rfl, SqL.of ha, at1, _, rfl, a, _, _, _, rfl, rfl, SqL.of ha, at0, g, _, rfl, .inl (SqL.of hg), _, _, rfl, rfl, _, rfl, bb (fun ci => ?_) (fun _ => ⟨rfl, But.refl a H, keep⟩)⟩
      have ci' := of_decide_eq_true ci
      rw [List.length_map] at ci'
      have hi : i.toNat < gs.length := by omega
      obtain ⟨x, hx, hx2⟩ := ati hi
      have ei : (0 : Int) + ((i.toNat : Nat) : Int) = i := by omega
      rw [ei] at hx
      refine ⟨_, rfl, a, _, _, _, rfl, rfl, SqL.of ha, at0, _, rfl, a, _, _, _, rfl, rfl, SqL.of ha, at1, g, _, _, _, rfl, rfl, SqL.of hg, hx, _, rfl, a, _, _, _, rfl, rfl, ha, rfl, ?_⟩
      refine ⟨_, rfl, a, _, _, _, rfl, rfl, SqL.of upd_same, at1, _, _, rfl, rfl, _, rfl, a, _, _, _, rfl, rfl, upd_same, rfl, rfl, But.upd.trans But.upd, ?_⟩
      refine ⟨gs, i + 1, x, m, c, ne, upd_same, ?_, h63, hpos, by omega, by omega, hpos x (List.mem_of_getElem? hx2), mm0, mm1, c0, c1⟩
      rw [upd_ne ne.symm, upd_ne ne.symm]
      exact hg
    · rintro σ H1 ⟨rfl, b1, hs1⟩
      obtain ⟨gs, i, o, m, c, ne, ha, hg, h63, hpos, i0, i1, o0, mm0, mm1, c0, c1⟩ := hs1
      refine ⟨_, rfl, a, _, _, _, rfl, rfl, SqL.of ha, at2, _, _, rfl, rfl, _, rfl, bb (fun _ => ?_) (fun _ => ?_)⟩
      · refine ⟨_, rfl, a, _, _, _, rfl, rfl, SqL.of ha, at2, .inl ⟨_, rfl, _, rfl, _, _, rfl, rfl, m0, ?_⟩⟩
        refine ⟨_, rfl, a, _, _, _, rfl, rfl, SqL.of ha, at2, _, rfl, _, _, rfl, rfl, log, _, rfl, a, _, _, _, rfl, rfl, ha, rfl, _, rfl, ?_⟩
        refine q _ _ (Int.emod_nonneg _ (by omega)) (Int.emod_lt_of_pos _ m0) (b1.trans But.upd) ⟨gs, i, o / many, m, c, ne, upd_same, ?_, h63, hpos, i0, i1, Int.ediv_nonneg o0 (by omega), mm0, mm1, c0, by omega⟩
        rw [upd_ne ne.symm]
        exact hg
      · have p1 : (613 * (c + 1)).natAbs < 2 ^ 30 := by omega
        have p2 : 613 * (c + 1) * (c + 1) ≤ 613 * (1000001 * 1000001) := by
          have := Int.mul_le_mul (show 613 * (c + 1) ≤ 613 * 1000001 by omega) (show c + 1 ≤ 1000001 by omega) (by omega) (by decide)
          omega
        have p3 : 0 ≤ 613 * (c + 1) * (c + 1) := Int.mul_nonneg (by omega) (by omega)
        refine ⟨_, rfl, a, _, _, _, rfl, rfl, SqL.of ha, at4, _, _, rfl, rfl, _, rfl, a, _, _, _, rfl, rfl, ha, rfl, ?_⟩
        refine ⟨_, rfl, a, _, _, _, rfl, rfl, SqL.of upd_same, at3, _, rfl, a, _, _, _, rfl, rfl, SqL.of upd_same, at4, _, _, rfl, rfl, ?_, _, rfl, a, _, _, _, rfl, rfl, SqL.of upd_same, at4, _, _, rfl, rfl, ?_, _, _, rfl, rfl, _, _, rfl, rfl, ⟨by decide, by decide, ?_⟩, .inl ⟨_, rfl, _, _, rfl, rfl, (show (0 : Int) < 1000000000000000000000000000057 by decide), ?_⟩⟩
        · exact wide_mul (a := 10) (b := 30) (by decide) (show (c + 1).natAbs < 2 ^ 30 by omega) (by decide) (by decide) (by decide)
        · exact wide_mul (a := 30) (b := 30) p1 (show (c + 1).natAbs < 2 ^ 30 by omega) (by decide) (by decide) (by decide)
        · show (m + 613 * (c + 1) * (c + 1)).natAbs < 2 ^ 64
          omega
        · have t0 := Int.emod_nonneg ((m + 613 * (c + 1) * (c + 1)) ^ (3 : Int).toNat) (show (1000000000000000000000000000057 : Int) ≠ 0 by decide)
          have t1 := Int.emod_lt_of_pos ((m + 613 * (c + 1) * (c + 1)) ^ (3 : Int).toNat) (show (0 : Int) < 1000000000000000000000000000057 by decide)
          generalize (m + 613 * (c + 1) * (c + 1)) ^ (3 : Int).toNat % 1000000000000000000000000000057 = z at t0 t1
          refine ⟨_, rfl, _, rfl, _, _, rfl, rfl, _, _, rfl, rfl, ?_, .inl ⟨_, rfl, _, _, rfl, rfl, (show (0 : Int) < 340282366920938463463374607431768211507 by decide), _, _, rfl, rfl, ?_, _, rfl, _, _, rfl, rfl, m0, ?_⟩⟩
          · exact wide_mul (a := 200) (b := 200) (by omega) (by omega) (by decide) (by decide) (by decide)
          · exact wide_div (b := 20) (by decide) (by decide) (by decide) (by decide)
          · refine q _ _ (Int.emod_nonneg _ (by omega)) (Int.emod_lt_of_pos _ m0) (b1.trans But.upd) ⟨gs, i, o, m, c + 1, ne, upd_same, ?_, h63, hpos, i0, i1, o0, mm0, mm1, by omega, by omega⟩
            rw [upd_ne ne.symm]
            exact hg
end
end K06

namespace K06
open PySem PySem.Spec PyProof.Rows L2 Ww
section
variable {P : Program} {w : World} {K : PySem.W.Frag} {mg : Str → Option Value} {base : Heap}
theorem ok_alike (T : Txt w K mg) : ∀ n : Nat, FnOk P w K mg base CX0 (n + 1) T.a_alike T.d_alike P_alike (spAlike K n)
  | 0 => fn_none fun vs H Q E h => spAlike_0 h
  | n + 1 => by
    have IH := ok_alike T n
    refine T.F_alike.ok sc_alike (fun vs H Q E h => ?_) (fun cdv A outer s H vs Q E hr h => ⟨_, (pss_cons (ps_if (pt_cmp (pc_isN (pv 1)))
    (pss_one (ps_ret (pe_cmp (pc_isN (pv 0)))))
    pss_nil)
    (pss_cons (ps_if (pt_val (pe_callB call_isiT rfl T.b_isinstance (by decide +kernel) (pa_cons (pv 1) (pa_cons (pe_tup (pa_cons (pe_bltn (v := .ty "list") rfl T.b_list (by decide +kernel) rfl) (pa_cons (pe_bltn (v := .ty "tuple") rfl T.b_tuple (by decide +kernel) rfl) pa_nil))) pa_nil))))
    (pss_cons (ps_if (PW.pt (pw_or (pt_not (pt_val (pe_callB call_isiT rfl T.b_isinstance (by decide +kernel) (pa_cons (pv 0) (pa_cons (pe_tup (pa_cons (pe_bltn (v := .ty "list") rfl T.b_list (by decide +kernel) rfl) (pa_cons (pe_bltn (v := .ty "tuple") rfl T.b_tuple (by decide +kernel) rfl) pa_nil))) pa_nil))))) (pw_or1 (pt_cmpR op_ne (pe_callB call_isi rfl T.b_isinstance (by decide +kernel) (pa_cons (pv 0) (pa_cons (pe_bltn (v := .ty "list") rfl T.b_list (by decide +kernel) rfl) pa_nil))) (pe_callB call_isi rfl T.b_isinstance (by decide +kernel) (pa_cons (pv 1) (pa_cons (pe_bltn (v := .ty "list") rfl T.b_list (by decide +kernel) rfl) pa_nil))) (nomark _)))))
    (pss_one (ps_ret pe_bl))
    pss_nil)
    (pss_cons (ps_if (pt_cmpR op_ne (pe_callB call_len_seq rfl T.b_len PySem.boot_len (pa_cons (pv 0) pa_nil)) (pe_callB call_len_seq rfl T.b_len PySem.boot_len (pa_cons (pv 1) pa_nil)) (nomark _))
    (pss_one (ps_ret pe_bl))
    pss_nil)
    (pss_cons (ps_for PassesOwn.never rfl (RZ.pi_zipA (by rfl) T.b_zip (pa_cons (pv 0) (pa_cons (pv 1) pa_nil))) (pg_tup rfl (pgs_cons (pg_name (i := 2) sc_alike.nd rfl (Or.inl rfl)) (pgs_cons (pg_name (i := 3) sc_alike.nd rfl (Or.inl rfl)) pgs_nil)))
    (pss_one (ps_if (pt_not (pt_val (pe_call IH (hr.mono (by first | decide | omega)) rfl T.m_alike T.F_alike.kp T.B_alike .nil pass0 (pa_cons (pv 2) (pa_cons (pv 3) pa_nil)))))
    (pss_one (ps_ret pe_bl))
    pss_nil)))
    (pss_one (ps_ret pe_bl)))))
    pss_nil)
    (pss_cons (ps_if (pt_val (pe_callB call_isi rfl T.b_isinstance (by decide +kernel) (pa_cons (pv 1) (pa_cons (pe_bltn (v := .ty "str") rfl T.b_str (by decide +kernel) rfl) pa_nil))))
    (pss_one (ps_ret (pe_and (pe_callB call_isi rfl T.b_isinstance (by decide +kernel) (pa_cons (pv 0) (pa_cons (pe_bltn (v := .ty "str") rfl T.b_str (by decide +kernel) rfl) pa_nil))) (pe_one (pe_cmpR op_eq (pv 0) (pv 1) (nomark _))))))
    pss_nil)
    (pss_cons (ps_if (pt_cmpR op_ne (pe_callB call_isi rfl T.b_isinstance (by decide +kernel) (pa_cons (pv 0) (pa_cons (pe_bltn (v := .ty "bool") rfl T.b_bool (by decide +kernel) rfl) pa_nil))) (pe_callB call_isi rfl T.b_isinstance (by decide +kernel) (pa_cons (pv 1) (pa_cons (pe_bltn (v := .ty "bool") rfl T.b_bool (by decide +kernel) rfl) pa_nil))) (nomark _))
    (pss_one (ps_ret pe_bl))
    pss_nil)
    (pss_one (ps_ret (pe_and (pe_callB call_isi rfl T.b_isinstance (by decide +kernel) (pa_cons (pv 0) (pa_cons (pe_bltn (v := .ty "int") rfl T.b_int (by decide +kernel) rfl) pa_nil))) (pe_one (pe_cmpR op_eq (pv 0) (pv 1) (nomark _)))))))))), ?_⟩)
    · obtain ⟨x, y, d, rfl, _⟩ := h
      rfl
    · obtain ⟨x, y, d, rfl, hx, hy, gd, q⟩ := h
      have two : 2 ≤ sizeLine := sz1 (by decide)
      cases d with
      | none =>
        cases hx
        cases hy
        refine ⟨_, rfl, _, rfl, bt (decide_eq_true rfl) ⟨_, rfl, ?_⟩⟩
        have e : Q (.bl (decide (V.non = V.non))) H := by
          rw [decide_eq_true rfl]
          exact q H (Same.refl H)
        exact e
      | bool b =>
        cases hx
        cases hy
        refine ⟨_, rfl, _, rfl, bf (decide_eq_false (fun z => by cases z)) ?_⟩
        refine ⟨_, rfl, two, fun t1 n1 => ⟨_, t1, _, _, _, _, rfl, upd_same, clsLT, .base (.bl b), kLT0 (by decide +kernel) (by decide +kernel), _, rfl, bf rfl ?_⟩⟩
        have e1 := same_new n1 (.tup [V.ty "list", V.ty "tuple"])
        refine ⟨_, rfl, _, _, _, _, _, rfl, .ty _, .base (.bl b), kit_ty (r := false) (by decide +kernel), _, rfl, bf rfl ?_⟩
        refine ⟨_, rfl, _, _, _, _, _, rfl, .ty _, .base (.bl b), kit_ty (r := true) (by decide +kernel), _, rfl, _, _, _, _, _, rfl, .ty _, .base (.bl b), kit_ty (r := true) (by decide +kernel), rfl, _, rfl, bf rfl ?_⟩
        refine ⟨_, rfl, _, _, _, _, _, rfl, .ty _, .base (.bl b), kit_ty (r := true) (by decide +kernel), _, rfl, bt rfl ?_⟩
        refine ⟨_, rfl, _, rfl, by cases b <;> rfl, ?_⟩
        have e : Q (.bl (decide (V.bl b = V.bl b))) (upd H t1 (.tup [V.ty "list", V.ty "tuple"])) := by
          rw [decide_eq_true rfl]
          exact q _ e1
        exact e
      | int j =>
        cases hx
        cases hy
        refine ⟨_, rfl, _, rfl, bf (decide_eq_false (fun z => by cases z)) ?_⟩
        refine ⟨_, rfl, two, fun t1 n1 => ⟨_, t1, _, _, _, _, rfl, upd_same, clsLT, .base (.int j), kLT0 (by decide +kernel) (by decide +kernel), _, rfl, bf rfl ?_⟩⟩
        have e1 := same_new n1 (.tup [V.ty "list", V.ty "tuple"])
        refine ⟨_, rfl, _, _, _, _, _, rfl, .ty _, .base (.int j), kit_ty (r := false) (by decide +kernel), _, rfl, bf rfl ?_⟩
        refine ⟨_, rfl, _, _, _, _, _, rfl, .ty _, .base (.int j), kit_ty (r := false) (by decide +kernel), _, rfl, _, _, _, _, _, rfl, .ty _, .base (.int j), kit_ty (r := false) (by decide +kernel), rfl, _, rfl, bf rfl ?_⟩
        refine ⟨_, rfl, _, _, _, _, _, rfl, .ty _, .base (.int j), kit_ty (r := true) (by decide +kernel), _, rfl, bt rfl ?_⟩
        refine ⟨_, rfl, _, rfl, rfl, ?_⟩
        have e : Q (.bl (decide (V.int j = V.int j))) (upd H t1 (.tup [V.ty "list", V.ty "tuple"])) := by
          rw [decide_eq_true rfl]
          exact q _ e1
        exact e
      | str t =>
        cases hx
        cases hy
        refine ⟨_, rfl, _, rfl, bf (decide_eq_false (fun z => by cases z)) ?_⟩
        refine ⟨_, rfl, two, fun t1 n1 => ⟨_, t1, _, _, _, _, rfl, upd_same, clsLT, .base (.str t), kLT0 (by decide +kernel) (by decide +kernel), _, rfl, bf rfl ?_⟩⟩
        have e1 := same_new n1 (.tup [V.ty "list", V.ty "tuple"])
        refine ⟨_, rfl, _, _, _, _, _, rfl, .ty _, .base (.str t), kit_ty (r := true) (by decide +kernel), _, rfl, bt rfl ?_⟩
        refine ⟨_, rfl, _, _, _, _, _, rfl, .ty _, .base (.str t), kit_ty (r := true) (by decide +kernel), _, rfl, bt rfl ?_⟩
        refine ⟨_, rfl, _, rfl, rfl, ?_⟩
        have e : Q (.bl (decide (V.str t = V.str t))) (upd H t1 (.tup [V.ty "list", V.ty "tuple"])) := by
          rw [decide_eq_true rfl]
          exact q _ e1
        exact e
      | dict kvs => exact gd.elim
      | list ds =>
        cases hx with
        | @lst a xs _ ha hxs =>
        cases hy with
        | @lst b ys _ hb hys =>
        have lx := dps_len hxs
        have ly := dps_len hys
        refine ⟨_, rfl, _, rfl, bf (decide_eq_false (fun z => by cases z)) ?_⟩
        refine ⟨_, rfl, two, fun t1 n1 => ?_⟩
        have e1 := same_new n1 (.tup [V.ty "list", V.ty "tuple"])
        refine ⟨_, t1, _, _, _, true, rfl, upd_same, clsLT, tyL (e1.seq hb), kLT (b := true) (c := false) (by decide +kernel) (by decide +kernel), _, rfl, bt rfl ?_⟩
        refine ⟨_, rfl, two, fun t2 n2 => ?_⟩
        have e2 := e1.trans (same_new n2 (.tup [V.ty "list", V.ty "tuple"]))
        refine ⟨_, t2, _, _, _, true, rfl, upd_same, clsLT, tyL (e2.seq ha), kLT (b := true) (c := false) (by decide +kernel) (by decide +kernel), _, rfl, bf rfl ?_⟩
        refine ⟨_, rfl, _, _, _, _, _, rfl, .ty _, tyL (e2.seq ha), kit_ty (r := true) (by decide +kernel), _, rfl, _, _, _, _, _, rfl, .ty _, tyL (e2.seq hb), kit_ty (r := true) (by decide +kernel), rfl, _, rfl, bf rfl ?_⟩
        refine ⟨_, rfl, a, _, rfl, .inl (e2.seq ha), _, rfl, b, _, rfl, .inl (e2.seq hb), rfl, _, rfl, bf ?_ ?_⟩
        · rw [lx, ly, decide_eq_true rfl]
          rfl
        refine ⟨_, rfl, _, rfl, a, b, _, _, rfl, .inl ⟨e2.seq ha, e2.seq hb, RZ.for_zipL (lx.trans ly.symm) (fun i σ H1 => ∃ v2 v3 : Option V, σ = [some (.ref a), some (.ref b), v2, v3] ∧ Same H H1) ⟨none, none, rfl, e2⟩ (fun i σ H1 ⟨_, _, _, e⟩ => ⟨e.seq ha, e.seq hb⟩) ?_ ?_⟩⟩
        · rintro i u v T σ H1 hu hv ⟨v2, v3, rfl, e⟩ hT
          obtain ⟨d1, g1, p1⟩ := dps_at hxs hu
          obtain ⟨d2, g2, p2⟩ := dps_at hys hv
          have ed : d1 = d2 := Option.some.inj (g1.symm.trans g2)
          subst ed
          have e' := e.trans (same_new hT (.tup [u, v]))
          refine ⟨T, _, rfl, SqT.of upd_same, rfl, _, _, rfl, _, _, rfl, rfl, ?_⟩
          exact ⟨_, rfl, _, rfl, u, v, d1, rfl, dp_same e' p1, dp_same e' p2, gd.2 d1 (List.mem_of_getElem? g1), fun H2 e2 => ⟨_, rfl, bf rfl ⟨_, _, rfl, e'.trans e2⟩⟩⟩
        · rintro σ H1 ⟨v2, v3, rfl, e⟩
          exact q H1 e
      | tuple ds =>
        cases hx with
        | @tup a xs _ ha hxs =>
        cases hy with
        | @tup b ys _ hb hys =>
        have lx := dps_len hxs
        have ly := dps_len hys
        refine ⟨_, rfl, _, rfl, bf (decide_eq_false (fun z => by cases z)) ?_⟩
        refine ⟨_, rfl, two, fun t1 n1 => ?_⟩
        have e1 := same_new n1 (.tup [V.ty "list", V.ty "tuple"])
        refine ⟨_, t1, _, _, _, true, rfl, upd_same, clsLT, tyT (Evl.ex_t e1 hb), kLT (b := false) (c := true) (by decide +kernel) (by decide +kernel), _, rfl, bt rfl ?_⟩
        refine ⟨_, rfl, two, fun t2 n2 => ?_⟩
        have e2 := e1.trans (same_new n2 (.tup [V.ty "list", V.ty "tuple"]))
        refine ⟨_, t2, _, _, _, true, rfl, upd_same, clsLT, tyT (Evl.ex_t e2 ha), kLT (b := false) (c := true) (by decide +kernel) (by decide +kernel), _, rfl, bf rfl ?_⟩
        refine ⟨_, rfl, _, _, _, _, _, rfl, .ty _, tyT (Evl.ex_t e2 ha), kit_ty (r := false) (by decide +kernel), _, rfl, _, _, _, _, _, rfl, .ty _, tyT (Evl.ex_t e2 hb), kit_ty (r := false) (by decide +kernel), rfl, _, rfl, bf rfl ?_⟩
        refine ⟨_, rfl, a, _, rfl, .inr (Evl.ex_t e2 ha), _, rfl, b, _, rfl, .inr (Evl.ex_t e2 hb), rfl, _, rfl, bf ?_ ?_⟩
        · rw [lx, ly, decide_eq_true rfl]
          rfl
        refine ⟨_, rfl, _, rfl, a, b, _, _, rfl, .inr ⟨Evl.ex_t e2 ha, Evl.ex_t e2 hb, RZ.for_zipT (lx.trans ly.symm) (fun i σ H1 => ∃ v2 v3 : Option V, σ = [some (.ref a), some (.ref b), v2, v3] ∧ Same H H1) ⟨none, none, rfl, e2⟩ (fun i σ H1 ⟨_, _, _, e⟩ => ⟨Evl.ex_t e ha, Evl.ex_t e hb⟩) ?_ ?_⟩⟩
        · rintro i u v T σ H1 hu hv ⟨v2, v3, rfl, e⟩ hT
          obtain ⟨d1, g1, p1⟩ := dps_at hxs hu
          obtain ⟨d2, g2, p2⟩ := dps_at hys hv
          have ed : d1 = d2 := Option.some.inj (g1.symm.trans g2)
          subst ed
          have e' := e.trans (same_new hT (.tup [u, v]))
          refine ⟨T, _, rfl, SqT.of upd_same, rfl, _, _, rfl, _, _, rfl, rfl, ?_⟩
          exact ⟨_, rfl, _, rfl, u, v, d1, rfl, dp_same e' p1, dp_same e' p2, gd.2 d1 (List.mem_of_getElem? g1), fun H2 e2 => ⟨_, rfl, bf rfl ⟨_, _, rfl, e'.trans e2⟩⟩⟩
        · rintro σ H1 ⟨v2, v3, rfl, e⟩
          exact q H1 e
end
end K06

namespace K06
open PySem PySem.Spec PyProof.Rows L2 Ww
section
variable {P : Program} {w : World} {K : PySem.W.Frag} {mg : Str → Option Value} {base : Heap}
theorem ok_pool (T : Txt w K mg) : FnOk P w K mg base CX0 (2) T.a_pool T.d_pool P_pool (spPool) := by
  refine T.F_pool.ok sc_pool (fun vs H Q E h => ?_) (fun cdv A outer s H vs Q E hr h => ⟨_, (pss_cons (ps_asg (pe_tup (pa_cons pe_str (pa_cons (pe_op op_add pe_int (pe_call (ok_pick T) (hr.mono (by first | decide | omega)) rfl T.m_pick T.F_pick.kp T.B_pick .nil pass0 (pa_cons (pv 0) (pa_cons (pe_ix ix_list (pe_lst (pa_cons pe_int (pa_cons pe_int (pa_cons pe_int pa_nil)))) (pe_call (ok_pick T) (hr.mono (by first | decide | omega)) rfl T.m_pick T.F_pick.kp T.B_pick .nil pass0 (pa_cons (pv 0) (pa_cons pe_int pa_nil))) (fun _ _ => rfl)) pa_nil)))) pa_nil))) (pg_tup rfl (pgs_cons (pg_name (i := 1) sc_pool.nd rfl (Or.inr rfl)) (pgs_cons (pg_name (i := 2) sc_pool.nd rfl (Or.inl rfl)) pgs_nil))))
    (pss_one (ps_ret (pe_join pe_str (pe_lc (own := [("_law_k", 3)]) (g := gName 3) rfl sc_pool.nd (pi_range1 rfl T.b_range (pa_cons (pv 2) pa_nil)) (blkOk_by (N := N_pool) (own := [("_law_k", 3)]) (sc := defScope s_pool) (by decide +kernel)) (fun _ _ _ _ _ => (pg_name (i := 3) sc_pool.nd rfl (Or.inl rfl))) (fun _ _ _ _ _ => pts_nil) (fun _ _ _ _ _ => (pe_item_str (pv 1) (pe_call (ok_pick T) (hr.mono (by first | decide | omega)) rfl T.m_pick T.F_pick.kp T.B_pick .nil pass0 (pa_cons (pv 0) (pa_cons pe_int pa_nil))) (fun _ _ => rfl)))))))), ?_⟩)
  · obtain ⟨a, g, n, rfl, _⟩ := h
    rfl
  · obtain ⟨a, g, n, rfl, hs, hn, q⟩ := h
    refine ⟨_, rfl, sz1 (by show 3 ≤ 1000000; decide), fun l1 n1 => ?_⟩
    refine ⟨_, rfl, a, g, 3, n, rfl, by decide, by decide, hs.new n1, by omega, fun r H1 r0 r1 b1 s1 => ?_⟩
    have hl1 := b1 l1 _ (hs.ne n1).1 upd_same
    obtain ⟨v, hv, hm⟩ := atI_mem (xs := [V.int 1, V.int 3, V.int 7]) r0 r1
    obtain ⟨m, rfl, m0, m1⟩ : ∃ m : Int, v = .int m ∧ 0 < m ∧ m ≤ 7 := by
      simp only [List.mem_cons, List.not_mem_nil, or_false] at hm
      rcases hm with rfl | rfl | rfl
      · exact ⟨1, rfl, by decide, by decide⟩
      · exact ⟨3, rfl, by decide, by decide⟩
      · exact ⟨7, rfl, by decide, by decide⟩
    have b01 : But a H H1 := (But.new n1).trans b1
    refine ⟨l1, _, _, _, rfl, rfl, SqL.of hl1, hv, a, g, m, n + 1, rfl, m0, by omega, s1, by omega, fun r2 H2 r20 r21 b2 s2 => ?_⟩
    have b02 := b01.trans b2
    refine ⟨_, _, rfl, rfl, sz1 (by show 2 ≤ 1000000; decide), fun T hT => ⟨T, _, rfl, SqT.of upd_same, rfl, _, _, rfl, _, _, rfl, rfl, ?_⟩⟩
    have s3 := s2.new (u := .tup [.str (Str.ofString "abcdefghijklmnopqrstuvwxyz"), .int (1 + r2)]) hT
    have b03 := b02.trans (But.new (o := .tup [.str (Str.ofString "abcdefghijklmnopqrstuvwxyz"), .int (1 + r2)]) hT)
    refine ⟨⟨_, rfl⟩, _, rfl, _, rfl, by omega, by omega, fun D hD => ?_⟩
    obtain ⟨sx, hsx⟩ := s3.lst
    have fD := b03.free hsx hD
    have nD := s3.ne hD
    refine lc_range (lo := 0) (n := (1 + r2).toNat) (fun i H3 => But a H H3 ∧ SrcAt H3 a g (n + 2 + i) ∧ ∃ ys : List Str, H3 D = some (.lst (ys.map V.str)) ∧ ys.length = i ∧ ∀ y ∈ ys, Let y) ?_ ?_ ?_
    · exact ⟨b03.trans (But.new hD), s3.new hD, [], upd_same, rfl, (fun _ z => nomatch z)⟩
    · rintro i H3 hi ⟨b3, s3, ys, hy, ly, al⟩
      refine ⟨rfl, lc_yes ?_⟩
      refine ⟨_, rfl, _, rfl, a, g, 26, n + 2 + i, rfl, by decide, by decide, s3, by omega, fun r H4 r0 r1 b4 s4 => ?_⟩
      obtain ⟨c, hc, lc⟩ := abc_all.at r0 (by rw [abc_len]; exact r1)
      have hy4 := b4 D _ nD.1 hy
      refine ⟨_, _, c, rfl, rfl, r0, by omega, by rw [abc_len]; exact r1, hc, _, hy4, sz2 (by rw [List.length_map]; omega), ?_⟩
      refine ⟨but_mut (b3.trans b4) fD _, s4.upd nD, ys ++ [⟨#[c]⟩], ?_, ?_, ?_⟩
      · rw [upd_same, List.map_append]
        rfl
      · rw [List.length_append, ly]
        rfl
      · intro y hyy
        rcases List.mem_append.mp hyy with z | z
        · exact al y z
        · rw [List.mem_singleton] at z
          rw [z]
          exact lc
    · rintro H3 ⟨b3, s3, ys, hy, ly, al⟩
      refine ⟨_, D, ys, rfl, rfl, .inl (SqL.of hy), let_small al (by omega), ?_⟩
      exact q _ _ b3 (s3.le (by omega)) (join_all al) (by rw [join_len al]; omega) (by rw [join_len al]; omega)
end
end K06

namespace K06
open PySem PySem.Spec PyProof.Rows L2 Ww
section
variable {P : Program} {w : World} {K : PySem.W.Frag} {mg : Str → Option Value} {base : Heap}
theorem ok_grown (T : Txt w K mg) : ∀ n : Nat, FnOk P w K mg base CX0 (n + 2) T.a_grown T.d_grown P_grown (spGrown n)
  | 0 => fn_none fun vs H Q E h => spGrown_0 h
  | n + 1 => by
    have IH := ok_grown T n
    refine T.F_grown.ok sc_grown (fun vs H Q E h => ?_) (fun cdv A outer s H vs Q E hr h => ⟨_, (pss_cons (ps_if (PW.pt (pw_or (pt_cmpR op_lt (pv 1) pe_int (nomark _)) (pw_or1 (pt_cmpR op_lt (pv 2) pe_int (nomark _)))))
    (pss_one (ps_ret (pe_tup (pa_cons pe_str (pa_cons (pe_item_str (pv 4) (pe_call (ok_pick T) (hr.mono (by first | decide | omega)) rfl T.m_pick T.F_pick.kp T.B_pick .nil pass0 (pa_cons (pv 0) (pa_cons (pe_callB call_len_str rfl T.b_len PySem.boot_len (pa_cons (pv 4) pa_nil)) pa_nil))) (fun _ _ => rfl)) pa_nil)))))
    pss_nil)
    (pss_cons (ps_par (i := 5) (j := 6) rfl sc_grown.nd rfl rfl (by decide) rfl rfl (pa_cons (pe_ix ix_list (pv 3) (pe_call (ok_pick T) (hr.mono (by first | decide | omega)) rfl T.m_pick T.F_pick.kp T.B_pick .nil pass0 (pa_cons (pv 0) (pa_cons (pe_callB call_len_seq rfl T.b_len PySem.boot_len (pa_cons (pv 3) pa_nil)) pa_nil))) (fun _ _ => rfl)) (pa_cons (pe_op op_add pe_int (pe_call (ok_pick T) (hr.mono (by first | decide | omega)) rfl T.m_pick T.F_pick.kp T.B_pick .nil pass0 (pa_cons (pv 0) (pa_cons (pe_op op_sub (pv 1) pe_int) pa_nil)))) pa_nil)) rfl)
    (pss_cons (ps_set (i := 7) sc_grown.nd rfl (Or.inl rfl) (pe_call IH (hr.mono (by first | decide | omega)) rfl T.m_grown T.F_grown.kp T.B_grown .nil pass0 (pa_cons (pv 0) (pa_cons (pv 6) (pa_cons (pe_op op_sub (pv 2) pe_int) (pa_cons (pv 3) (pa_cons (pv 4) pa_nil)))))))
    (pss_one (ps_ret (pe_tup (pa_cons (pv 5) (pa_cons (pv 7) (pa_cons (pe_call IH (hr.mono (by first | decide | omega)) rfl T.m_grown T.F_grown.kp T.B_grown .nil pass0 (pa_cons (pv 0) (pa_cons (pe_op op_sub (pv 1) (pv 6)) (pa_cons (pe_op op_sub (pv 2) pe_int) (pa_cons (pv 3) (pa_cons (pv 4) pa_nil)))))) pa_nil))))))))), ?_⟩)
    · obtain ⟨a, g, l, most, deep, fs, t, c, rfl, _⟩ := h
      rfl
    · obtain ⟨a, g, l, most, deep, fs, t, c, rfl, hs, hc, nl, hl, hf, ht, m1, m2, d1, d2, q⟩ := h
      obtain ⟨ta, t1, t14⟩ := ht
      refine ⟨_, rfl, _, _, rfl, rfl, _, rfl, bb (fun c1 => bt rfl ?_) (fun c1 => ⟨_, rfl, _, _, rfl, rfl, _, rfl, bb (fun c2 => ?_) (fun c2 => ?_)⟩)⟩
      · refine ⟨_, rfl, _, rfl, _, rfl, t, rfl, sz1 (by omega), a, g, _, c, rfl, by omega, by omega, hs, by omega, fun r H1 r0 r1 b1 s1 => ?_⟩
        obtain ⟨x, hx, lx⟩ := ta.at r0 r1
        refine ⟨_, _, x, rfl, rfl, r0, by omega, r1, hx, sz1 (by show 2 ≤ 1000000; decide), fun p hp => ?_⟩
        exact q _ (.pl ⟨#[x]⟩) _ (b1.trans (But.new hp)) ((s1.new hp).le (by omega)) ⟨p, rfl, upd_same⟩ lx (by show (1 : Int) ≤ deep; omega) (by show (1 : Int) ≤ most; omega)
      · refine ⟨_, rfl, _, rfl, _, rfl, t, rfl, sz1 (by omega), a, g, _, c, rfl, by omega, by omega, hs, by omega, fun r H1 r0 r1 b1 s1 => ?_⟩
        obtain ⟨x, hx, lx⟩ := ta.at r0 r1
        refine ⟨_, _, x, rfl, rfl, r0, by omega, r1, hx, sz1 (by show 2 ≤ 1000000; decide), fun p hp => ?_⟩
        exact q _ (.pl ⟨#[x]⟩) _ (b1.trans (But.new hp)) ((s1.new hp).le (by omega)) ⟨p, rfl, upd_same⟩ lx (by show (1 : Int) ≤ deep; omega) (by show (1 : Int) ≤ most; omega)
      · have c1' : 2 ≤ most := by
          have := of_decide_eq_false c1
          omega
        have c2' : 2 ≤ deep := by
          have := of_decide_eq_false c2
          omega
        obtain ⟨f0, f10, hform⟩ := hf
        have fpos : 0 < fs.length := List.length_pos_iff.mpr f0
        refine ⟨_, rfl, _, rfl, _, rfl, l, _, rfl, .inl (SqL.of hl), a, g, _, c, rfl, by rw [List.length_map]; omega, by rw [List.length_map]; omega, hs, by omega, fun r H1 r0 r1 b1 s1 => ?_⟩
        rw [List.length_map] at r1
        obtain ⟨v, hv, hv2⟩ := atI_of (xs := fs.map V.str) r0 (by rw [List.length_map]; exact r1)
        rw [List.getElem?_map] at hv2
        obtain ⟨f, hf1, hf2⟩ := Option.map_eq_some_iff.mp hv2
        subst hf2
        have hfm : Form f := hform f (List.mem_of_getElem? hf1)
        have hl1 := b1 l _ nl hl
        refine ⟨l, _, _, _, rfl, rfl, SqL.of hl1, hv, _, rfl, _, rfl, _, _, rfl, rfl, a, g, _, c + 1, rfl, by omega, by omega, s1, by omega, fun r2 H2 r20 r21 b2 s2 => ⟨_, _, rfl, rfl, _, _, rfl, ?_⟩⟩
        have hl2 := b2 l _ nl hl1
        refine ⟨_, rfl, _, rfl, _, rfl, _, _, rfl, rfl, _, rfl, _, rfl, a, g, l, _, _, fs, t, c + 2, rfl, s2, by omega, nl, hl2, ⟨f0, f10, hform⟩, ⟨ta, t1, t14⟩, by omega, by omega, by omega, by omega, fun v1 k1 H3 b3 s3 ka3 ok3 dd3 zz3 => ?_⟩
        have hl3 := b3 l _ nl hl2
        refine ⟨_, rfl, _, rfl, _, rfl, _, rfl, _, rfl, _, _, rfl, rfl, _, rfl, _, _, rfl, rfl, _, rfl, _, rfl, a, g, l, _, _, fs, t, _, rfl, s3, by omega, nl, hl3, ⟨f0, f10, hform⟩, ⟨ta, t1, t14⟩, by omega, by omega, by omega, by omega, fun v2 k2 H4 b4 s4 ka4 ok4 dd4 zz4 => ?_⟩
        refine ⟨sz1 (by show 3 ≤ 1000000; decide), fun p hp => ?_⟩
        obtain ⟨sx, hsx⟩ := s3.lst
        have tp := (b4.tps hsx).trans (Tps.new (o := .tup [.str f, v1, v2]) hp)
        refine q _ (.nd f k1 k2) _ (b1.trans (b2.trans (b3.trans (b4.trans (But.new hp))))) ((s4.new hp).le (by omega)) ⟨p, v1, v2, rfl, upd_same, ka3.mono tp, ka4.mono (.new hp)⟩ ⟨hfm, ok3, ok4⟩ ?_ ?_
        · show ((1 + max k1.deep k2.deep : Nat) : Int) ≤ deep
          omega
        · show ((k1.letters ++ k2.letters).length : Int) ≤ most
          rw [List.length_append]
          omega
end
end K06

namespace K06
open PySem PySem.Spec PyProof.Rows L2 Ww
section
variable {P : Program} {w : World} {K : PySem.W.Frag} {mg : Str → Option Value} {base : Heap}
def spPlaces : Sp := fun vs H Q _ => ∃ (v : V) (k : Kd), vs = [v] ∧ KOk H v k ∧ ∀ l rows H', Same H H' → H' l = some (.lst rows) → All2 (RowAt H') rows (k.places 1) → Q (.ref l) H'
theorem ok_places (T : Txt w K mg) : FnOk P w K mg base CX0 (1) T.a_places T.d_places P_places (spPlaces) := by
  refine T.F_places.ok sc_places (fun vs H Q E h => ?_) (fun cdv A outer s H vs Q E hr h => ⟨_, (pss_cons (ps_par (i := 1) (j := 2) rfl sc_places.nd rfl rfl (by decide) rfl rfl (pa_cons (pe_lst pa_nil) (pa_cons (pe_lst (pa_cons (pe_tup (pa_cons (pv 0) (pa_cons pe_int pa_nil))) pa_nil)) pa_nil)) rfl)
    (pss_cons (ps_while PassesOwn.never (pt_cmpR (op_neD (hu64 hr)) (pv 2) (pe_lst pa_nil) (nomark _))
    (pss_cons (ps_asg (pe_bm0 PySem.F.plainAttrs_list PySem.F.slot_list_pop PySem.F.type_list_pop mt_pop (pv 2)) (pg_tup rfl (pgs_cons (pg_name (i := 3) sc_places.nd rfl (Or.inl rfl)) (pgs_cons (pg_name (i := 4) sc_places.nd rfl (Or.inl rfl)) pgs_nil))))
    (pss_one (ps_if (pt_cmpR op_eq (pe_ix ix_tup (pv 3) pe_int (fun _ _ => rfl)) pe_str (nomark _))
    (pss_one (ps_expr (pe_bm PySem.F.plainAttrs_list PySem.F.slot_list_append PySem.F.type_list_append mt_append (pv 1) (pa_cons (pe_tup (pa_cons (pe_ix ix_tup (pv 3) pe_int (fun _ _ => rfl)) (pa_cons (pv 4) pa_nil))) pa_nil))))
    (pss_cons (ps_expr (pe_bm PySem.F.plainAttrs_list PySem.F.slot_list_append PySem.F.type_list_append mt_append (pv 2) (pa_cons (pe_tup (pa_cons (pe_ix ix_tup (pv 3) pe_int (fun _ _ => rfl)) (pa_cons (pe_op op_add (pv 4) pe_int) pa_nil))) pa_nil)))
    (pss_one (ps_expr (pe_bm PySem.F.plainAttrs_list PySem.F.slot_list_append PySem.F.type_list_append mt_append (pv 2) (pa_cons (pe_tup (pa_cons (pe_ix ix_tup (pv 3) pe_int (fun _ _ => rfl)) (pa_cons (pe_op op_add (pv 4) pe_int) pa_nil))) pa_nil)))))))))
    (pss_one (ps_ret (pv 1))))), ?_⟩)
  · obtain ⟨v, k, rfl, _⟩ := h
    rfl
  · obtain ⟨v, k, rfl, ⟨hk, ok, hd, hz⟩, q⟩ := h
    refine ⟨sz1 (by show 0 ≤ 1000000; decide), fun l1 n1 => ⟨_, rfl, sz1 (by show 2 ≤ 1000000; decide), fun t0 nt0 => ⟨sz1 (by show 1 ≤ 1000000; decide), fun l2 n2 => ⟨_, _, rfl, ?_⟩⟩⟩⟩
    have sA : Same H (upd H l1 (.lst [])) := same_new n1 _
    have sB := sA.trans (same_new nt0 (.tup [v, .int 1]))
    have sC := sB.trans (same_new n2 (.lst [.ref t0]))
    have h1 : (upd (upd (upd H l1 (.lst [])) t0 (.tup [v, .int 1])) l2 (.lst [.ref t0])) l1 = some (.lst []) := same_new n2 _ _ _ (same_new nt0 _ _ _ upd_same)
    have ht0 : (upd (upd (upd H l1 (.lst [])) t0 (.tup [v, .int 1])) l2 (.lst [.ref t0])) t0 = some (.tup [v, .int 1]) := same_new n2 _ _ _ upd_same
    have f2 : H l2 = none := sB.free n2
    have n12 : l1 ≠ l2 := ne_of_none (same_new nt0 (.tup [v, .int 1]) _ _ upd_same) n2
    refine ⟨fun m σ H' => ∃ (o3 o4 : Option V) (rows ys : List V) (done : List (Str × Int)) (st : List (Kd × Int)), m = (st.map fun x => x.1.wt).sum ∧ σ = [some v, some (.ref l1), some (.ref l2), o3, o4] ∧ Same H H' ∧ H' l1 = some (.lst rows) ∧ H' l2 = some (.lst ys.reverse) ∧
      All2 (PairAt H') ys st ∧ All2 (RowAt H') rows done ∧ done ++ (st.flatMap fun x => x.1.places x.2) = k.places 1 ∧ ∀ x ∈ st, x.1.ok ∧ x.1.deep ≤ 8,
      ⟨_, none, none, [], [.ref t0], [], [(k, 1)], rfl, rfl, sC, h1, upd_same, ⟨⟨t0, v, rfl, ht0, hk.mono (.of sC)⟩, trivial⟩, trivial, by simp, fun x hx => ?_⟩, ?_⟩
    · rw [List.mem_singleton] at hx
      rw [hx]
      exact ⟨ok, hd⟩
    · rintro m σ H1 ⟨o3, o4, rows, ys, done, st, rfl, rfl, e1, hr1, hr2, hst, hrow, hall, hok⟩
      have lall := congrArg List.length hall
      rw [List.length_append, k.places_len] at lall
      have lst := places_flat st
      have lrow := hrow.len
      have lys := hst.len
      have rlt : rows.length < 1000000 := by omega
      refine ⟨_, rfl, sz1 (by show 0 ≤ 1000000; decide), fun z nz => ne_nil (same_new nz _ _ _ hr2) upd_same (fun u hu => ?_) ?_⟩
      · obtain ⟨x, m, r⟩ := hst.mem (List.mem_reverse.mp hu)
        exact (PairAt.mono (.new nz) _ _ r).lk (hok x m).1 (hok x m).2
      · have eZ := e1.trans (same_new nz (.lst []))
        have z1 := same_new nz (.lst []) _ _ hr1
        have z2 := same_new nz (.lst []) _ _ hr2
        have tz : Tps H1 (upd H1 z (.lst [])) := .new nz
        replace hst := hst.mono (PairAt.mono tz)
        replace hrow := hrow.mono (RowAt.mono tz)
        generalize upd H1 z (.lst []) = H2 at eZ z1 z2 hst hrow
        cases ys with
        | nil =>
          cases st with
          | cons _ _ => exact hst.elim
          | nil =>
            refine ⟨_, rfl, bf rfl ⟨_, rfl, ?_⟩⟩
            rw [List.flatMap_nil, List.append_nil] at hall
            rw [← hall] at q
            exact q l1 rows H2 eZ z1 hrow
        | cons y ys =>
          cases st with
          | nil => exact hst.elim
          | cons x st =>
            obtain ⟨kx, dx⟩ := x
            obtain ⟨⟨p, u, rfl, hp, hu⟩, hst⟩ := hst
            have erev : (V.ref p :: ys).reverse = ys.reverse ++ [V.ref p] := List.reverse_cons
            rw [erev] at z2
            have ene : (!(V.ref p :: ys).reverse.isEmpty) = true := by
              rw [erev]
              cases ys.reverse <;> rfl
            have np : p ≠ l2 := ne_of hp z2 (fun z => by cases z)
            have l1' : (upd H2 l2 (.lst ys.reverse)) l1 = some (.lst rows) := by
              rw [upd_ne n12]
              exact z1
            have hp' : (upd H2 l2 (.lst ys.reverse)) p = some (.tup [u, .int dx]) := by
              rw [upd_ne np]
              exact hp
            have tpop : Tps H2 (upd H2 l2 (.lst ys.reverse)) := Tps.lst z2
            have ePop : Same H (upd H2 l2 (.lst ys.reverse)) := same_mut eZ f2 _
            have l2' : (upd H2 l2 (.lst ys.reverse)) l2 = some (.lst ys.reverse) := upd_same
            replace hst := hst.mono (PairAt.mono tpop)
            replace hrow := hrow.mono (RowAt.mono tpop)
            replace hu := hu.mono tpop
            refine ⟨_, rfl, bt ene ⟨_, fun _ _ h => h, ?_⟩⟩
            refine ⟨_, rfl, .inl ⟨rfl, _, SqL.of z2⟩, l2, _, V.ref p, rfl, rfl, z2, by simp, ?_⟩
            rw [List.dropLast_concat]
            generalize upd H2 l2 (.lst ys.reverse) = H3 at l1' hp' tpop ePop l2' hst hrow hu
            refine ⟨p, _, rfl, SqT.of hp', rfl, _, _, rfl, _, _, rfl, rfl, ?_⟩
            obtain ⟨okx, dpx⟩ := hok (kx, dx) List.mem_cons_self
            have hok' : ∀ x ∈ st, x.1.ok ∧ x.1.deep ≤ 8 := fun x hx => hok x (List.mem_cons_of_mem _ hx)
            rw [List.flatMap_cons] at hall
            rw [List.length_cons, List.length_cons] at lys
            rw [List.length_cons] at lst
            cases kx with
            | pl s =>
              obtain ⟨p2, rfl, hq⟩ := hu
              refine ⟨_, rfl, p2, _, _, _, rfl, rfl, SqT.of hq, at0, rfl, _, rfl, bt rfl ?_⟩
              refine ⟨_, rfl, .inl ⟨rfl, _, SqL.of l1'⟩, _, rfl, p2, _, _, _, rfl, rfl, SqT.of hq, at1, _, rfl, sz1 (by show 2 ≤ 1000000; decide), fun t nt => ?_⟩
              have t1 := same_new nt (.tup [.str s, .int dx]) _ _ l1'
              refine ⟨l1, _, _, rfl, rfl, t1, sz2 rlt, ?_⟩
              have tps : Tps H3 (upd (upd H3 t (.tup [.str s, .int dx])) l1 (.lst (rows ++ [.ref t]))) := (Tps.new nt).trans (Tps.lst t1)
              refine ⟨_, ?_, _, _, rows ++ [.ref t], ys, done ++ [(s, dx)], st, rfl, rfl, same_mut (ePop.trans (same_new nt _)) n1 _, upd_same, ?_, hst.mono (PairAt.mono tps), All2.snoc ⟨t, rfl, ?_⟩ (hrow.mono (RowAt.mono tps)), ?_, hok'⟩
              · rw [List.map_cons, List.sum_cons]
                show _ < 1 + _
                omega
              · rw [upd_ne n12.symm]
                exact same_new nt _ _ _ l2'
              · rw [List.append_assoc]
                exact hall
              · rw [upd_ne (ne_of_none l1' nt).symm]
                exact upd_same
            | nd f a b =>
              obtain ⟨p2, x, y, rfl, hq, ha, hb⟩ := hu
              obtain ⟨hf, oa, ob⟩ := okx
              have dm : 1 + max a.deep b.deep ≤ 8 := dpx
              refine ⟨_, rfl, p2, _, _, _, rfl, rfl, SqT.of hq, at0, rfl, _, rfl, bf (plain_ne hf) ?_⟩
              refine ⟨_, rfl, .inl ⟨rfl, _, SqL.of l2'⟩, _, rfl, p2, _, _, _, rfl, rfl, SqT.of hq, at2, _, rfl, _, _, rfl, rfl, sz1 (by show 2 ≤ 1000000; decide), fun t nt => ?_⟩
              have u1 := same_new nt (.tup [y, .int (dx + 1)]) _ _ l2'
              refine ⟨l2, _, _, rfl, rfl, u1, sz2 (by rw [List.length_reverse]; omega), ?_⟩
              have tpa : Tps H3 (upd (upd H3 t (.tup [y, .int (dx + 1)])) l2 (.lst (ys.reverse ++ [.ref t]))) := (Tps.new nt).trans (Tps.lst u1)
              have hq' := tpa _ _ hq
              have l2a : (upd (upd H3 t (.tup [y, .int (dx + 1)])) l2 (.lst (ys.reverse ++ [.ref t]))) l2 = some (.lst (ys.reverse ++ [.ref t])) := upd_same
              have l1a : (upd (upd H3 t (.tup [y, .int (dx + 1)])) l2 (.lst (ys.reverse ++ [.ref t]))) l1 = some (.lst rows) := by
                rw [upd_ne n12]
                exact same_new nt _ _ _ l1'
              have hta : (upd (upd H3 t (.tup [y, .int (dx + 1)])) l2 (.lst (ys.reverse ++ [.ref t]))) t = some (.tup [y, .int (dx + 1)]) := by
                rw [upd_ne (ne_of_none l2' nt).symm]
                exact upd_same
              have sa := same_mut (ePop.trans (same_new nt (.tup [y, .int (dx + 1)]))) f2 (.lst (ys.reverse ++ [.ref t]))
              generalize upd (upd H3 t (.tup [y, .int (dx + 1)])) l2 (.lst (ys.reverse ++ [.ref t])) = H4 at tpa hq' l2a l1a hta sa
              refine ⟨_, rfl, .inl ⟨rfl, _, SqL.of l2a⟩, _, rfl, p2, _, _, _, rfl, rfl, SqT.of hq', at1, _, rfl, _, _, rfl, rfl, sz1 (by show 2 ≤ 1000000; decide), fun t2 nt2 => ?_⟩
              have u2 := same_new nt2 (.tup [x, .int (dx + 1)]) _ _ l2a
              refine ⟨l2, _, _, rfl, rfl, u2, sz2 (by rw [List.length_append, List.length_reverse, List.length_singleton]; omega), ?_⟩
              have tpb : Tps H4 (upd (upd H4 t2 (.tup [x, .int (dx + 1)])) l2 (.lst (ys.reverse ++ [.ref t] ++ [.ref t2]))) := (Tps.new nt2).trans (Tps.lst u2)
              have tpc := tpa.trans tpb
              refine ⟨_, ?_, _, _, rows, V.ref t2 :: V.ref t :: ys, done, (a, dx + 1) :: (b, dx + 1) :: st, rfl, rfl, same_mut (sa.trans (same_new nt2 _)) f2 _, ?_, ?_, ⟨⟨t2, x, rfl, ?_, ha.mono tpc⟩, ⟨t, y, rfl, tpb _ _ hta, hb.mono tpc⟩, hst.mono (PairAt.mono tpc)⟩, hrow.mono (RowAt.mono tpc), ?_, ?_⟩
              · rw [List.map_cons, List.sum_cons, List.map_cons, List.sum_cons, List.map_cons, List.sum_cons]
                show _ < (1 + a.wt + b.wt) + _
                show a.wt + (b.wt + _) < _
                omega
              · rw [upd_ne n12]
                exact same_new nt2 _ _ _ l1a
              · rw [upd_same]
                simp
              · rw [upd_ne (ne_of_none l2a nt2).symm]
                exact upd_same
              · rw [← hall, List.flatMap_cons, List.flatMap_cons]
                show _ = done ++ ((a.places (dx + 1) ++ b.places (dx + 1)) ++ _)
                rw [List.append_assoc]
              · intro z hz
                rcases List.mem_cons.mp hz with rfl | hz
                · exact ⟨oa, by show a.deep ≤ 8; omega⟩
                · rcases List.mem_cons.mp hz with rfl | hz
                  · exact ⟨ob, by show b.deep ≤ 8; omega⟩
                  · exact hok' z hz
end
end K06

namespace K06
open PySem PySem.Spec PyProof.Rows L2 Ww
section
variable {P : Program} {w : World} {K : PySem.W.Frag} {mg : Str → Option Value} {base : Heap}
def PutR (t : List (Str × Kd)) : Kd → Kd → Prop
  | .pl s, k' => (s, k') ∈ t ∨ (s ∉ t.map (·.1) ∧ k' = .pl s)
  | .nd f a b, k' => ∃ x y, k' = .nd f x y ∧ PutR t a x ∧ PutR t b y
def spPut (n : Nat) : Sp := fun vs H Q _ => ∃ (v : V) (k : Kd) (d : Addr) (es : List (Str × Addr)) (t : List (Str × Kd)), vs = [v, .ref d] ∧ KAt H v k ∧ k.ok ∧ k.deep ≤ n ∧ H d = some (.dK (es.map DS.entS)) ∧ TabAt H es t ∧
  ∀ v' k' H', Same H H' → KAt H' v' k' → PutR t k k' → Q v' H'
theorem spPut_0 {vs : List V} {H : Hp} {Q : VK} {E : XK} (h : spPut 0 vs H Q E) : False := by
  obtain ⟨v, k, d, es, t, _, _, _, hd, _⟩ := h
  have := k.deep_pos
  omega
theorem put_ok {t : List (Str × Kd)} (ht : ∀ x ∈ t, x.2.ok) : ∀ {k k' : Kd}, k.ok → PutR t k k' → k'.ok
  | .pl s, k', h, r => by
    rcases r with r | ⟨_, r⟩
    · exact ht _ r
    · rw [r]
      exact h
  | .nd f a b, k', ⟨h, h1, h2⟩, ⟨x, y, e, r1, r2⟩ => by
    rw [e]
    exact ⟨h, put_ok ht h1 r1, put_ok ht h2 r2⟩
theorem put_deep {t : List (Str × Kd)} {D : Nat} (hD : 1 ≤ D) (ht : ∀ x ∈ t, x.2.deep ≤ D) : ∀ {k k' : Kd}, PutR t k k' → k'.deep + 1 ≤ k.deep + D
  | .pl s, k', r => by
    show k'.deep + 1 ≤ 1 + D
    rcases r with r | ⟨_, r⟩
    · have : k'.deep ≤ D := ht _ r
      omega
    · rw [r]
      show 1 + 1 ≤ 1 + D
      omega
  | .nd f a b, k', ⟨x, y, e, r1, r2⟩ => by
    have h1 := put_deep hD ht r1
    have h2 := put_deep hD ht r2
    rw [e]
    show 1 + max x.deep y.deep + 1 ≤ 1 + max a.deep b.deep + D
    omega
theorem put_len {t : List (Str × Kd)} {L : Nat} (hL : 1 ≤ L) (ht : ∀ x ∈ t, x.2.letters.length ≤ L) : ∀ {k k' : Kd}, PutR t k k' → k'.letters.length ≤ k.letters.length * L
  | .pl s, k', r => by
    show k'.letters.length ≤ 1 * L
    rcases r with r | ⟨_, r⟩
    · have : k'.letters.length ≤ L := ht _ r
      omega
    · rw [r]
      show 1 ≤ 1 * L
      omega
  | .nd f a b, k', ⟨x, y, e, r1, r2⟩ => by
    have h1 := put_len hL ht r1
    have h2 := put_len hL ht r2
    rw [e]
    show (x.letters ++ y.letters).length ≤ (a.letters ++ b.letters).length * L
    rw [List.length_append, List.length_append, Nat.add_mul]
    omega
theorem put_prs {t : List (Str × Kd)} : ∀ {k k' : Kd}, (∀ s ∈ k.letters, s ∈ t.map (·.1)) → PutR t k k' → ∃ ps, prs k k' = some ps ∧ (∀ x ∈ ps, x ∈ t) ∧ ps.map (·.1) = k.letters
  | .pl s, k', h, r => by
    rcases r with r | ⟨r, _⟩
    · refine ⟨[(s, k')], rfl, fun x hx => ?_, rfl⟩
      rw [List.mem_singleton] at hx
      rw [hx]
      exact r
    · exact (r (h s (by simp [Kd.letters]))).elim
  | .nd f a b, k', h, ⟨x, y, e, r1, r2⟩ => by
    obtain ⟨p1, a1, b1, c1⟩ := put_prs (fun s hs => h s (List.mem_append_left _ hs)) r1
    obtain ⟨p2, a2, b2, c2⟩ := put_prs (fun s hs => h s (List.mem_append_right _ hs)) r2
    refine ⟨p1 ++ p2, ?_, fun x hx => ?_, ?_⟩
    · rw [e]
      show (if f = f then (match prs a x, prs b y with
        | some x, some y => some (x ++ y)
        | _, _ => none) else none) = _
      rw [if_pos rfl, a1, a2]
    · rcases List.mem_append.mp hx with z | z
      · exact b1 x z
      · exact b2 x z
    · rw [List.map_append, c1, c2]
      rfl
theorem ok_put (T : Txt w K mg) : ∀ n : Nat, FnOk P w K mg base CX0 (n + 1) T.a_put T.d_put P_put (spPut n)
  | 0 => fn_none fun vs H Q E h => spPut_0 h
  | n + 1 => by
    have IH := ok_put T n
    refine T.F_put.ok sc_put (fun vs H Q E h => ?_) (fun cdv A outer s H vs Q E hr h => ⟨_, (pss_cons (ps_if (pt_cmpR op_eq (pe_ix ix_tup (pv 0) pe_int (fun _ _ => rfl)) pe_str (nomark _))
    (pss_one (ps_ret (pe_dget2 (hu1 hr) (pv 1) (pe_ix ix_tup (pv 0) pe_int (fun _ _ => rfl)) (pv 0) ⟨rfl, rfl, rfl, rfl⟩)))
    pss_nil)
    (pss_one (ps_ret (pe_tup (pa_cons (pe_ix ix_tup (pv 0) pe_int (fun _ _ => rfl)) (pa_cons (pe_call IH (hr.mono (by first | decide | omega)) rfl T.m_put T.F_put.kp T.B_put .nil pass0 (pa_cons (pe_ix ix_tup (pv 0) pe_int (fun _ _ => rfl)) (pa_cons (pv 1) pa_nil))) (pa_cons (pe_call IH (hr.mono (by first | decide | omega)) rfl T.m_put T.F_put.kp T.B_put .nil pass0 (pa_cons (pe_ix ix_tup (pv 0) pe_int (fun _ _ => rfl)) (pa_cons (pv 1) pa_nil))) pa_nil))))))), ?_⟩)
    · obtain ⟨v, k, d, es, t, rfl, _⟩ := h
      rfl
    · obtain ⟨v, k, d, es, t, rfl, hk, ok, hd, htab, ht, q⟩ := h
      cases k with
      | pl s =>
        have hk0 : KAt H v (.pl s) := hk
        obtain ⟨p, rfl, hp⟩ := hk
        refine ⟨_, rfl, p, _, _, _, rfl, rfl, SqT.of hp, at0, rfl, _, rfl, bt rfl ?_⟩
        refine ⟨_, rfl, d, rfl, .inl ⟨_, .inl htab⟩, _, rfl, p, _, _, _, rfl, rfl, SqT.of hp, at1, _, rfl, _, DGet.k (k := .inr s) htab, ?_⟩
        rcases ht.val s with ⟨px, kx, hv, hmem, hkx⟩ | ⟨hv, hn⟩
        · rw [hv]
          exact q _ kx H (Same.refl H) hkx (.inl hmem)
        · rw [hv]
          exact q _ (.pl s) H (Same.refl H) hk0 (.inr ⟨hn, rfl⟩)
      | nd f a b =>
        obtain ⟨p, x, y, rfl, hp, ha, hb⟩ := hk
        obtain ⟨hf, oa, ob⟩ := ok
        have dm : 1 + max a.deep b.deep ≤ n + 1 := hd
        refine ⟨_, rfl, p, _, _, _, rfl, rfl, SqT.of hp, at0, rfl, _, rfl, bf (plain_ne hf) ?_⟩
        refine ⟨_, rfl, p, _, _, _, rfl, rfl, SqT.of hp, at0, _, rfl, p, _, _, _, rfl, rfl, SqT.of hp, at1, _, rfl, x, a, d, es, t, rfl, ha, oa, by omega, htab, ht, fun va ka H1 e1 wa ra => ?_⟩
        refine ⟨_, rfl, p, _, _, _, rfl, rfl, SqT.of (e1 _ _ hp), at2, _, rfl, y, b, d, es, t, rfl, hb.mono (.of e1), ob, by omega, e1 _ _ htab, ht.mono (.of e1), fun vb kb H2 e2 wb rb => ?_⟩
        refine ⟨sz1 (by show 3 ≤ 1000000; decide), fun z nz => ?_⟩
        exact q _ (.nd f ka kb) _ (e1.trans (e2.trans (same_new nz _))) ⟨z, va, vb, rfl, upd_same, wa.mono (.of (e2.trans (same_new nz _))), wb.mono (.new nz)⟩ ⟨ka, kb, rfl, ra, rb⟩
end
end K06

namespace K06
open PySem PySem.Spec PyProof.Rows L2 Ww
section
variable {P : Program} {w : World} {K : PySem.W.Frag} {mg : Str → Option Value} {base : Heap}
def spTable : Sp := fun vs H Q _ => ∃ (a g : Addr) (c : Nat) (v : V) (k : Kd) (sg : Str), vs = [.ref a, v, .str sg] ∧ SrcAt H a g c ∧ c ≤ 800000 ∧ KAt H v k ∧ k.ok ∧ k.deep ≤ 5 ∧ k.letters.length ≤ 7 ∧ Pool sg ∧
  ∀ d es t H', But a H H' → SrcAt H' a g (c + 200) → H d = none → H' d = some (.dK (es.map DS.entS)) → TabAt H' es t → Good t → (∀ s, s ∈ t.map (·.1) ↔ s ∈ k.letters) → (∀ x ∈ t, x.2.ok ∧ x.2.deep + k.deep ≤ 6 ∧ x.2.letters.length ≤ 8) → t.map (·.1) = (t.map (·.1)) → Q (.ref d) H'
theorem room_ok {room mx cN z : Int} (h0 : 0 ≤ room) (h1 : 1 ≤ mx) (h2 : cN ≤ mx) (h3 : 0 ≤ cN) (hz0 : 0 ≤ z) (hz : z ≤ room / mx) : 0 ≤ room - cN * z ∧ room - cN * z ≤ room := by
  have a : cN * z ≤ mx * (room / mx) := Int.mul_le_mul h2 hz hz0 (by omega)
  have b : mx * (room / mx) ≤ room := Int.mul_ediv_self_le (by omega)
  have c : 0 ≤ cN * z := Int.mul_nonneg h3 hz0
  omega
theorem ok_table (T : Txt w K mg) : FnOk P w K mg base CX0 (12) T.a_table T.d_table P_table (spTable) := by
  refine T.F_table.ok sc_table (fun vs H Q E h => ?_) (fun cdv A outer s H vs Q E hr h => ⟨_, (pss_cons (ps_set (i := 3) sc_table.nd rfl (Or.inl rfl) (pe_call (ok_places T) (hr.mono (by first | decide | omega)) rfl T.m_places T.F_places.kp T.B_places .nil pass0 (pa_cons (pv 1) pa_nil)))
    (pss_cons (ps_setLc (i := 4) (own := [("_law_row", 5)]) (g := gName 5) rfl sc_table.nd rfl rfl (sw_true rfl rfl rfl (by decide +kernel)) (pi_list (pv 3)) (blkOk_by (N := N_table) (own := [("_law_row", 5)]) (sc := defScope s_table) (by decide +kernel)) (fun _ _ _ _ _ => (pg_name (i := 5) sc_table.nd rfl (Or.inl rfl))) (fun _ _ _ _ _ => pts_nil) (fun _ _ _ _ _ => (pe_ix (show IxR _ (rIxT K) from ix_tup) (pv 5) pe_int (fun _ _ => rfl))))
    (pss_cons (ps_par3 (i := 6) (j := 7) (l := 8) rfl sc_table.nd rfl rfl rfl (by decide) (by decide) (by decide) rfl rfl rfl (pa_cons (pe_op op_sub pe_int (pe_callB call_len_seq rfl T.b_len PySem.boot_len (pa_cons (pv 3) pa_nil))) (pa_cons (pe_op op_sub pe_int (pe_callB (cr_max rfl) rfl T.b_max (by decide +kernel) (pa_cons (pe_lc (own := [("_law_row", 5)]) (g := gName 5) rfl sc_table.nd (pi_list (pv 3)) (blkOk_by (N := N_table) (own := [("_law_row", 5)]) (sc := defScope s_table) (by decide +kernel)) (fun _ _ _ _ _ => (pg_name (i := 5) sc_table.nd rfl (Or.inl rfl))) (fun _ _ _ _ _ => pts_nil) (fun _ _ _ _ _ => (pe_ix (show IxR _ (rIxT K) from ix_tup) (pv 5) pe_int (fun _ _ => rfl)))) pa_nil))) (pa_cons pe_dnewK pa_nil))) rfl)
    (pss_cons (ps_for PassesOwn.never rfl (pi_list (pe_callB (cr_sortS rfl) rfl T.b_sorted (by decide +kernel) (pa_cons (pe_callTy (cr_setS rfl) (by rfl) T.b_set (by decide +kernel) (pa_cons (pv 4) pa_nil)) pa_nil))) (pg_name (i := 9) sc_table.nd rfl (Or.inl rfl))
    (pss_cons (ps_set (i := 10) sc_table.nd rfl (Or.inl rfl) (pe_op op_add pe_int (pe_op op_fdivW (pv 6) (pe_callB (call_max2 rfl) rfl T.b_max (by decide +kernel) (pa_cons pe_int (pa_cons (pe_bm PySem.F.plainAttrs_list PySem.F.slot_list_count PySem.F.type_list_count mt_lcountS (pv 4) (pa_cons (pv 9) pa_nil)) pa_nil))))))
    (pss_cons (ps_set (i := 11) sc_table.nd rfl (Or.inl rfl) (pe_call (ok_grown T 8) (hr.mono (by first | decide | omega)) rfl T.m_grown T.F_grown.kp T.B_grown .nil pass0 (pa_cons (pv 0) (pa_cons (pe_op op_add pe_int (pe_call (ok_pick T) (hr.mono (by first | decide | omega)) rfl T.m_pick T.F_pick.kp T.B_pick .nil pass0 (pa_cons (pv 0) (pa_cons (pv 10) pa_nil)))) (pa_cons (pv 7) (pa_cons (pe_lst (pa_cons pe_str (pa_cons pe_str (pa_cons pe_str pa_nil)))) (pa_cons (pv 2) pa_nil)))))))
    (pss_cons (ps_set (i := 6) sc_table.nd rfl (Or.inl rfl) (pe_op op_sub (pv 6) (pe_op op_mul (pe_bm PySem.F.plainAttrs_list PySem.F.slot_list_count PySem.F.type_list_count mt_lcountS (pv 4) (pa_cons (pv 9) pa_nil)) (pe_op op_sub (pe_callB call_len_seq rfl T.b_len PySem.boot_len (pa_cons (pe_call (ok_places T) (hr.mono (by first | decide | omega)) rfl T.m_places T.F_places.kp T.B_places .nil pass0 (pa_cons (pv 11) pa_nil)) pa_nil)) pe_int))))
    (pss_one (ps_dput (hu1 hr) (pv 8) (pv 9) (pv 11) rfl))))))
    (pss_one (ps_ret (pv 8))))))), ?_⟩)
  · obtain ⟨a, g, c, v, k, sg, rfl, _⟩ := h
    rfl
  · obtain ⟨a, g, c, v, k, sg, rfl, hs, hc, hk, ok, hd, hz, pool, q⟩ := h
    have kb : KB k := ⟨ok, by omega, by omega⟩
    have tk : ∀ {i : Nat} {y : Str × Int} {α : Type} (f : Str × Int → α), (k.places 1)[i]? = some y → ((k.places 1).take (i + 1)).map f = ((k.places 1).take i).map f ++ [f y] := fun {i y α} f hi => by
      rw [List.take_succ, hi, List.map_append]
      rfl
    have dpos := k.deep_pos
    obtain ⟨sx, hsx⟩ := hs.lst
    refine ⟨_, rfl, v, k, rfl, ⟨hk, kb⟩, fun pl rows H1 e1 h1 hr => ?_⟩
    have lrow := hr.len
    rw [k.places_len] at lrow
    refine ⟨_, rfl, pl, rfl, ⟨rows, SqL.of h1⟩, fun D hD => ?_⟩
    refine lc_list (K := K) (xs := rows) (fun i H2 => Same H1 H2 ∧ H2 D = some (.lst (((k.places 1).take i).map fun x => V.str x.1))) ⟨same_new hD _, upd_same⟩ (fun i H2 hi ⟨e2, _⟩ => SqL.of (e2 _ _ h1)) ?_ ?_
    · rintro i x H2 hx ⟨e2, hy⟩
      obtain ⟨y, hy2, p, rfl, hp⟩ := hr.get hx
      refine ⟨rfl, lc_yes ⟨_, rfl, p, _, _, _, rfl, rfl, SqT.of (e2 _ _ hp), at0, _, hy, sz2 (by rw [List.length_map, List.length_take, k.places_len]; omega), same_mut e2 hD _, ?_⟩⟩
      rw [upd_same, tk _ hy2]
    · rintro H2 ⟨e2, hy⟩
      rw [List.take_of_length_le (by rw [k.places_len]; omega)] at hy
      have em : ((k.places 1).map fun x => V.str x.1) = k.letters.map V.str := by
        rw [← k.places_fst 1, List.map_map]
        rfl
      rw [em] at hy
      have h2 := e2 _ _ h1
      refine ⟨_, rfl, pl, _, rfl, .inl (SqL.of h2), _, _, rfl, rfl, ?_⟩
      refine ⟨_, rfl, pl, rfl, ⟨rows, SqL.of h2⟩, fun D2 hD2 => ?_⟩
      refine lc_list (K := K) (xs := rows) (fun i H5 => Same H2 H5 ∧ H5 D2 = some (.lst (((k.places 1).take i).map fun x => V.int x.2))) ⟨same_new hD2 _, upd_same⟩ (fun i H5 hi ⟨e5, _⟩ => SqL.of (e5 _ _ h2)) ?_ ?_
      · rintro i x H5 hx ⟨e5, hy5⟩
        obtain ⟨y, hy2, p, rfl, hp⟩ := hr.get hx
        refine ⟨rfl, lc_yes ⟨_, rfl, p, _, _, _, rfl, rfl, SqT.of (e5 _ _ (e2 _ _ hp)), at1, _, hy5, sz2 (by rw [List.length_map, List.length_take, k.places_len]; omega), same_mut e5 hD2 _, ?_⟩⟩
        rw [upd_same, tk _ hy2]
      · rintro H5 ⟨e5, hy5⟩
        rw [List.take_of_length_le (by rw [k.places_len]; omega)] at hy5
        have em2 : ((k.places 1).map fun x => V.int x.2) = ((k.places 1).map (·.2)).map V.int := by
          rw [List.map_map]
          rfl
        rw [em2] at hy5
        have kp := k.letters_pos
        refine ⟨D2, _, rfl, SqL.of hy5, by rw [List.length_map, k.places_len]; omega, fun m hm1 hm2 => ?_⟩
        have em3 : m = (k.deep : Int) := by
          obtain ⟨x, hx, ex⟩ := List.mem_map.mp hm1
          have u1 := k.places_le 1 x hx
          obtain ⟨y, hy1, ey⟩ := k.places_max 1
          have u2 := hm2 _ (List.mem_map_of_mem hy1)
          omega
        subst em3
        refine ⟨_, _, rfl, rfl, fun d nd => ⟨_, _, _, rfl, ?_⟩⟩
        have e05 := e1.trans (e2.trans e5)
        have ndH := e05.free nd
        have e6 := same_new nd (.dK [])
        have hd6 := upd_same (H := H5) (a := d) (o := .dK [])
        have hD6 := e6 _ _ (e5 _ _ hy)
        generalize upd H5 d (.dK []) = H6 at e6 hd6 hD6
        have e06 := e05.trans e6
        refine ⟨_, rfl, D, k.letters, rfl, SqL.of hD6, by omega, fun p2 hp2 => ?_⟩
        have l2 := dedup_len k.letters []
        rw [List.length_nil] at l2
        refine ⟨p2, _, rfl, upd_same, by omega, fun ss p3 hsd hp3 => ?_⟩
        have hs' := hsd.of_dedup
        have e7 := (same_new hp2 _).trans (same_new hp3 (.lst (ss.map V.str)))
        have hp7 := new_at hp3 (.lst (ss.map V.str))
        have np3 : H6 p3 = none := (same_new hp2 _).free hp3
        generalize upd (upd H6 p2 _) p3 (.lst (ss.map V.str)) = H7 at e7 hp7
        have lss : ss.length ≤ 7 := Nat.le_trans (nd_len hs'.nodup fun x hx => (hs'.mem x).1 hx) hz
        have e07 := e06.trans e7
        have hsx7 := e07 _ _ hsx
        have hd7 := e7 _ _ hd6
        have hD7 := e7 _ _ hD6
        have nda : d ≠ a := (ne_of_none hsx ndH).symm
        have nDa : D ≠ a := (ne_of_none (e1 _ _ hsx) hD).symm
        have np3a : p3 ≠ a := (ne_of_none (e06 _ _ hsx) np3).symm
        have nD3 : D ≠ d := fun z => by
          rw [z, hd6] at hD6
          cases hD6
        have np3d : p3 ≠ d := fun z => by
          rw [z, hd7] at hp7
          cases hp7
        refine ⟨p3, rfl, ⟨_, SqL.of hp7⟩, for_list (xs := ss.map V.str) (fun i σ H' => ∃ (o5 o9 o10 o11 : Option V) (room : Int) (es : List (Str × Addr)) (t : List (Str × Kd)), σ = [some (.ref a), some v, some (.str sg), some (.ref pl), some (.ref D), o5, some (.int room), some (.int (6 - (k.deep : Int))), some (.ref d), o9, o10, o11] ∧
          But a H H' ∧ SrcAt H' a g (c + i * 23) ∧ H' D = some (.lst (k.letters.map V.str)) ∧ H' p3 = some (.lst (ss.map V.str)) ∧ 0 ≤ room ∧ room ≤ 6 ∧ H' d = some (.dK (es.map DS.entS)) ∧ TabAt H' es t ∧ t.map (·.1) = ss.take i ∧ (∀ x ∈ t, x.2.ok ∧ x.2.deep + k.deep ≤ 6 ∧ x.2.letters.length ≤ 8))
          ⟨_, none, none, none, _, [], [], rfl, But.of e07, (hs.mono e07 (Nat.le_refl _)).le (by omega), hD7, hp7, by omega, by omega, hd7, trivial, rfl, (fun _ z => nomatch z)⟩ (fun i σ H' _ ⟨_, _, _, _, _, _, _, _, _, _, _, h, _⟩ => SqL.of h) ?_ ?_⟩
        · rintro i x σ H8 hx ⟨o5, o9, o10, o11, room, es, t, rfl, b8, s8, hD8, hp8, r0, r6, hd8, ht8, nt8, kt8⟩
          have hi : i < (ss.map V.str).length := (List.getElem?_eq_some_iff.mp hx).1
          rw [List.length_map] at hi
          rw [List.getElem?_map] at hx
          obtain ⟨y, hy1, rfl⟩ := Option.map_eq_some_iff.mp hx
          have hyl : y ∈ k.letters := (hs'.mem y).1 (List.mem_of_getElem? hy1)
          have cpos : 1 ≤ k.letters.count y := List.count_pos_iff.mpr hyl
          have cle : k.letters.count y ≤ 7 := Nat.le_trans List.count_le_length hz
          have ycnt : y ∉ t.map (·.1) := fun z => by
            rw [nt8] at z
            obtain ⟨j, hj1, hj2⟩ := List.mem_take_iff_getElem.mp z
            have hjl : j < ss.length := by omega
            have e1 : ss[j]? = some y := by
              rw [List.getElem?_eq_getElem hjl]
              exact congrArg some hj2
            have := (List.getElem?_inj hjl hs'.nodup).mp (e1.trans hy1.symm)
            omega
          have les : es.length = t.length := by
            have := congrArg List.length ht8.keys
            rw [List.length_map, List.length_map] at this
            exact this
          have lt7 : t.length ≤ 7 := by
            have := congrArg List.length nt8
            rw [List.length_map, List.length_take] at this
            omega
          refine ⟨_, rfl, _, rfl, .inl ⟨rfl, _, SqL.of hD8⟩, _, rfl, D, k.letters, y, rfl, rfl, SqL.of hD8, _, _, rfl, ?_⟩
          obtain ⟨mx, hmx, mx1, mxc, mx7⟩ : ∃ mx : Int, (if ((k.letters.count y : Nat) : Int) > 1 then ((k.letters.count y : Nat) : Int) else 1) = mx ∧ 1 ≤ mx ∧ ((k.letters.count y : Nat) : Int) ≤ mx ∧ mx ≤ 7 := ⟨_, rfl, by split <;> omega, by split <;> omega, by split <;> omega⟩
          rw [hmx]
          have d0 : 0 ≤ room / mx := Int.ediv_nonneg r0 (by omega)
          have d1 : room / mx ≤ room := Int.ediv_le_self _ r0
          refine ⟨_, _, rfl, rfl, wide_div (b := 200) (by omega) (by omega) (by decide) (by decide), _, _, rfl, rfl, ?_⟩
          refine ⟨_, rfl, _, rfl, _, rfl, a, g, _, _, rfl, by omega, by omega, s8, by omega, fun u H9 u0 u1 b9 s9 => ⟨_, _, rfl, rfl, ?_⟩⟩
          refine ⟨_, rfl, sz1 (by show 3 ≤ 1000000; decide), fun l nl => ?_⟩
          have nla := (s9.ne nl).1
          have hl9 := new_at nl (.lst [.str "behind", .str "ahead", .str "with"])
          obtain ⟨sx8, hsx8⟩ := s8.lst
          refine ⟨_, rfl, a, g, l, _, _, ["behind", "ahead", "with"], sg, _, rfl, s9.new nl, by omega, nla, hl9, ⟨by decide, by decide, fun f hf => by simp only [List.mem_cons, List.not_mem_nil, or_false] at hf; exact hf⟩, pool, by omega, by omega, by omega, by omega, fun v' k' H10 b10 s10 ka ok' dd zz => ?_⟩
          have b810 : But a H8 H10 := b9.trans ((But.new nl).trans b10)
          have hD10 := b810 _ _ nDa hD8
          have hp10 := b810 _ _ np3a hp8
          have hd10 := b810 _ _ nda hd8
          have ht10 := ht8.mono (b810.tps hsx8)
          refine ⟨_, rfl, _, rfl, .inl ⟨rfl, _, SqL.of hD10⟩, _, rfl, D, k.letters, y, rfl, rfl, SqL.of hD10, ?_⟩
          have kb' : KB k' := ⟨ok', by omega, by omega⟩
          refine ⟨_, rfl, v', k', rfl, ⟨ka, kb'⟩, fun pl2 rows2 H11 e11 h11 w11 => ⟨pl2, _, rfl, .inl (SqL.of h11), _, _, rfl, rfl, ?_⟩⟩
          have l11 := w11.len
          rw [k'.places_len] at l11
          have kp' := k'.letters_pos
          rw [l11]
          refine ⟨_, _, rfl, rfl, .inl ⟨by omega, by omega⟩, _, _, rfl, rfl, ?_⟩
          obtain ⟨pv', rfl⟩ := ka.ref
          have hd11 := e11 _ _ hd10
          have ht11 := ht10.mono (.of e11)
          have hv0 : valV (es.map DS.entS) (.inr y) = none := by
            rcases ht11.val y with ⟨px, kx, _, hmem, _⟩ | ⟨hv, _⟩
            · exact (ycnt (List.mem_map_of_mem (f := (·.1)) hmem)).elim
            · exact hv
          have ek : putK (es.map DS.entS) (.inr y) (.ref pv') = (es ++ [(y, pv')]).map DS.entS := by
            rw [putK_new _ hv0, List.map_append]
            rfl
          refine ⟨_, rfl, _, rfl, _, rfl, d, _, rfl, DPut.k (k := .inr y) hd11 (sz2 (by rw [List.length_map]; omega)), ?_⟩
          rw [ek]
          have tp : Tps H11 (upd H11 d (.dK ((es ++ [(y, pv')]).map DS.entS))) := But.tpsD But.upd hd11
          have rk := room_ok (z := ((k'.letters.length : Nat) : Int) - 1) r0 mx1 mxc (by omega) (by omega) (by omega)
          have s11 := (s10.mono e11 (Nat.le_refl _)).upd (p := d) (u := .dK ((es ++ [(y, pv')]).map DS.entS)) ⟨nda, (hs.ne ndH).2⟩
          refine ⟨_, _, _, _, _, es ++ [(y, pv')], t ++ [(y, k')], rfl, but_mut (b8.trans (b810.trans (But.of e11))) ndH _, s11.le (by omega), ?_, ?_, rk.1, by omega, upd_same, All2.snoc ⟨rfl, (ka.mono (.of e11)).mono tp⟩ (ht11.mono tp), ?_, fun x hx => ?_⟩
          · rw [upd_ne nD3]
            exact e11 _ _ hD10
          · rw [upd_ne np3d]
            exact e11 _ _ hp10
          · rw [List.map_append, nt8, List.take_succ, hy1]
            rfl
          · rcases List.mem_append.mp hx with z | z
            · exact kt8 x z
            · rw [List.mem_singleton] at z
              subst z
              exact ⟨ok', by show k'.deep + k.deep ≤ 6; omega, by show k'.letters.length ≤ 8; omega⟩
        · rintro σ H8 ⟨o5, o9, o10, o11, room, es, t, rfl, b8, s8, hD8, hp8, r0, r6, hd8, ht8, nt8, kt8⟩
          rw [List.length_map, List.take_of_length_le (Nat.le_refl _)] at nt8
          rw [List.length_map] at s8
          exact ⟨_, rfl, q d es t H8 b8 (s8.le (by omega)) ndH hd8 ht8 (by show (t.map (·.1)).Nodup; rw [nt8]; exact hs'.nodup) (fun s => by rw [nt8]; exact hs'.mem s) kt8 rfl⟩
end
end K06

namespace K06
open PySem PySem.Spec PyProof.Rows L2 Ww
section
variable {P : Program} {w : World} {K : PySem.W.Frag} {mg : Str → Option Value} {base : Heap}
def spBent (n : Nat) : Sp := fun vs H Q _ => ∃ (a g : Addr) (c : Nat) (v : V) (k : Kd), vs = [.ref a, v] ∧ SrcAt H a g c ∧ c + 3 * n ≤ 900000 ∧ KAt H v k ∧ k.ok ∧ k.deep ≤ n ∧
  ∀ v' k' H', But a H H' → SrcAt H' a g (c + 3 * n) → KAt H' v' k' → k'.ok → k'.deep ≤ k.deep → k'.letters.length ≤ k.letters.length → Q v' H'
theorem spBent_0 {vs : List V} {H : Hp} {Q : VK} {E : XK} (h : spBent 0 vs H Q E) : False := by
  obtain ⟨a, g, c, v, k, _, _, _, _, _, hd, _⟩ := h
  have := k.deep_pos
  omega
theorem ok_bent (T : Txt w K mg) : ∀ n : Nat, FnOk P w K mg base CX0 (n + 2) T.a_bent T.d_bent P_bent (spBent n)
  | 0 => fn_none fun vs H Q E h => spBent_0 h
  | n + 1 => by
    have IH := ok_bent T n
    refine T.F_bent.ok sc_bent (fun vs H Q E h => ?_) (fun cdv A outer s H vs Q E hr h => ⟨_, (pss_cons (ps_if (pt_cmpR op_eq (pe_ix ix_tup (pv 1) pe_int (fun _ _ => rfl)) pe_str (nomark _))
    (pss_one (ps_ret (pe_tup (pa_cons pe_str (pa_cons (pe_item_str pe_str (pe_call (ok_pick T) (hr.mono (by first | decide | omega)) rfl T.m_pick T.F_pick.kp T.B_pick .nil pass0 (pa_cons (pv 0) (pa_cons pe_int pa_nil))) (fun _ _ => rfl)) pa_nil)))))
    pss_nil)
    (pss_cons (ps_set (i := 2) sc_bent.nd rfl (Or.inl rfl) (pe_call (ok_pick T) (hr.mono (by first | decide | omega)) rfl T.m_pick T.F_pick.kp T.B_pick .nil pass0 (pa_cons (pv 0) (pa_cons pe_int pa_nil))))
    (pss_cons (ps_if (pt_cmpR op_lt (pv 2) pe_int (nomark _))
    (pss_one (ps_ret (pe_tup (pa_cons (pe_ix ix_tup (pv 1) pe_int (fun _ _ => rfl)) (pa_cons (pe_call IH (hr.mono (by first | decide | omega)) rfl T.m_bent T.F_bent.kp T.B_bent .nil pass0 (pa_cons (pv 0) (pa_cons (pe_ix ix_tup (pv 1) pe_int (fun _ _ => rfl)) pa_nil))) (pa_cons (pe_ix ix_tup (pv 1) pe_int (fun _ _ => rfl)) pa_nil))))))
    pss_nil)
    (pss_cons (ps_if (pt_cmpR op_lt (pv 2) pe_int (nomark _))
    (pss_one (ps_ret (pe_tup (pa_cons (pe_ix ix_tup (pv 1) pe_int (fun _ _ => rfl)) (pa_cons (pe_ix ix_tup (pv 1) pe_int (fun _ _ => rfl)) (pa_cons (pe_call IH (hr.mono (by first | decide | omega)) rfl T.m_bent T.F_bent.kp T.B_bent .nil pass0 (pa_cons (pv 0) (pa_cons (pe_ix ix_tup (pv 1) pe_int (fun _ _ => rfl)) pa_nil))) pa_nil))))))
    pss_nil)
    (pss_cons (ps_if (pt_cmpR op_eq (pv 2) pe_int (nomark _))
    (pss_one (ps_ret (pe_tup (pa_cons (pe_ix ix_list (pe_lst (pa_cons pe_str (pa_cons pe_str (pa_cons pe_str pa_nil)))) (pe_call (ok_pick T) (hr.mono (by first | decide | omega)) rfl T.m_pick T.F_pick.kp T.B_pick .nil pass0 (pa_cons (pv 0) (pa_cons pe_int pa_nil))) (fun _ _ => rfl)) (pa_cons (pe_ix ix_tup (pv 1) pe_int (fun _ _ => rfl)) (pa_cons (pe_ix ix_tup (pv 1) pe_int (fun _ _ => rfl)) pa_nil))))))
    pss_nil)
    (pss_one (ps_ret (pe_ix ix_list (pe_lst (pa_cons (pe_ix ix_tup (pv 1) pe_int (fun _ _ => rfl)) (pa_cons (pe_ix ix_tup (pv 1) pe_int (fun _ _ => rfl)) (pa_cons (pe_tup (pa_cons pe_str (pa_cons (pe_ix ix_tup (pv 1) pe_int (fun _ _ => rfl)) (pa_cons (pe_ix ix_tup (pv 1) pe_int (fun _ _ => rfl)) pa_nil)))) pa_nil)))) (pe_call (ok_pick T) (hr.mono (by first | decide | omega)) rfl T.m_pick T.F_pick.kp T.B_pick .nil pass0 (pa_cons (pv 0) (pa_cons pe_int pa_nil))) (fun _ _ => rfl))))))))), ?_⟩)
    · obtain ⟨a, g, c, v, k, rfl, _⟩ := h
      rfl
    · obtain ⟨a, g, c, v, k, rfl, hs, hc, hk, ok, hd, q⟩ := h
      have c3 : 3 ≤ sizeLine := sz1 (by show 3 ≤ 1000000; decide)
      have c2 : 2 ≤ sizeLine := sz1 (by show 2 ≤ 1000000; decide)
      obtain ⟨sx, hsx⟩ := hs.lst
      cases k with
      | pl s =>
        obtain ⟨p, rfl, hp⟩ := hk
        refine ⟨_, rfl, p, _, _, _, rfl, rfl, SqT.of hp, at0, rfl, _, rfl, bt rfl ?_⟩
        refine ⟨_, rfl, a, g, 26, c, rfl, by decide, by decide, hs, by omega, fun r H1 r0 r1 b1 s1 => ?_⟩
        obtain ⟨x, hx, lx⟩ := abc_all.at r0 (by rw [abc_len]; exact r1)
        refine ⟨_, _, x, rfl, rfl, r0, by omega, by rw [abc_len]; exact r1, hx, c2, fun z nz => ?_⟩
        exact q _ (.pl ⟨#[x]⟩) _ (b1.trans (But.new nz)) ((s1.new nz).le (by omega)) ⟨z, rfl, upd_same⟩ lx (Nat.le_refl 1) (Nat.le_refl 1)
      | nd f x y =>
        have hk0 : KAt H v (.nd f x y) := hk
        obtain ⟨p, vx, vy, rfl, hp, hx, hy⟩ := hk
        obtain ⟨hf, ox, oy⟩ := ok
        have dm : 1 + max x.deep y.deep ≤ n + 1 := hd
        refine ⟨_, rfl, p, _, _, _, rfl, rfl, SqT.of hp, at0, rfl, _, rfl, bf (plain_ne hf) ?_⟩
        refine ⟨_, rfl, a, g, 6, c, rfl, by decide, by decide, hs, by omega, fun w H1 w0 w1 b1 s1 => ?_⟩
        have tp1 := b1.tps hsx
        have hp1 := tp1 _ _ hp
        have hx1 := hx.mono tp1
        have hy1 := hy.mono tp1
        obtain ⟨sx1, hsx1⟩ := s1.lst
        refine ⟨_, rfl, _, _, rfl, rfl, _, rfl, bb (fun _ => ?_) (fun _ => ⟨_, rfl, _, _, rfl, rfl, _, rfl, bb (fun _ => ?_) (fun _ => ⟨_, rfl, rfl, _, rfl, bb (fun _ => ?_) (fun _ => ?_)⟩)⟩)⟩
        · refine ⟨_, rfl, p, _, _, _, rfl, rfl, SqT.of hp1, at0, _, rfl, _, rfl, p, _, _, _, rfl, rfl, SqT.of hp1, at1, a, g, c + 1, vx, x, rfl, s1, by omega, hx1, ox, by omega, fun v' k' H2 b2 s2 kk ok' dd zz => ?_⟩
          have tp2 := b2.tps hsx1
          refine ⟨_, rfl, p, _, _, _, rfl, rfl, SqT.of (tp2 _ _ hp1), at2, c3, fun z nz => ?_⟩
          refine q _ (.nd f k' y) _ (b1.trans (b2.trans (But.new nz))) ((s2.new nz).le (by omega)) ⟨z, v', vy, rfl, upd_same, kk.mono (.new nz), (hy1.mono tp2).mono (.new nz)⟩ ⟨hf, ok', oy⟩ ?_ ?_
          · show 1 + max k'.deep y.deep ≤ 1 + max x.deep y.deep
            omega
          · show (k'.letters ++ y.letters).length ≤ (x.letters ++ y.letters).length
            rw [List.length_append, List.length_append]
            omega
        · refine ⟨_, rfl, p, _, _, _, rfl, rfl, SqT.of hp1, at0, _, rfl, p, _, _, _, rfl, rfl, SqT.of hp1, at1, _, rfl, _, rfl, p, _, _, _, rfl, rfl, SqT.of hp1, at2, a, g, c + 1, vy, y, rfl, s1, by omega, hy1, oy, by omega, fun v' k' H2 b2 s2 kk ok' dd zz => ?_⟩
          have tp2 := b2.tps hsx1
          refine ⟨c3, fun z nz => ?_⟩
          refine q _ (.nd f x k') _ (b1.trans (b2.trans (But.new nz))) ((s2.new nz).le (by omega)) ⟨z, vx, v', rfl, upd_same, (hx1.mono tp2).mono (.new nz), kk.mono (.new nz)⟩ ⟨hf, ox, ok'⟩ ?_ ?_
          · show 1 + max x.deep k'.deep ≤ 1 + max x.deep y.deep
            omega
          · show (x.letters ++ k'.letters).length ≤ (x.letters ++ y.letters).length
            rw [List.length_append, List.length_append]
            omega
        · refine ⟨c3, fun l nl => ⟨_, rfl, a, g, 3, c + 1, rfl, by decide, by decide, s1.new nl, by omega, fun r H2 r0 r1 b2 s2 => ?_⟩⟩
          have hl2 := b2 l _ (s1.ne nl).1 upd_same
          have b12 : But a H1 H2 := (But.new nl).trans b2
          have tp2 := b12.tps hsx1
          obtain ⟨fv, hv, hm⟩ := atI_mem (xs := [V.str "behind", V.str "ahead", V.str "with"]) r0 r1
          obtain ⟨f2, rfl, hf2⟩ : ∃ f : Str, fv = .str f ∧ Form f := by
            simp only [List.mem_cons, List.not_mem_nil, or_false] at hm
            rcases hm with rfl | rfl | rfl
            · exact ⟨_, rfl, .inl rfl⟩
            · exact ⟨_, rfl, .inr (.inl rfl)⟩
            · exact ⟨_, rfl, .inr (.inr rfl)⟩
          have hp2 := tp2 _ _ hp1
          refine ⟨l, _, _, _, rfl, rfl, SqL.of hl2, hv, _, rfl, p, _, _, _, rfl, rfl, SqT.of hp2, at2, _, rfl, p, _, _, _, rfl, rfl, SqT.of hp2, at1, c3, fun z nz => ?_⟩
          refine q _ (.nd f2 y x) _ (b1.trans (b12.trans (But.new nz))) ((s2.new nz).le (by omega)) ⟨z, vy, vx, rfl, upd_same, (hy1.mono tp2).mono (.new nz), (hx1.mono tp2).mono (.new nz)⟩ ⟨hf2, oy, ox⟩ ?_ ?_
          · show 1 + max y.deep x.deep ≤ 1 + max x.deep y.deep
            omega
          · show (y.letters ++ x.letters).length ≤ (x.letters ++ y.letters).length
            rw [List.length_append, List.length_append]
            omega
        · refine ⟨_, rfl, p, _, _, _, rfl, rfl, SqT.of hp1, at1, _, rfl, p, _, _, _, rfl, rfl, SqT.of hp1, at2, _, rfl, p, _, _, _, rfl, rfl, SqT.of hp1, at1, _, rfl, p, _, _, _, rfl, rfl, SqT.of hp1, at2, c3, fun z nz => ⟨c3, fun l nl => ?_⟩⟩
          have e2 := (same_new nz (.tup [.str "with", vx, vy])).trans (same_new nl (.lst [vx, vy, .ref z]))
          have hz2 := same_new nl (.lst [vx, vy, .ref z]) _ _ (upd_same (H := H1) (a := z) (o := .tup [.str "with", vx, vy]))
          have hl2 := upd_same (H := upd H1 z (.tup [.str "with", vx, vy])) (a := l) (o := .lst [vx, vy, .ref z])
          have nla := (s1.ne ((same_new nz (.tup [.str "with", vx, vy])).free nl)).1
          have s2 := s1.mono e2 (Nat.le_refl _)
          generalize upd (upd H1 z _) l _ = H2 at e2 hz2 hl2 s2
          obtain ⟨sx2, hsx2⟩ := s2.lst
          refine ⟨_, rfl, a, g, 3, c + 1, rfl, by decide, by decide, s2, by omega, fun r H3 r0 r1 b3 s3 => ?_⟩
          have tp3 := b3.tps hsx2
          obtain ⟨kv, hv, hm⟩ := atI_mem (xs := [vx, vy, V.ref z]) r0 r1
          refine ⟨l, _, _, _, rfl, rfl, SqL.of (b3 _ _ nla hl2), hv, ?_⟩
          have bb3 := b1.trans ((But.of e2).trans b3)
          have s3' := s3.le (show c + 1 + 1 ≤ c + 3 * (n + 1) by omega)
          have lxy : (Kd.nd f x y).letters.length = x.letters.length + y.letters.length := List.length_append
          have dxy : (Kd.nd f x y).deep = 1 + max x.deep y.deep := rfl
          simp only [List.mem_cons, List.not_mem_nil, or_false] at hm
          rcases hm with rfl | rfl | rfl
          · exact q _ x _ bb3 s3' (hx1.mono ((Tps.of e2).trans tp3)) ox (by omega) (by omega)
          · exact q _ y _ bb3 s3' (hy1.mono ((Tps.of e2).trans tp3)) oy (by omega) (by omega)
          · exact q _ (.nd "with" x y) _ bb3 s3' ⟨z, vx, vy, rfl, tp3 _ _ hz2, hx1.mono ((Tps.of e2).trans tp3), hy1.mono ((Tps.of e2).trans tp3)⟩ ⟨.inr (.inr rfl), ox, oy⟩ (Nat.le_refl _) (Nat.le_refl _)
end
end K06

namespace K06
open PySem PySem.Spec PyProof.Rows L2 Ww
section
variable {P : Program} {w : World} {K : PySem.W.Frag} {mg : Str → Option Value} {base : Heap}
def spDue : Sp := fun vs H Q _ => ∃ (v u : V) (k o : Kd), vs = [v, u] ∧ KOk H v k ∧ KOk H u o ∧
  (∀ l rows zs ps H', Same H H' → H l = none → H' l = some (.lst rows) → All2 (KRow H') rows zs → prs k o = some ps → Con ps → Asc zs ps → Q (.ref l) H') ∧ (∀ H', Same H H' → (∀ ps, prs k o = some ps → ¬ Con ps) → Q .non H')
def PPair (H : Hp) (v : V) (x : Kd × Kd) : Prop := ∃ p y z, v = .ref p ∧ H p = some (.tup [y, z]) ∧ KAt H y x.1 ∧ KAt H z x.2
theorem PPair.mono {H H' : Hp} (e : Tps H H') (v : V) (x : Kd × Kd) (h : PPair H v x) : PPair H' v x := by
  obtain ⟨p, y, z, q, h, k1, k2⟩ := h
  exact ⟨p, y, z, q, e _ _ h, k1.mono e, k2.mono e⟩
def PB (x : Kd × Kd) : Prop := (x.1.ok ∧ x.1.deep ≤ 8) ∧ x.2.ok ∧ x.2.deep ≤ 8
theorem PPair.lk {K : PySem.W.Frag} {H : Hp} {v : V} {x : Kd × Kd} (h : PPair H v x) (b : PB x) : Lk K H v := by
  obtain ⟨p, y, z, rfl, h, k1, k2⟩ := h
  refine ⟨.tuple [x.1.dat, x.2.dat], .tup (SqT.of h) (.cons k1.dp (.cons k2.dp .nil)), ?_, ?_⟩
  · show (x.1.dat.canLay0 && (x.2.dat.canLay0 && true)) = true
    rw [x.1.lay b.1.1, x.2.lay b.2.1]
    rfl
  · show max x.1.dat.depth (max x.2.dat.depth 0) + 1 ≤ 60
    rw [x.1.dat_depth, x.2.dat_depth]
    have := b.1.2
    have := b.2.2
    omega
def prsA : List (Kd × Kd) → Option (List (Str × Kd))
  | [] => some []
  | x :: r => match prs x.1 x.2, prsA r with
    | some p, some q => some (p ++ q)
    | _, _ => none
def PRel (st : List (Kd × Kd)) (done : List (Str × Kd)) (k o : Kd) : Prop :=
  (∀ qs, prsA st = some qs → ∃ ps, prs k o = some ps ∧ ∀ x, x ∈ ps ↔ x ∈ done ++ qs) ∧ (prsA st = none → prs k o = none)
theorem prel_init (k o : Kd) : PRel [(k, o)] [] k o := by
  have e : prsA [(k, o)] = (prs k o).map fun p => p ++ [] := by
    show (match prs k o, some [] with
      | some p, some q => some (p ++ q)
      | _, _ => none) = _
    cases prs k o <;> rfl
  refine ⟨fun qs h => ?_, fun h => ?_⟩
  · rw [e] at h
    obtain ⟨p, h1, h2⟩ := Option.map_eq_some_iff.mp h
    exact ⟨p, h1, fun x => by rw [← h2, List.append_nil, List.nil_append]⟩
  · rw [e] at h
    exact Option.map_eq_none_iff.mp h
theorem prel_pl {s : Str} {o' : Kd} {r : List (Kd × Kd)} {done : List (Str × Kd)} {k o : Kd} (h : PRel ((.pl s, o') :: r) done k o) : PRel r (done ++ [(s, o')]) k o := by
  have e : prsA ((.pl s, o') :: r) = (prsA r).map fun q => (s, o') :: q := by
    show (match some [(s, o')], prsA r with
      | some p, some q => some (p ++ q)
      | _, _ => none) = _
    cases prsA r <;> rfl
  refine ⟨fun qs hq => ?_, fun hq => h.2 (by rw [e, hq]; rfl)⟩
  obtain ⟨ps, h1, h2⟩ := h.1 ((s, o') :: qs) (by rw [e, hq]; rfl)
  refine ⟨ps, h1, fun x => ?_⟩
  rw [h2 x, List.append_assoc]
  rfl
theorem prel_nd {f : Str} {a b c d : Kd} {r : List (Kd × Kd)} {done : List (Str × Kd)} {k o : Kd} (h : PRel ((.nd f a b, .nd f c d) :: r) done k o) : PRel ((b, d) :: (a, c) :: r) done k o := by
  have e : prs (.nd f a b) (.nd f c d) = (match prs a c, prs b d with
    | some x, some y => some (x ++ y)
    | _, _ => none) := if_pos rfl
  obtain ⟨h1, h2⟩ := h
  have e1 : prsA ((.nd f a b, .nd f c d) :: r) = (match prs (.nd f a b) (.nd f c d), prsA r with
    | some p, some q => some (p ++ q)
    | _, _ => none) := rfl
  have e2 : prsA ((b, d) :: (a, c) :: r) = (match prs b d, (match prs a c, prsA r with
      | some p, some q => some (p ++ q)
      | _, _ => none) with
    | some p, some q => some (p ++ q)
    | _, _ => none) := rfl
  rw [e1, e] at h1 h2
  unfold PRel
  rw [e2]
  cases h3 : prs a c with
  | none =>
    rw [h3] at h2
    refine ⟨fun qs hq => ?_, fun _ => h2 rfl⟩
    cases h4 : prs b d <;> rw [h4] at hq <;> cases hq
  | some pa =>
    cases h4 : prs b d with
    | none =>
      rw [h3, h4] at h2
      exact ⟨(fun qs hq => nomatch hq), fun _ => h2 rfl⟩
    | some pb =>
      cases h5 : prsA r with
      | none =>
        rw [h3, h4, h5] at h2
        exact ⟨(fun qs hq => nomatch hq), fun _ => h2 rfl⟩
      | some pr =>
        rw [h3, h4, h5] at h1
        refine ⟨fun qs hq => ?_, fun hq => nomatch hq⟩
        obtain ⟨ps, g1, g2⟩ := h1 _ rfl
        refine ⟨ps, g1, fun x => ?_⟩
        have eq : pb ++ (pa ++ pr) = qs := Option.some.inj hq
        rw [g2 x, ← eq]
        simp only [List.mem_append]
        constructor
        · rintro (z | (z | z) | z)
          · exact .inl z
          · exact .inr (.inr (.inl z))
          · exact .inr (.inl z)
          · exact .inr (.inr (.inr z))
        · rintro (z | z | z | z)
          · exact .inl z
          · exact .inr (.inl (.inr z))
          · exact .inr (.inl (.inl z))
          · exact .inr (.inr z)
theorem prel_no {x : Kd × Kd} {r : List (Kd × Kd)} {done : List (Str × Kd)} {k o : Kd} (h : PRel (x :: r) done k o) (e : prs x.1 x.2 = none) : ∀ ps, prs k o = some ps → ¬ Con ps := fun ps hp => by
  have : prsA (x :: r) = none := by
    show (match prs x.1 x.2, prsA r with
      | some p, some q => some (p ++ q)
      | _, _ => none) = _
    rw [e]
  rw [h.2 this] at hp
  cases hp
theorem wt_pos : ∀ k : Kd, 1 ≤ k.wt
  | .pl s => Nat.le_refl 1
  | .nd f a b => by show 1 ≤ 1 + a.wt + b.wt; omega
theorem sum_pos : ∀ st : List (Kd × Kd), st.length ≤ (st.map fun x => x.1.letters.length).sum
  | [] => Nat.le_refl 0
  | x :: st => by
    have := sum_pos st
    have := x.1.letters_pos
    rw [List.map_cons, List.sum_cons, List.length_cons]
    omega
theorem ok_due (T : Txt w K mg) : FnOk P w K mg base CX0 (2) T.a_due T.d_due P_due (spDue) := by
  refine T.F_due.ok sc_due (fun vs H Q E h => ?_) (fun cdv A outer s H vs Q E hr h => ⟨_, (pss_cons (ps_par (i := 2) (j := 3) rfl sc_due.nd rfl rfl (by decide) rfl rfl (pa_cons (pe_lst pa_nil) (pa_cons (pe_lst (pa_cons (pe_tup (pa_cons (pv 0) (pa_cons (pv 1) pa_nil))) pa_nil)) pa_nil)) rfl)
    (pss_cons (ps_while PassesOwn.never (pt_cmpR (op_neD (hu64 hr)) (pv 3) (pe_lst pa_nil) (nomark _))
    (pss_cons (ps_asg (pe_bm0 PySem.F.plainAttrs_list PySem.F.slot_list_pop PySem.F.type_list_pop mt_pop (pv 3)) (pg_tup rfl (pgs_cons (pg_name (i := 4) sc_due.nd rfl (Or.inl rfl)) (pgs_cons (pg_name (i := 5) sc_due.nd rfl (Or.inl rfl)) pgs_nil))))
    (pss_one (ps_if (pt_cmpR op_eq (pe_ix ix_tup (pv 4) pe_int (fun _ _ => rfl)) pe_str (nomark _))
    (pss_one (ps_expr (pe_bm PySem.F.plainAttrs_list PySem.F.slot_list_append PySem.F.type_list_append mt_append (pv 2) (pa_cons (pe_tup (pa_cons (pe_ix ix_tup (pv 4) pe_int (fun _ _ => rfl)) (pa_cons (pv 5) pa_nil))) pa_nil))))
    (pss_one (ps_if (pt_cmpR op_ne (pe_ix ix_tup (pv 4) pe_int (fun _ _ => rfl)) (pe_ix ix_tup (pv 5) pe_int (fun _ _ => rfl)) (nomark _))
    (pss_one (ps_ret pe_non))
    (pss_one (ps_set (i := 3) sc_due.nd rfl (Or.inl rfl) (pe_op op_cat (pv 3) (pe_lst (pa_cons (pe_tup (pa_cons (pe_ix ix_tup (pv 4) pe_int (fun _ _ => rfl)) (pa_cons (pe_ix ix_tup (pv 5) pe_int (fun _ _ => rfl)) pa_nil))) (pa_cons (pe_tup (pa_cons (pe_ix ix_tup (pv 4) pe_int (fun _ _ => rfl)) (pa_cons (pe_ix ix_tup (pv 5) pe_int (fun _ _ => rfl)) pa_nil))) pa_nil))))))))))))
    (pss_cons (ps_set (i := 6) sc_due.nd rfl (Or.inl rfl) (pe_lst pa_nil))
    (pss_cons (ps_for PassesOwn.never rfl (pi_list (pe_callB (cr_sortS rfl) rfl T.b_sorted (by decide +kernel) (pa_cons (pe_callTy (cr_setS rfl) (by rfl) T.b_set (by decide +kernel) (pa_cons (pe_lc (own := [("_law_pair", 8)]) (g := gName 8) rfl sc_due.nd (pi_list (pv 2)) (blkOk_by (N := N_due) (own := [("_law_pair", 8)]) (sc := defScope s_due) (by decide +kernel)) (fun _ _ _ _ _ => (pg_name (i := 8) sc_due.nd rfl (Or.inl rfl))) (fun _ _ _ _ _ => pts_nil) (fun _ _ _ _ _ => (pe_ix (show IxR _ (rIxT K) from ix_tup) (pv 8) pe_int (fun _ _ => rfl)))) pa_nil)) pa_nil))) (pg_name (i := 7) sc_due.nd rfl (Or.inr rfl))
    (pss_cons (ps_set (i := 9) sc_due.nd rfl (Or.inr rfl) (pe_lc (own := [("_law_pair", 8)]) (g := gName 8) rfl sc_due.nd (pi_list (pv 2)) (blkOk_by (N := N_due) (own := [("_law_pair", 8)]) (sc := defScope s_due) (by decide +kernel)) (fun _ _ _ _ _ => (pg_name (i := 8) sc_due.nd rfl (Or.inl rfl))) (fun _ _ _ _ _ => (pts_one (pt_cmpR op_eq (pe_ix (show IxR _ (rIxT K) from ix_tup) (pv 8) pe_int (fun _ _ => rfl)) (pv 7) (nomark _)))) (fun _ _ _ _ _ => (pe_ix (show IxR _ (rIxT K) from ix_tup) (pv 8) pe_int (fun _ _ => rfl)))))
    (pss_cons (ps_if (pt_cmpR (op_neD (hu64 hr)) (pe_lc (own := [("_law_part", 10)]) (g := gName 10) rfl sc_due.nd (pi_list (pv 9)) (blkOk_by (N := N_due) (own := [("_law_part", 10)]) (sc := defScope s_due) (by decide +kernel)) (fun _ _ _ _ _ => (pg_name (i := 10) sc_due.nd rfl (Or.inl rfl))) (fun _ _ _ _ _ => (pts_one (pt_cmpR (show OpR _ _ (rNeD K) from op_neD (hu64 hr)) (pv 10) (pe_ix (show IxR _ (rIxL K) from ix_list) (pv 9) pe_int (fun _ _ => rfl)) (nomark _)))) (fun _ _ _ _ _ => (pv 10))) (pe_lst pa_nil) (nomark _))
    (pss_one (ps_ret pe_non))
    pss_nil)
    (pss_one (ps_expr (pe_bm PySem.F.plainAttrs_list PySem.F.slot_list_append PySem.F.type_list_append mt_append (pv 6) (pa_cons (pe_tup (pa_cons (pv 7) (pa_cons (pe_ix ix_list (pv 9) pe_int (fun _ _ => rfl)) pa_nil))) pa_nil)))))))
    (pss_one (ps_ret (pv 6))))))), ?_⟩)
  · obtain ⟨v, u, k, o, rfl, _⟩ := h
    rfl
  · obtain ⟨v, u, k, o, rfl, hk, ho, q1, q2⟩ := h
    have c2 : 2 ≤ sizeLine := sz1 (by show 2 ≤ 1000000; decide)
    have c1 : 1 ≤ sizeLine := sz1 (by show 1 ≤ 1000000; decide)
    have c0 : 0 ≤ sizeLine := sz1 (by show 0 ≤ 1000000; decide)
    refine ⟨c0, fun p1 n1 => ⟨_, rfl, _, rfl, c2, fun t0 nt0 => ⟨c1, fun l2 n2 => ⟨_, _, rfl, ?_⟩⟩⟩⟩
    have sA : Same H (upd H p1 (.lst [])) := same_new n1 _
    have sB := sA.trans (same_new nt0 (.tup [v, u]))
    have sC := sB.trans (same_new n2 (.lst [.ref t0]))
    have h1 := same_new n2 (.lst [.ref t0]) _ _ (same_new nt0 (.tup [v, u]) _ _ (new_at n1 (.lst [])))
    have ht0 := same_new n2 (.lst [.ref t0]) _ _ (new_at nt0 (.tup [v, u]))
    have h2 := new_at n2 (.lst [.ref t0])
    have f2 : H l2 = none := sB.free n2
    have n12 : p1 ≠ l2 := ne_of_none (same_new nt0 (.tup [v, u]) _ _ (new_at n1 (.lst []))) n2
    generalize upd (upd (upd H p1 (.lst [])) t0 (.tup [v, u])) l2 (.lst [.ref t0]) = H0 at sC h1 ht0 h2
    refine ⟨fun m σ H' => ∃ (l : Addr) (o4 o5 : Option V) (rows ys : List V) (done : List (Str × Kd)) (st : List (Kd × Kd)), m = (st.map fun x => x.1.wt).sum ∧ σ = [some v, some u, some (.ref p1), some (.ref l), o4, o5, none, none, none, none, none] ∧ Same H H' ∧ H l = none ∧ p1 ≠ l ∧ H' p1 = some (.lst rows) ∧ H' l = some (.lst ys.reverse) ∧
      All2 (PPair H') ys st ∧ All2 (KRow H') rows done ∧ PRel st done k o ∧ (∀ x ∈ st, PB x) ∧ (∀ x ∈ done, x.2.ok ∧ x.2.deep ≤ 8) ∧ (∀ x ∈ done, Let x.1) ∧ done.length + (st.map fun x => x.1.letters.length).sum ≤ 60,
      ⟨_, l2, none, none, [], [.ref t0], [], [(k, o)], rfl, rfl, sC, f2, n12, h1, h2, ⟨⟨t0, v, u, rfl, ht0, hk.1.mono (.of sC), ho.1.mono (.of sC)⟩, trivial⟩, trivial, prel_init k o, fun x hx => ?_, (fun _ z => nomatch z), (fun _ z => nomatch z), ?_⟩, ?_⟩
    · rw [List.mem_singleton] at hx
      rw [hx]
      exact ⟨⟨hk.2.1, hk.2.2.1⟩, ho.2.1, ho.2.2.1⟩
    · show 0 + (k.letters.length + 0) ≤ 60
      have := hk.2.2.2
      omega
    · rintro m σ H1 ⟨l, o4, o5, rows, ys, done, st, rfl, rfl, e1, nl, npl, hr1, hr2, hst, hrow, hrel, hpb, hdk, hdl, hsum⟩
      have lys := hst.len
      have lrow := hrow.len
      have lst := sum_pos st
      refine ⟨_, rfl, c0, fun z nz => ne_nil (same_new nz _ _ _ hr2) upd_same (fun w hw => ?_) ?_⟩
      · obtain ⟨x, m, r⟩ := hst.mem (List.mem_reverse.mp hw)
        exact (PPair.mono (.new nz) _ _ r).lk (hpb x m)
      · have eZ := e1.trans (same_new nz (.lst []))
        have z1 := same_new nz (.lst []) _ _ hr1
        have z2 := same_new nz (.lst []) _ _ hr2
        have tz : Tps H1 (upd H1 z (.lst [])) := .new nz
        replace hst := hst.mono (PPair.mono tz)
        replace hrow := hrow.mono (KRow.mono tz)
        generalize upd H1 z (.lst []) = H2 at eZ z1 z2 hst hrow
        cases ys with
        | nil =>
          cases st with
          | cons _ _ => exact hst.elim
          | nil =>
            obtain ⟨ps, hps, hmem⟩ := hrel.1 [] rfl
            refine ⟨_, rfl, bf rfl ?_⟩
            have hmem' : ∀ x, x ∈ ps ↔ x ∈ done := fun x => by rw [hmem x, List.append_nil]
            have ldone : done.length ≤ 60 := by
              have : done.length + 0 ≤ 60 := hsum
              omega
            refine ⟨c0, fun f nf => ?_⟩
            have nfH : H f = none := eZ.free nf
            have nfp : p1 ≠ f := ne_of_none z1 nf
            have eF := eZ.trans (same_new nf (.lst []))
            have hf3 := new_at nf (.lst [])
            have hp3' := same_new nf (.lst []) _ _ z1
            replace hrow := hrow.mono (KRow.mono (.new (o := .lst []) nf))
            generalize upd H2 f (.lst []) = H3 at eF hf3 hp3' hrow
            have tk : ∀ {i : Nat} {y : Str × Kd} {α : Type} (f : Str × Kd → α), done[i]? = some y → (done.take (i + 1)).map f = (done.take i).map f ++ [f y] := fun {i y α} f hi => by
              rw [List.take_succ, hi, List.map_append]
              rfl
            refine ⟨_, rfl, p1, rfl, ⟨rows, SqL.of hp3'⟩, fun D hD => ?_⟩
            refine lc_list (K := K) (xs := rows) (fun i H4 => Same H3 H4 ∧ H4 D = some (.lst ((done.take i).map fun x => V.str x.1))) ⟨same_new hD _, upd_same⟩ (fun i H4 hi ⟨e4, _⟩ => SqL.of (e4 _ _ hp3')) ?_ ?_
            · rintro i x H4 hx ⟨e4, hy⟩
              obtain ⟨y, hy2, p, u', rfl, hp, _⟩ := hrow.get hx
              refine ⟨rfl, lc_yes ⟨_, rfl, p, _, _, _, rfl, rfl, SqT.of (e4 _ _ hp), at0, _, hy, sz2 (by rw [List.length_map, List.length_take]; omega), same_mut e4 hD _, ?_⟩⟩
              rw [upd_same, tk _ hy2]
            · rintro H4 ⟨e4, hy⟩
              rw [List.take_of_length_le (by omega)] at hy
              have em : (done.map fun x => V.str x.1) = (done.map (·.1)).map V.str := by
                rw [List.map_map]
                rfl
              rw [em] at hy
              refine ⟨D, done.map (·.1), rfl, SqL.of hy, by rw [List.length_map]; omega, fun p2 hp2 => ?_⟩
              have l2 := dedup_len (done.map (·.1)) []
              rw [List.length_nil, List.length_map] at l2
              refine ⟨p2, _, rfl, upd_same, by omega, fun ss p3 hsd hp3 => ?_⟩
              have hs' := hsd.of_dedup
              have e7 := (same_new hp2 _).trans (same_new hp3 (.lst (ss.map V.str)))
              have hp7 := new_at hp3 (.lst (ss.map V.str))
              have np3 : H4 p3 = none := (same_new hp2 _).free hp3
              generalize upd (upd H4 p2 _) p3 (.lst (ss.map V.str)) = H7 at e7 hp7
              have e37 := e4.trans e7
              have np3f : p3 ≠ f := (ne_of_none (e4 _ _ hf3) np3).symm
              refine ⟨p3, rfl, ⟨_, SqL.of hp7⟩, for_list (xs := ss.map V.str) (fun i σ H' => ∃ (o4 o5 o7 o8 o9 o10 : Option V) (frows : List V) (zs : List (Str × Kd)), σ = [some v, some u, some (.ref p1), some (.ref l), o4, o5, some (.ref f), o7, o8, o9, o10] ∧ Same H H' ∧ H' p1 = some (.lst rows) ∧ All2 (KRow H') rows done ∧ H' p3 = some (.lst (ss.map V.str)) ∧ H' f = some (.lst frows) ∧ All2 (KRow H') frows zs ∧
                zs.map (·.1) = ss.take i ∧ (∀ x ∈ zs, x ∈ done) ∧ (∀ x ∈ zs, ∀ z, (x.1, z) ∈ done → z = x.2))
                ⟨_, _, _, _, _, _, [], [], rfl, eF.trans e37, e37 _ _ hp3', hrow.mono (KRow.mono (.of e37)), hp7, e37 _ _ hf3, trivial, rfl, (fun _ z => nomatch z), (fun _ z => nomatch z)⟩ (fun i σ H' _ ⟨_, _, _, _, _, _, _, _, _, _, _, _, h, _⟩ => SqL.of h) ?_ ?_⟩
              · rintro i x σ H8 hx ⟨o4, o5, o7, o8, o9, o10, frows, zs, rfl, e8, hr8, w8, hp8, hf8, wz8, nz8, in8, un8⟩
                have hi : i < (ss.map V.str).length := (List.getElem?_eq_some_iff.mp hx).1
                rw [List.length_map] at hi
                rw [List.getElem?_map] at hx
                obtain ⟨y, hy1, rfl⟩ := Option.map_eq_some_iff.mp hx
                have hyd : y ∈ done.map (·.1) := (hs'.mem y).1 (List.mem_of_getElem? hy1)
                refine ⟨_, rfl, p1, rfl, ⟨rows, SqL.of hr8⟩, fun D2 hD2 => ?_⟩
                refine lc_list (K := K) (xs := rows) (fun j H' => Same H8 H' ∧ ∃ acc, H' D2 = some (.lst acc) ∧ All2 (KAt H') acc (((done.take j).filter fun x => decide (x.1 = y)).map (·.2))) ⟨same_new hD2 _, [], upd_same, trivial⟩ (fun j H' _ ⟨e, _⟩ => SqL.of (e _ _ hr8)) ?_ ?_
                · rintro j q0 H9 hq0 ⟨e9, acc, ha, wa⟩
                  obtain ⟨x, hxd, p, u', rfl, hp, hku⟩ := w8.get hq0
                  have lacc := wa.len
                  have lf := List.length_filter_le (fun x : Str × Kd => decide (x.1 = y)) (done.take j)
                  rw [List.length_map] at lacc
                  rw [List.length_take] at lf
                  have ef : ((done.take (j + 1)).filter fun x => decide (x.1 = y)).map (·.2) = ((done.take j).filter fun x => decide (x.1 = y)).map (·.2) ++ (if x.1 = y then [x.2] else []) := by
                    rw [List.take_succ, hxd, List.filter_append, List.map_append]
                    congr 1
                    show (List.filter (fun x => decide (x.1 = y)) [x]).map (·.2) = _
                    by_cases c : x.1 = y
                    · simp [c]
                    · simp [c]
                  refine ⟨rfl, _, rfl, p, _, _, _, rfl, rfl, SqT.of (e9 _ _ hp), at0, _, rfl, rfl, _, rfl, bb (fun c => ?_) (fun c => ?_)⟩
                  · have c' : x.1 = y := V.str.inj (of_decide_eq_true c)
                    have tp : Tps H9 (upd H9 D2 (.lst (acc ++ [u']))) := Tps.lst ha
                    refine ⟨_, rfl, p, _, _, _, rfl, rfl, SqT.of (e9 _ _ hp), at1, acc, ha, sz2 (by omega), same_mut e9 hD2 _, acc ++ [u'], upd_same, ?_⟩
                    rw [ef, if_pos c']
                    exact All2.snoc (hku.mono ((Tps.of e9).trans tp)) (wa.kat tp)
                  · have c' : ¬ x.1 = y := fun z => of_decide_eq_false c (by rw [z])
                    refine ⟨e9, acc, ha, ?_⟩
                    rw [ef, if_neg c', List.append_nil]
                    exact wa
                · rintro H9 ⟨e9, pv, hD9, wp⟩
                  rw [List.take_of_length_le (by omega)] at wp
                  have inP : ∀ z, z ∈ ((done.filter fun x => decide (x.1 = y)).map (·.2)) ↔ (y, z) ∈ done := fun z => by
                    constructor
                    · intro h
                      obtain ⟨x, hx, rfl⟩ := List.mem_map.mp h
                      obtain ⟨h1, h2⟩ := List.mem_filter.mp hx
                      have e : (y, x.2) = x := by rw [← of_decide_eq_true h2]
                      rw [e]
                      exact h1
                    · intro h
                      exact List.mem_map.mpr ⟨(y, z), List.mem_filter.mpr ⟨h, decide_eq_true rfl⟩, rfl⟩
                  generalize hP : ((done.filter fun x => decide (x.1 = y)).map (·.2)) = P0 at wp inP
                  have lP : P0.length ≤ 60 := by
                    rw [← hP, List.length_map]
                    exact Nat.le_trans (List.length_filter_le _ _) ldone
                  obtain ⟨x0, hx0, ex0⟩ := List.mem_map.mp hyd
                  have mx0 : x0.2 ∈ P0 := (inP _).2 (by rw [← ex0]; exact hx0)
                  have lpv := wp.len
                  obtain ⟨k0, P', rfl⟩ : ∃ k0 P', P0 = k0 :: P' := by
                    cases P0 with
                    | nil => cases mx0
                    | cons a b => exact ⟨a, b, rfl⟩
                  obtain ⟨v0, pv', rfl⟩ : ∃ v0 pv', pv = v0 :: pv' := by
                    cases pv with
                    | nil => cases lpv
                    | cons a b => exact ⟨a, b, rfl⟩
                  have kin : ∀ z ∈ k0 :: P', z.ok ∧ z.deep ≤ 8 := fun z hz => hdk _ ((inP z).1 hz)
                  have k0in := kin k0 List.mem_cons_self
                  have e89 := e8.trans e9
                  have hp19 := e9 _ _ hr8
                  refine ⟨_, rfl, D2, rfl, ⟨_, SqL.of hD9⟩, fun D3 hD3 => ?_⟩
                  refine lc_list (K := K) (xs := v0 :: pv') (fun j H' => Same H9 H' ∧ ∃ (acc : List V) (ks' : List Kd), H' D3 = some (.lst acc) ∧ All2 (KAt H') acc ks' ∧ (∀ z ∈ ks', z ∈ k0 :: P' ∧ z ≠ k0) ∧ (ks' = [] → ∀ z ∈ (k0 :: P').take j, z = k0) ∧ acc.length ≤ j) ⟨same_new hD3 _, [], [], upd_same, trivial, (fun _ z => nomatch z), (fun _ z hz => by rw [List.take_zero] at hz; cases hz), Nat.le_refl 0⟩ (fun j H' _ ⟨e, _⟩ => SqL.of (e _ _ hD9)) ?_ ?_
                  · rintro j w1 H10 hw1 ⟨e10, acc, ks', ha, wa, hin, hall, la⟩
                    obtain ⟨kz, hkz, rz⟩ := wp.get hw1
                    have hj : j < (v0 :: pv').length := (List.getElem?_eq_some_iff.mp hw1).1
                    have zin := kin kz (List.mem_of_getElem? hkz)
                    have rz10 := rz.mono (.of e10)
                    have r010 := wp.1.mono (.of e10)
                    refine ⟨rfl, _, rfl, _, rfl, D2, _, _, _, rfl, rfl, SqL.of (e10 _ _ hD9), at0, kz.dat, k0.dat, rz10.dp, r010.dp, kd_shaped zin.1 zin.2, kd_shaped k0in.1 k0in.2, _, rfl, bb (fun c => ?_) (fun c => ?_)⟩
                    · have ne : kz ≠ k0 := fun z => by
                        rw [(kd_eqv kz k0).2 z] at c
                        cases c
                      have tp : Tps H10 (upd H10 D3 (.lst (acc ++ [w1]))) := Tps.lst ha
                      refine ⟨_, rfl, acc, ha, sz2 (by omega), same_mut e10 hD3 _, acc ++ [w1], ks' ++ [kz], upd_same, All2.snoc (rz10.mono tp) (wa.kat tp), fun z hz => ?_, fun z => ?_, by rw [List.length_append]; exact Nat.succ_le_succ la⟩
                      · rcases List.mem_append.mp hz with h | h
                        · exact hin z h
                        · rw [List.mem_singleton] at h
                          subst h
                          exact ⟨List.mem_of_getElem? hkz, ne⟩
                      · simp at z
                    · have e : kz = k0 := (kd_eqv kz k0).1 (by
                        cases h : PyData.eqv kz.dat k0.dat with
                        | true => rfl
                        | false =>
                          rw [h] at c
                          cases c)
                      refine ⟨e10, acc, ks', ha, wa, hin, fun hn z hz => ?_, by omega⟩
                      rw [List.take_succ, hkz] at hz
                      rcases List.mem_append.mp hz with h | h
                      · exact hall hn z h
                      · have : z = kz := by simpa using h
                        rw [this, e]
                  · rintro H10 ⟨e10, acc, ks', ha, wa, hin, hall, la⟩
                    refine ⟨c0, fun z0 nz0 => ne_nil (same_new nz0 _ _ _ ha) upd_same (fun w hw => ?_) ?_⟩
                    · obtain ⟨x, m, r⟩ := wa.mem hw
                      have := kin x (hin x m).1
                      exact (r.mono (.new nz0)).lk this.1 (by omega)
                    · have e11 := e10.trans (same_new nz0 (.lst []))
                      generalize upd H10 z0 (.lst []) = H11 at e11
                      have e811 := e8.trans (e9.trans e11)
                      have e811' := e9.trans e11
                      cases acc with
                      | cons w ws =>
                        refine ⟨_, rfl, bt rfl ?_⟩
                        refine q2 H11 e811 (fun ps' hps' hc => ?_)
                        have ee : ps = ps' := Option.some.inj (hps.symm.trans hps')
                        subst ee
                        cases ks' with
                        | nil => exact wa.elim
                        | cons z ks' =>
                          obtain ⟨h1, h2⟩ := hin z List.mem_cons_self
                          exact h2 (hc y z k0 ((hmem' _).2 ((inP z).1 h1)) ((hmem' _).2 ((inP k0).1 List.mem_cons_self)))
                      | nil =>
                        cases ks' with
                        | cons _ _ => exact wa.elim
                        | nil =>
                          have alleq : ∀ z ∈ k0 :: P', z = k0 := fun z hz => hall rfl z (by rw [List.take_of_length_le (by omega)]; exact hz)
                          refine ⟨_, rfl, bf rfl ?_⟩
                          have hf11 := e811' _ _ hf8
                          have lz := wz8.len
                          have lzs : zs.length ≤ ss.length := by
                            have := congrArg List.length nz8
                            rw [List.length_map, List.length_take] at this
                            omega
                          have lss : ss.length ≤ 60 := by
                            have := nd_len hs'.nodup fun x hx => (hs'.mem x).1 hx
                            rw [List.length_map] at this
                            omega
                          refine ⟨_, rfl, .inl ⟨rfl, _, SqL.of hf11⟩, _, rfl, _, rfl, D2, _, _, _, rfl, rfl, SqL.of (e11 _ _ hD9), at0, c2, fun t nt => ?_⟩
                          have hf12 := same_new nt (.tup [.str y, v0]) _ _ hf11
                          refine ⟨f, _, _, rfl, rfl, hf12, sz2 (by omega), ?_⟩
                          have tp : Tps H11 (upd (upd H11 t (.tup [.str y, v0])) f (.lst (frows ++ [.ref t]))) := (Tps.new nt).trans (Tps.lst hf12)
                          have tp8 := (Tps.of e811').trans tp
                          refine ⟨_, _, _, _, _, _, frows ++ [.ref t], zs ++ [(y, k0)], rfl, same_mut (e811.trans (same_new nt _)) nfH _, ?_, w8.mono (KRow.mono tp8), ?_, upd_same, All2.snoc ⟨t, v0, rfl, ?_, wp.1.mono ((Tps.of e11).trans tp)⟩ (wz8.mono (KRow.mono tp8)), ?_, fun x hx => ?_, fun x hx z hz => ?_⟩
                          · rw [upd_ne nfp]
                            exact same_new nt _ _ _ (e811' _ _ hr8)
                          · rw [upd_ne np3f]
                            exact same_new nt _ _ _ (e811' _ _ hp8)
                          · rw [List.map_append, nz8, List.take_succ, hy1]
                            rfl
                          · rcases List.mem_append.mp hx with h | h
                            · exact in8 x h
                            · rw [List.mem_singleton] at h
                              subst h
                              exact (inP k0).1 List.mem_cons_self
                          · rcases List.mem_append.mp hx with h | h
                            · exact un8 x h z hz
                            · rw [List.mem_singleton] at h
                              subst h
                              exact alleq z ((inP z).2 hz)
                          · rw [upd_ne (ne_of_none hf11 nt).symm]
                            exact upd_same
              · rintro σ H8 ⟨o4, o5, o7, o8, o9, o10, frows, zs, rfl, e8, hr8, w8, hp8, hf8, wz8, nz8, in8, un8⟩
                rw [List.length_map, List.take_of_length_le (Nat.le_refl _)] at nz8
                have find : ∀ x ∈ done, ∃ z ∈ zs, z.1 = x.1 := fun x hx => by
                  have : x.1 ∈ zs.map (·.1) := by
                    rw [nz8]
                    exact (hs'.mem _).2 (List.mem_map_of_mem hx)
                  obtain ⟨z, hz, e⟩ := List.mem_map.mp this
                  exact ⟨z, hz, e⟩
                refine ⟨_, rfl, q1 f frows zs ps H8 e8 nfH hf8 wz8 hps (fun s x y hx hy => ?_) ⟨?_, fun x => ⟨fun hx => (hmem' x).2 (in8 x hx), fun hx => ?_⟩⟩⟩
                · have hx' := (hmem' _).1 hx
                  have hy' := (hmem' _).1 hy
                  obtain ⟨z, hz, e⟩ := find _ hx'
                  have e' : z.1 = s := e
                  rw [un8 z hz x (by rw [e']; exact hx'), un8 z hz y (by rw [e']; exact hy')]
                · have := hs'.up
                  rw [← nz8, List.pairwise_map] at this
                  exact this
                · have hx' := (hmem' x).1 hx
                  obtain ⟨z, hz, e⟩ := find x hx'
                  have e2 : x.2 = z.2 := un8 z hz x.2 (by rw [e]; exact hx')
                  have e3 : z = x := Prod.ext e e2.symm
                  rw [← e3]
                  exact hz
        | cons y ys =>
          cases st with
          | nil => exact hst.elim
          | cons x st =>
            obtain ⟨kx, ox⟩ := x
            obtain ⟨⟨p, a1, a2, rfl, hp, hu1, hu2⟩, hst⟩ := hst
            have erev : (V.ref p :: ys).reverse = ys.reverse ++ [V.ref p] := List.reverse_cons
            rw [erev] at z2
            have ene : (!(V.ref p :: ys).reverse.isEmpty) = true := by
              rw [erev]
              cases ys.reverse <;> rfl
            have np : p ≠ l := ne_of hp z2 (fun z => by cases z)
            have l1' : (upd H2 l (.lst ys.reverse)) p1 = some (.lst rows) := by
              rw [upd_ne npl]
              exact z1
            have hp' : (upd H2 l (.lst ys.reverse)) p = some (.tup [a1, a2]) := by
              rw [upd_ne np]
              exact hp
            have tpop : Tps H2 (upd H2 l (.lst ys.reverse)) := Tps.lst z2
            have ePop : Same H (upd H2 l (.lst ys.reverse)) := same_mut eZ nl _
            have l2' : (upd H2 l (.lst ys.reverse)) l = some (.lst ys.reverse) := upd_same
            replace hst := hst.mono (PPair.mono tpop)
            replace hrow := hrow.mono (KRow.mono tpop)
            replace hu1 := hu1.mono tpop
            replace hu2 := hu2.mono tpop
            refine ⟨_, rfl, bt ene ⟨_, fun _ _ h => h, ?_⟩⟩
            refine ⟨_, rfl, .inl ⟨rfl, _, SqL.of z2⟩, l, _, V.ref p, rfl, rfl, z2, by simp, ?_⟩
            rw [List.dropLast_concat]
            generalize upd H2 l (.lst ys.reverse) = H3 at l1' hp' tpop ePop l2' hst hrow hu1 hu2
            refine ⟨p, _, rfl, SqT.of hp', rfl, _, _, rfl, _, _, rfl, rfl, ?_⟩
            obtain ⟨⟨okx, dpx⟩, oko, dpo⟩ := hpb (kx, ox) List.mem_cons_self
            have hpb' : ∀ x ∈ st, PB x := fun x hx => hpb x (List.mem_cons_of_mem _ hx)
            rw [List.length_cons, List.length_cons] at lys
            rw [List.map_cons, List.sum_cons] at hsum
            have lst' := sum_pos st
            cases kx with
            | pl s =>
              obtain ⟨p2, rfl, hq⟩ := hu1
              have hsum' : done.length + (1 + (st.map fun x => x.1.letters.length).sum) ≤ 60 := hsum
              refine ⟨_, rfl, p2, _, _, _, rfl, rfl, SqT.of hq, at0, rfl, _, rfl, bt rfl ?_⟩
              refine ⟨_, rfl, .inl ⟨rfl, _, SqL.of l1'⟩, _, rfl, p2, _, _, _, rfl, rfl, SqT.of hq, at1, _, rfl, c2, fun t nt => ?_⟩
              have t1 := same_new nt (.tup [.str s, a2]) _ _ l1'
              refine ⟨p1, _, _, rfl, rfl, t1, sz2 (by omega), ?_⟩
              have tps : Tps H3 (upd (upd H3 t (.tup [.str s, a2])) p1 (.lst (rows ++ [.ref t]))) := (Tps.new nt).trans (Tps.lst t1)
              refine ⟨_, ?_, l, _, _, rows ++ [.ref t], ys, done ++ [(s, ox)], st, rfl, rfl, same_mut (ePop.trans (same_new nt _)) n1 _, nl, npl, upd_same, ?_, hst.mono (PPair.mono tps), All2.snoc ⟨t, a2, rfl, ?_, hu2.mono tps⟩ (hrow.mono (KRow.mono tps)), prel_pl hrel, hpb', fun x hx => ?_, fun x hx => ?_, ?_⟩
              · rw [List.map_cons, List.sum_cons]
                show _ < 1 + _
                omega
              · rw [upd_ne npl.symm]
                exact same_new nt _ _ _ l2'
              · rcases List.mem_append.mp hx with z | z
                · exact hdk x z
                · rw [List.mem_singleton] at z
                  subst z
                  exact ⟨oko, dpo⟩
              · rcases List.mem_append.mp hx with z | z
                · exact hdl x z
                · rw [List.mem_singleton] at z
                  subst z
                  exact okx
              · rw [List.length_append, List.length_singleton]
                omega
              · rw [upd_ne (ne_of_none l1' nt).symm]
                exact upd_same
            | nd f a b =>
              obtain ⟨p2, xa, xb, rfl, hq, ha, hb⟩ := hu1
              obtain ⟨hf, oa, ob⟩ := okx
              have dm : 1 + max a.deep b.deep ≤ 8 := dpx
              have hsum' : done.length + ((a.letters ++ b.letters).length + (st.map fun x => x.1.letters.length).sum) ≤ 60 := hsum
              rw [List.length_append] at hsum'
              refine ⟨_, rfl, p2, _, _, _, rfl, rfl, SqT.of hq, at0, rfl, _, rfl, bf (plain_ne hf) ?_⟩
              cases ox with
              | pl s2 =>
                obtain ⟨p3, rfl, hq3⟩ := hu2
                refine ⟨_, rfl, p2, _, _, _, rfl, rfl, SqT.of hq, at0, _, rfl, p3, _, _, _, rfl, rfl, SqT.of hq3, at0, rfl, _, rfl, bt (by rw [plain_ne hf]; rfl) ?_⟩
                exact q2 H3 ePop (prel_no hrel rfl)
              | nd g c d =>
                obtain ⟨p3, xc, xd, rfl, hq3, hc, hd⟩ := hu2
                obtain ⟨hg, oc, od⟩ := oko
                have dm2 : 1 + max c.deep d.deep ≤ 8 := dpo
                refine ⟨_, rfl, p2, _, _, _, rfl, rfl, SqT.of hq, at0, _, rfl, p3, _, _, _, rfl, rfl, SqT.of hq3, at0, rfl, _, rfl, bb (fun cc => ?_) (fun cc => ?_)⟩
                · have ne : ¬ f = g := fun z => by
                    subst z
                    rw [decide_eq_true rfl] at cc
                    cases cc
                  exact q2 H3 ePop (prel_no hrel (if_neg ne))
                · have eq : f = g := V.str.inj (of_decide_eq_true (show decide (V.str f = V.str g) = true by simpa using cc))
                  subst eq
                  refine ⟨_, rfl, _, rfl, p2, _, _, _, rfl, rfl, SqT.of hq, at1, _, rfl, p3, _, _, _, rfl, rfl, SqT.of hq3, at1, c2, fun s1 m1 => ?_⟩
                  have g1 := same_new m1 (.tup [xa, xc])
                  have k1 := new_at m1 (.tup [xa, xc])
                  generalize upd H3 s1 (.tup [xa, xc]) = H4 at g1 k1
                  refine ⟨_, rfl, p2, _, _, _, rfl, rfl, SqT.of (g1 _ _ hq), at2, _, rfl, p3, _, _, _, rfl, rfl, SqT.of (g1 _ _ hq3), at2, c2, fun s2 m2 => ⟨c2, fun s3 m3 => ?_⟩⟩
                  have g2 := g1.trans ((same_new m2 (.tup [xb, xd])).trans (same_new m3 (.lst [.ref s1, .ref s2])))
                  have k1' := (same_new m2 (.tup [xb, xd])).trans (same_new m3 (.lst [.ref s1, .ref s2])) _ _ k1
                  have k2' := same_new m3 (.lst [.ref s1, .ref s2]) _ _ (new_at m2 (.tup [xb, xd]))
                  have k3' := new_at m3 (.lst [.ref s1, .ref s2])
                  generalize upd (upd H4 s2 (.tup [xb, xd])) s3 (.lst [.ref s1, .ref s2]) = H5 at g2 k1' k2' k3'
                  refine ⟨l, s3, _, _, rfl, rfl, g2 _ _ l2', k3', sz1 (by rw [List.length_reverse]; show ys.length + 2 ≤ 1000000; omega), fun t nt => ?_⟩
                  have g3 := g2.trans (same_new nt (.lst (ys.reverse ++ [.ref s1, .ref s2])))
                  have eN := ePop.trans g3
                  have tp := Tps.of g3
                  have nlt : H t = none := (ePop.trans g2).free nt
                  have l1t := g2 _ _ l1'
                  refine ⟨_, ?_, t, _, _, rows, .ref s2 :: .ref s1 :: ys, done, (b, d) :: (a, c) :: st, rfl, rfl, eN, nlt, ne_of_none l1t nt, g3 _ _ l1', ?_, ⟨⟨s2, xb, xd, rfl, same_new nt _ _ _ k2', hb.mono tp, hd.mono tp⟩, ⟨s1, xa, xc, rfl, same_new nt _ _ _ k1', ha.mono tp, hc.mono tp⟩, hst.mono (PPair.mono tp)⟩, hrow.mono (KRow.mono tp), prel_nd hrel, fun x hx => ?_, hdk, hdl, ?_⟩
                  · rw [List.map_cons, List.sum_cons, List.map_cons, List.sum_cons, List.map_cons, List.sum_cons]
                    show _ < (1 + a.wt + b.wt) + _
                    show b.wt + (a.wt + _) < _
                    omega
                  · rw [upd_same]
                    simp
                  · rcases List.mem_cons.mp hx with rfl | hx
                    · exact ⟨⟨ob, by show b.deep ≤ 8; omega⟩, od, by show d.deep ≤ 8; omega⟩
                    · rcases List.mem_cons.mp hx with rfl | hx
                      · exact ⟨⟨oa, by show a.deep ≤ 8; omega⟩, oc, by show c.deep ≤ 8; omega⟩
                      · exact hpb' x hx
                  · rw [List.map_cons, List.sum_cons, List.map_cons, List.sum_cons]
                    show done.length + (b.letters.length + (a.letters.length + _)) ≤ 60
                    omega
end
end K06

namespace K06
open PySem PySem.Spec PyProof.Rows L2 Ww
section
variable {P : Program} {w : World} {K : PySem.W.Frag} {mg : Str → Option Value} {base : Heap}
def spLaw (K : PySem.W.Frag) : Sp := fun vs H Q _ => ∃ (a : Addr) (ns : List Int), vs = [.ref a] ∧ SqL K H a (ns.map V.int) ∧ ns.length ≤ 63 ∧ ∀ H', Q (.bl true) H'
theorem prs_names : ∀ {k o : Kd} {ps : List (Str × Kd)}, prs k o = some ps → ps.map (·.1) = k.letters ∧ ∀ x ∈ ps, o.ok → o.deep ≤ 8 → x.2.ok ∧ x.2.deep ≤ 8
  | .pl s, o, ps, h => by
    have e : [(s, o)] = ps := Option.some.inj h
    subst e
    refine ⟨rfl, fun x hx h1 h2 => ?_⟩
    rw [List.mem_singleton] at hx
    subst hx
    exact ⟨h1, h2⟩
  | .nd f a b, .pl s, ps, h => nomatch h
  | .nd f a b, .nd g c d, ps, h => by
    have e : (if f = g then (match prs a c, prs b d with
        | some x, some y => some (x ++ y)
        | _, _ => none) else none) = some ps := h
    by_cases cfg : f = g
    · rw [if_pos cfg] at e
      cases h1 : prs a c with
      | none =>
        rw [h1] at e
        cases e
      | some x =>
        cases h2 : prs b d with
        | none =>
          rw [h1, h2] at e
          cases e
        | some y =>
          rw [h1, h2] at e
          have e' : x ++ y = ps := Option.some.inj e
          subst e'
          obtain ⟨n1, m1⟩ := prs_names h1
          obtain ⟨n2, m2⟩ := prs_names h2
          refine ⟨by rw [List.map_append, n1, n2]; rfl, fun z hz ho hd => ?_⟩
          have dm : 1 + max c.deep d.deep ≤ 8 := hd
          rcases List.mem_append.mp hz with w | w
          · exact m1 z w ho.2.1 (by omega)
          · exact m2 z w ho.2.2 (by omega)
    · rw [if_neg cfg] at e
      cases e
theorem asc_eq {zs zs' ps : List (Str × Kd)} (h : Asc zs ps) (h' : Asc zs' ps) : zs = zs' :=
  up_unique (R := fun e f : Str × Kd => e.1.cps.toList < f.1.cps.toList) (fun x => lt_irr _) (fun x y h1 h2 => List.lt_asymm h1 h2) h.1 h'.1 fun z => (h.2 z).trans (h'.2 z).symm
def rowK (x : Str × Kd) : PyData := .tuple [.str x.1, x.2.dat]
theorem KRow.dp {K : PySem.W.Frag} {H : Hp} {v : V} {x : Str × Kd} (h : KRow H v x) : Dp K H v (rowK x) := by
  obtain ⟨p, u, rfl, h, k⟩ := h
  exact .tup (SqT.of h) (.cons (.str _) (.cons k.dp .nil))
theorem asc_gd {k o : Kd} {zs ps : List (Str × Kd)} (hk : k.letters.length ≤ 60) (oo : o.ok) (od : o.deep ≤ 8) (hp : prs k o = some ps) (h : Asc zs ps) : Gd 12 (.list (zs.map rowK)) := by
  obtain ⟨n1, m1⟩ := prs_names hp
  have nd : (zs.map (·.1)).Nodup := by
    rw [List.Nodup, List.pairwise_map]
    exact h.1.imp fun {x y} (q : x.1.cps.toList < y.1.cps.toList) (e : x.1 = y.1) => lt_irr _ (by rw [e] at q; exact q)
  have lz : zs.length ≤ 60 := by
    have := nd_len nd fun s hs => by
      obtain ⟨x, hx, rfl⟩ := List.mem_map.mp hs
      exact List.mem_map_of_mem (f := (·.1)) ((h.2 x).1 hx)
    rw [n1, List.length_map] at this
    omega
  refine ⟨by rw [List.length_map]; omega, fun d hd => ?_⟩
  obtain ⟨x, hx, rfl⟩ := List.mem_map.mp hd
  have b := m1 x ((h.2 x).1 hx) oo od
  refine ⟨by show 2 ≤ 100000; decide, fun d hd => ?_⟩
  simp only [List.mem_cons, List.not_mem_nil, or_false] at hd
  rcases hd with rfl | rfl
  · trivial
  · exact Gd.kd.mono (m := 10) (by omega)
theorem mono12 {H H' : Hp} {v : V} {k : Kd} (e : Tps H H') (h : KOk H v k) : KOk H' v k := ⟨h.1.mono e, h.2⟩
theorem ok_law (T : Txt w K mg) : FnOk P w K mg base CX0 (15) T.a_law T.d_law P_law (spLaw K) := by
  refine T.F_law.ok sc_law (fun vs H Q E h => ?_) (fun cdv A outer s H vs Q E hr h => ⟨_, (pss_cons (ps_set (i := 1) sc_law.nd rfl (Or.inl rfl) (pe_call (ok_begun T) (hr.mono (by first | decide | omega)) rfl T.m_begun T.F_begun.kp T.B_begun .nil pass0 (pa_cons (pv 0) pa_nil)))
    (pss_cons (ps_for PassesOwn.never rfl (pi_range1 rfl T.b_range (pa_cons pe_int pa_nil)) (pg_name (i := 2) sc_law.nd rfl (Or.inl rfl))
    (pss_cons (ps_set (i := 3) sc_law.nd rfl (Or.inl rfl) (pe_call (ok_pool T) (hr.mono (by first | decide | omega)) rfl T.m_pool T.F_pool.kp T.B_pool .nil pass0 (pa_cons (pv 1) pa_nil)))
    (pss_cons (ps_set (i := 4) sc_law.nd rfl (Or.inl rfl) (pe_ix ix_list (pe_lst (pa_cons (pe_lst (pa_cons pe_str (pa_cons pe_str (pa_cons pe_str pa_nil)))) (pa_cons (pe_lst (pa_cons pe_str (pa_cons pe_str pa_nil))) pa_nil))) (pe_call (ok_pick T) (hr.mono (by first | decide | omega)) rfl T.m_pick T.F_pick.kp T.B_pick .nil pass0 (pa_cons (pv 1) (pa_cons pe_int pa_nil))) (fun _ _ => rfl)))
    (pss_cons (ps_set (i := 5) sc_law.nd rfl (Or.inl rfl) (pe_call (ok_grown T 8) (hr.mono (by first | decide | omega)) rfl T.m_grown T.F_grown.kp T.B_grown .nil pass0 (pa_cons (pv 1) (pa_cons (pe_op op_add pe_int (pe_call (ok_pick T) (hr.mono (by first | decide | omega)) rfl T.m_pick T.F_pick.kp T.B_pick .nil pass0 (pa_cons (pv 1) (pa_cons pe_int pa_nil)))) (pa_cons (pe_op op_add pe_int (pe_call (ok_pick T) (hr.mono (by first | decide | omega)) rfl T.m_pick T.F_pick.kp T.B_pick .nil pass0 (pa_cons (pv 1) (pa_cons pe_int pa_nil)))) (pa_cons (pv 4) (pa_cons (pv 3) pa_nil)))))))
    (Evl.pss_cut (ps_if (pt_cmpR op_eq (pe_call (ok_pick T) (hr.mono (by first | decide | omega)) rfl T.m_pick T.F_pick.kp T.B_pick .nil pass0 (pa_cons (pv 1) (pa_cons pe_int pa_nil))) pe_int (nomark _))
    (pss_one (ps_set (i := 3) sc_law.nd rfl (Or.inl rfl) (pe_call (ok_pool T) (hr.mono (by first | decide | omega)) rfl T.m_pool T.F_pool.kp T.B_pool .nil pass0 (pa_cons (pv 1) pa_nil))))
    pss_nil)
    (pss_cons (ps_set (i := 6) sc_law.nd rfl (Or.inr rfl) (pe_call (ok_table T) (hr.mono (by first | decide | omega)) rfl T.m_table T.F_table.kp T.B_table .nil pass0 (pa_cons (pv 1) (pa_cons (pv 5) (pa_cons (pv 3) pa_nil)))))
    (pss_cons (ps_set (i := 7) sc_law.nd rfl (Or.inl rfl) (pe_call (ok_put T 8) (hr.mono (by first | decide | omega)) rfl T.m_put T.F_put.kp T.B_put .nil pass0 (pa_cons (pv 5) (pa_cons (pv 6) pa_nil))))
    (pss_cons (ps_setLc (i := 8) (own := [("_law_name", 9)]) (g := gName 9) rfl sc_law.nd rfl rfl (sw_true rfl rfl rfl (by decide +kernel)) (pi_list (pe_callB (call_sortedD rfl) rfl T.b_sorted (by decide +kernel) (pa_cons (pv 6) pa_nil))) (blkOk_by (N := N_law) (own := [("_law_name", 9)]) (sc := defScope s_law) (by decide +kernel)) (fun _ _ _ _ _ => (pg_name (i := 9) sc_law.nd rfl (Or.inl rfl))) (fun _ _ _ _ _ => pts_nil) (fun _ _ _ _ _ => (pe_tup (pa_cons (pv 9) (pa_cons (pe_dget (hu1 hr) (pv 6) (pv 9) (fun _ _ => rfl)) pa_nil)))))
    (pss_cons (ps_set (i := 10) sc_law.nd rfl (Or.inl rfl) (pe_call (ok_puts T) (hr.mono (by first | decide | omega)) rfl T.m_puts T.F_puts.kp T.B_puts .nil pass0 (pa_cons (pv 5) (pa_cons (pv 7) pa_nil))))
    (pss_cons (ps_if (pt_not (pt_val (pe_call (ok_alike T 12) (hr.mono (by first | decide | omega)) rfl T.m_alike T.F_alike.kp T.B_alike .nil pass0 (pa_cons (pv 10) (pa_cons (pv 8) pa_nil)))))
    (pss_one (ps_ret pe_bl))
    pss_nil)
    (pss_cons (ps_expr (pe_bm PySem.F.plainAttrs_list PySem.F.slot_list_append PySem.F.type_list_append mt_append (pv 10) (pa_cons (pe_tup (pa_cons pe_str (pa_cons (pv 7) pa_nil))) pa_nil)))
    (pss_cons (ps_set (i := 11) sc_law.nd rfl (Or.inl rfl) (pe_call (ok_grown T 8) (hr.mono (by first | decide | omega)) rfl T.m_grown T.F_grown.kp T.B_grown .nil pass0 (pa_cons (pv 1) (pa_cons (pe_op op_add pe_int (pe_call (ok_pick T) (hr.mono (by first | decide | omega)) rfl T.m_pick T.F_pick.kp T.B_pick .nil pass0 (pa_cons (pv 1) (pa_cons pe_int pa_nil)))) (pa_cons pe_int (pa_cons (pe_lst (pa_cons pe_str (pa_cons pe_str (pa_cons pe_str pa_nil)))) (pa_cons (pv 3) pa_nil)))))))
    (pss_cons (ps_for PassesOwn.never rfl (pi_list (pe_lst (pa_cons (pe_call (ok_bent T 8) (hr.mono (by first | decide | omega)) rfl T.m_bent T.F_bent.kp T.B_bent .nil pass0 (pa_cons (pv 1) (pa_cons (pv 7) pa_nil))) (pa_cons (pe_call (ok_bent T 8) (hr.mono (by first | decide | omega)) rfl T.m_bent T.F_bent.kp T.B_bent .nil pass0 (pa_cons (pv 1) (pa_cons (pv 5) pa_nil))) (pa_cons (pv 5) (pa_cons (pv 11) (pa_cons (pe_tup (pa_cons pe_str (pa_cons (pe_item_str (pv 3) pe_int (fun _ _ => rfl)) pa_nil))) pa_nil))))))) (pg_name (i := 12) sc_law.nd rfl (Or.inl rfl))
    (Evl.pss_cut (ps_if (pt_not (pt_val (pe_call (ok_alike T 12) (hr.mono (by first | decide | omega)) rfl T.m_alike T.F_alike.kp T.B_alike .nil pass0 (pa_cons (pe_call (ok_puts T) (hr.mono (by first | decide | omega)) rfl T.m_puts T.F_puts.kp T.B_puts .nil pass0 (pa_cons (pv 5) (pa_cons (pv 12) pa_nil))) (pa_cons (pe_call (ok_due T) (hr.mono (by first | decide | omega)) rfl T.m_due T.F_due.kp T.B_due .nil pass0 (pa_cons (pv 5) (pa_cons (pv 12) pa_nil))) pa_nil)))))
    (pss_one (ps_ret pe_bl))
    pss_nil)
    (pss_one (ps_if (pt_not (pt_val (pe_call (ok_alike T 12) (hr.mono (by first | decide | omega)) rfl T.m_alike T.F_alike.kp T.B_alike .nil pass0 (pa_cons (pe_callQ (ok_puts T) (hr.mono (by first | decide | omega)) rfl T.m_puts T.F_puts.kp T.K_puts pass0 (pk_cons (pv 5) (pk_cons (pv 12) pk_nil))) (pa_cons (pe_call (ok_due T) (hr.mono (by first | decide | omega)) rfl T.m_due T.F_due.kp T.B_due .nil pass0 (pa_cons (pv 12) (pa_cons (pv 5) pa_nil))) pa_nil)))))
    (pss_one (ps_ret pe_bl))
    pss_nil))))
    (pss_one (ps_if (PW.pt (pw_or (pt_not (pt_val (pe_call (ok_alike T 12) (hr.mono (by first | decide | omega)) rfl T.m_alike T.F_alike.kp T.B_alike .nil pass0 (pa_cons (pe_call (ok_puts T) (hr.mono (by first | decide | omega)) rfl T.m_puts T.F_puts.kp T.B_puts .nil pass0 (pa_cons (pv 5) (pa_cons (pv 7) pa_nil))) (pa_cons (pv 8) pa_nil))))) (pw_or1 (pt_not (pt_val (pe_call (ok_alike T 12) (hr.mono (by first | decide | omega)) rfl T.m_alike T.F_alike.kp T.B_alike .nil pass0 (pa_cons (pe_call (ok_puts T) (hr.mono (by first | decide | omega)) rfl T.m_puts T.F_puts.kp T.B_puts .nil pass0 (pa_cons (pv 7) (pa_cons (pv 5) pa_nil))) (pa_cons (pe_call (ok_due T) (hr.mono (by first | decide | omega)) rfl T.m_due T.F_due.kp T.B_due .nil pass0 (pa_cons (pv 7) (pa_cons (pv 5) pa_nil))) pa_nil))))))))
    (pss_one (ps_ret pe_bl))
    pss_nil)))))))))))))))
    (pss_one (ps_ret pe_bl)))), ?_⟩)
  · obtain ⟨a, ns, rfl, _⟩ := h
    rfl
  · obtain ⟨s0, ns, rfl, hS, h63, q⟩ := h
    refine ⟨_, rfl, s0, ns, rfl, hS, h63, fun a g H0 e0 ha hg hs0 => ?_⟩
    have c5 : 5 ≤ sizeLine := sz1 (by show 5 ≤ 1000000; decide)
    have c3 : 3 ≤ sizeLine := sz1 (by show 3 ≤ 1000000; decide)
    have c2 : 2 ≤ sizeLine := sz1 (by show 2 ≤ 1000000; decide)
    have form3 : Forms ["behind", "ahead", "with"] := ⟨by decide, by decide, fun f hf => by simp only [List.mem_cons, List.not_mem_nil, or_false] at hf; exact hf⟩
    have form2 : Forms ["behind", "ahead"] := ⟨by decide, by decide, fun f hf => by
      simp only [List.mem_cons, List.not_mem_nil, or_false] at hf
      rcases hf with h | h
      · exact .inl h
      · exact .inr (.inl h)⟩
    refine ⟨_, rfl, by decide, by decide, for_range (lo := 0) (n := 9) (fun i σ H' => ∃ (o2 o3 o4 o5 o6 o7 o8 o9 o10 o11 o12 : Option V), σ = [some (.ref s0), some (.ref a), o2, o3, o4, o5, o6, o7, o8, o9, o10, o11, o12] ∧ SrcAt H' a g (i * 400)) ⟨_, _, _, _, _, _, _, _, _, _, _, rfl, hs0⟩ ?_ ?_⟩
    · rintro i σ H1 hi ⟨o2, o3, o4, o5, o6, o7, o8, o9, o10, o11, o12, rfl, s1⟩
      refine ⟨_, rfl, a, g, _, rfl, s1, by omega, fun sg H2 b2 s2 ta t1 t7 => ?_⟩
      have pool : Pool sg := ⟨ta, t1, by omega⟩
      refine ⟨c3, fun q1 m1 => ⟨c2, fun q2 m2 => ⟨c2, fun q3 m3 => ?_⟩⟩⟩
      have f1 := same_new m1 (.lst [.str "behind", .str "ahead", .str "with"])
      have f2 := f1.trans (same_new m2 (.lst [.str "behind", .str "ahead"]))
      have f3 := f2.trans (same_new m3 (.lst [.ref q1, .ref q2]))
      have x1 := same_new m3 (.lst [.ref q1, .ref q2]) _ _ (same_new m2 (.lst [.str "behind", .str "ahead"]) _ _ (new_at m1 (.lst [.str "behind", .str "ahead", .str "with"])))
      have x2 := same_new m3 (.lst [.ref q1, .ref q2]) _ _ (new_at m2 (.lst [.str "behind", .str "ahead"]))
      have x3 := new_at m3 (.lst [.ref q1, .ref q2])
      have y1 := (s2.ne m1).1
      have y2 := (s2.ne (f1.free m2)).1
      have y3 := (s2.ne (f2.free m3)).1
      have s3 := s2.mono f3 (Nat.le_refl _)
      generalize upd (upd (upd H2 q1 _) q2 _) q3 _ = H3 at f3 x1 x2 x3 s3
      refine ⟨_, rfl, a, g, 2, _, rfl, by decide, by decide, s3, by omega, fun r H4 r0 r1 b4 s4 => ?_⟩
      obtain ⟨qf, fs, hv, nqf, hqf, hfs⟩ : ∃ (qf : Addr) (fs : List Str), atI [V.ref q1, V.ref q2] r = some (.ref qf) ∧ qf ≠ a ∧ H4 qf = some (.lst (fs.map V.str)) ∧ Forms fs := by
        have hr : r = 0 ∨ r = 1 := by omega
        rcases hr with rfl | rfl
        · exact ⟨q1, ["behind", "ahead", "with"], at0, y1, b4 _ _ y1 x1, form3⟩
        · exact ⟨q2, ["behind", "ahead"], at1, y2, b4 _ _ y2 x2, form2⟩
      refine ⟨q3, _, _, _, rfl, rfl, SqL.of (b4 _ _ y3 x3), hv, ?_⟩
      refine ⟨_, rfl, _, rfl, a, g, 7, _, rfl, by decide, by decide, s4, by omega, fun u1 H5 u10 u11 b5 s5 => ⟨_, _, rfl, rfl, ?_⟩⟩
      refine ⟨_, rfl, a, g, 5, _, rfl, by decide, by decide, s5, by omega, fun u2 H6 u20 u21 b6 s6 => ⟨_, _, rfl, rfl, ?_⟩⟩
      refine ⟨_, rfl, _, rfl, a, g, qf, _, _, fs, sg, _, rfl, s6, by omega, nqf, (b5.trans b6) _ _ nqf hqf, hfs, pool, by omega, by omega, by omega, by omega, fun v k H7 b7 s7 ka ok dk zk => ?_⟩
      have kb : KB k := ⟨ok, by omega, by omega⟩
      have s7' := s7.le (show _ ≤ i * 400 + 60 by omega)
      clear s7
      refine ⟨fun σ H' => ∃ sg : Str, σ = [some (.ref s0), some (.ref a), some (.int (0 + (i : Int))), some (.str sg), some (.ref qf), some v, o6, o7, o8, o9, o10, o11, o12] ∧ But a H7 H' ∧ SrcAt H' a g (i * 400 + 80) ∧ Pool sg, ?_, ?_⟩
      · refine ⟨_, rfl, a, g, 3, _, rfl, by decide, by decide, s7', by omega, fun w H8 w0 w1 b8 s8 => ⟨rfl, _, rfl, bb (fun _ => ?_) (fun _ => ?_)⟩⟩
        · exact ⟨_, rfl, a, g, _, rfl, s8, by omega, fun sg2 H9 b9 s9 ta2 t12 t72 => ⟨sg2, rfl, b8.trans b9, s9.le (by omega), ta2, t12, by omega⟩⟩
        · exact ⟨sg, rfl, b8, s8.le (by omega), pool⟩
      · clear pool ta t1 t7
        rintro σ H8 ⟨sg, rfl, b78, s8, pool⟩
        obtain ⟨sx7, hsx7⟩ := s7'.lst
        have ka8 := ka.mono (b78.tps hsx7)
        obtain ⟨sx8, hsx8⟩ := s8.lst
        refine ⟨_, rfl, _, rfl, _, rfl, a, g, _, v, k, sg, rfl, s8, by omega, ka8, ok, by omega, by omega, pool, fun d es t H9 b9 s9 ndH hd9 ht9 g9 nm9 kt9 _ => ?_⟩
        have ka9 := ka8.mono (b9.tps hsx8)
        obtain ⟨sx9, hsx9⟩ := s9.lst
        refine ⟨_, rfl, _, rfl, v, k, d, es, t, rfl, ka9, ok, by omega, hd9, ht9, fun v2 k2 H10 e10 kk2 pr2 => ?_⟩
        have ok2 := put_ok (fun x hx => (kt9 x hx).1) ok pr2
        have dp2 : k2.deep ≤ 5 := by
          have dpos := k.deep_pos
          have := put_deep (D := 6 - k.deep) (by omega) (fun x hx => by have := (kt9 x hx).2.1; omega) pr2
          omega
        have lz2 : k2.letters.length ≤ 56 := by
          have := put_len (L := 8) (by decide) (fun x hx => (kt9 x hx).2.2) pr2
          omega
        have kb2 : KB k2 := ⟨ok2, by omega, by omega⟩
        obtain ⟨ps, hps, hin, hnm⟩ := put_prs (fun s hs => (nm9 s).2 hs) pr2
        have mem_t : ∀ x, x ∈ t ↔ x ∈ ps := fun x => ⟨fun hx => by
          have h1 : x.1 ∈ ps.map (·.1) := by
            rw [hnm]
            exact (nm9 x.1).1 (List.mem_map_of_mem hx)
          obtain ⟨y, hy, e⟩ := List.mem_map.mp h1
          have e2 : y.2 = x.2 := nodup_con g9 x.1 y.2 x.2 (by rw [← e]; exact hin y hy) hx
          have e3 : y = x := Prod.ext e e2
          rw [← e3]
          exact hy, hin x⟩
        have con : Con ps := (nodup_con g9).sub hin
        have hd10 := e10 _ _ hd9
        have ht10 := ht9.mono (.of e10)
        have ka10 := ka9.mono (.of e10)
        have s10 := s9.mono e10 (Nat.le_refl _)
        have les : es.length ≤ 60 := by
          have h1 := congrArg List.length ht9.keys
          rw [List.length_map, List.length_map] at h1
          have h2 := nd_len (l := t.map (·.1)) (m := k.letters) (show (t.map (·.1)).Nodup from g9) fun s hs => (nm9 s).1 hs
          rw [List.length_map] at h2
          omega
        have hkeys : (es.map DS.entS).map (·.1) = (es.map (·.1)).map Sum.inr := by
          rw [List.map_map, List.map_map]
          rfl
        refine ⟨_, rfl, d, _, es.map (·.1), rfl, .inl hd10, hkeys, by rw [List.length_map]; omega, fun ys p perm srt hp => ?_⟩
        have ndk : (es.map (·.1)).Nodup := by
          rw [ht9.keys]
          exact g9
        have hsrt : Srt (es.map (·.1)) ys := srt_of srt (perm.nodup_iff.mpr ndk) fun k => perm.mem_iff
        have e11 := same_new hp (.lst (ys.map V.str))
        have hp11 := new_at hp (.lst (ys.map V.str))
        generalize upd H10 p (.lst (ys.map V.str)) = H11 at e11 hp11
        have hd11 := e11 _ _ hd10
        have ht11 := ht10.mono (.of e11)
        have lys : ys.length ≤ 60 := by
          rw [perm.length_eq, List.length_map]
          exact les
        refine ⟨p, rfl, ⟨_, SqL.of hp11⟩, fun D hD => ?_⟩
        refine lc_list (K := K) (xs := ys.map V.str) (fun j H' => Same H11 H' ∧ ∃ (acc : List V) (zs : List (Str × Kd)), H' D = some (.lst acc) ∧ All2 (KRow H') acc zs ∧ zs.map (·.1) = ys.take j ∧ ∀ x ∈ zs, x ∈ t) ⟨same_new hD _, [], [], upd_same, trivial, rfl, fun _ z => nomatch z⟩ (fun j H' _ ⟨e, _⟩ => SqL.of (e _ _ hp11)) ?_ ?_
        · rintro j x H12 hx ⟨e12, acc, zs, hacc, wz, nz, iz⟩
          rw [List.getElem?_map] at hx
          obtain ⟨y, hy1, rfl⟩ := Option.map_eq_some_iff.mp hx
          have ht12 := ht11.mono (.of e12)
          have hyk : y ∈ t.map (·.1) := by
            rw [← ht9.keys]
            exact (hsrt.mem y).1 (List.mem_of_getElem? hy1)
          obtain ⟨px, kx, hv', hmem, hkx⟩ : ∃ px kx, valV (es.map DS.entS) (.inr y) = some (.ref px) ∧ (y, kx) ∈ t ∧ KAt H12 (.ref px) kx := by
            rcases ht12.val y with h | ⟨_, h⟩
            · exact h
            · exact (h hyk).elim
          have dg : DGet H12 d (.str y) (some (.ref px)) := by
            have := DGet.k (k := .inr y) (e12 _ _ hd11)
            rw [hv'] at this
            exact this
          have lacc := wz.len
          have lz := congrArg List.length nz
          rw [List.length_map, List.length_take] at lz
          refine ⟨rfl, lc_yes ⟨_, rfl, _, rfl, _, rfl, d, _, rfl, dg, c2, fun tq ntq => ?_⟩⟩
          have ha12 := same_new ntq (.tup [.str y, .ref px]) _ _ hacc
          have tp : Tps H12 (upd (upd H12 tq (.tup [.str y, .ref px])) D (.lst (acc ++ [.ref tq]))) := (Tps.new ntq).trans (Tps.lst ha12)
          refine ⟨acc, ha12, sz2 (by omega), same_mut (e12.trans (same_new ntq _)) hD _, acc ++ [.ref tq], zs ++ [(y, kx)], upd_same, All2.snoc ⟨tq, .ref px, rfl, ?_, hkx.mono tp⟩ (wz.mono (KRow.mono tp)), ?_, fun x hx => ?_⟩
          · rw [List.map_append, nz, List.take_succ, hy1]
            rfl
          · rcases List.mem_append.mp hx with h | h
            · exact iz x h
            · rw [List.mem_singleton] at h
              subst h
              exact hmem
          · rw [upd_ne (ne_of_none hacc ntq).symm]
            exact upd_same
        · rintro H12 ⟨e12, drows, zs, hD12, wz, nz, iz⟩
          rw [List.length_map, List.take_of_length_le (Nat.le_refl _)] at nz
          have asc : Asc zs ps := by
            refine ⟨?_, fun x => ⟨fun hx => (mem_t x).1 (iz x hx), fun hx => ?_⟩⟩
            · have := hsrt.up
              rw [← nz, List.pairwise_map] at this
              exact this
            · have hxt := (mem_t x).2 hx
              have h1 : x.1 ∈ zs.map (·.1) := by
                rw [nz, hsrt.mem, ht9.keys]
                exact List.mem_map_of_mem hxt
              obtain ⟨y, hy, e⟩ := List.mem_map.mp h1
              have e2 : y.2 = x.2 := nodup_con g9 x.1 y.2 x.2 (by rw [← e]; exact iz y hy) hxt
              have e3 : y = x := Prod.ext e e2
              rw [← e3]
              exact hy
          have e912 := e10.trans (e11.trans e12)
          have e1012 := e11.trans e12
          have ko12 : KOk H12 v k := ⟨ka10.mono (.of e1012), kb⟩
          have ko2 : KOk H12 v2 k2 := ⟨kk2.mono (.of e1012), kb2⟩
          have s12 := (s9.mono e912 (Nat.le_refl _)).le (show _ ≤ i * 400 + 280 by omega)
          have nDa : D ≠ a := fun z => by
            have h1 := e11 _ _ (e10 _ _ hsx9)
            rw [← z, hD] at h1
            cases h1
          have gdz := asc_gd kb.2.2 ok2 kb2.2.1 hps asc
          refine ⟨_, rfl, _, rfl, v, v2, k, k2, rfl, ko12, ko2, fun lf frows zs1 ps1 H13 e13 nlf hlf wf hps1 hc1 asc1 => ?_, fun H13 e13 hno => (hno ps hps con).elim⟩
          have ep : ps1 = ps := Option.some.inj (hps1.symm.trans hps)
          subst ep
          have ez : zs1 = zs := asc_eq asc1 asc
          subst ez
          refine ⟨_, rfl, _, rfl, .ref lf, .ref D, .list (zs1.map rowK), rfl, .lst (SqL.of hlf) (dps_of rowK (fun _ _ h => KRow.dp h) wf), .lst (SqL.of (e13 _ _ hD12)) (dps_of rowK (fun _ _ h => KRow.dp h) (wz.mono (KRow.mono (.of e13)))), gdz, fun H14 e14 => ⟨_, rfl, bf rfl ?_⟩⟩
          have hlf14 := e14 _ _ hlf
          have lfr := wf.len
          have lzz := congrArg List.length nz
          rw [List.length_map] at lzz
          refine ⟨_, rfl, .inl ⟨rfl, _, SqL.of hlf14⟩, _, rfl, c2, fun tz ntz => ?_⟩
          refine ⟨lf, _, _, rfl, rfl, same_new ntz _ _ _ hlf14, sz2 (by omega), ?_⟩
          have E15 : Same H12 (upd (upd H14 tz (.tup [.str "z", v2])) lf (.lst (frows ++ [.ref tz]))) := same_mut (e13.trans (e14.trans (same_new ntz _))) nlf _
          generalize upd (upd H14 tz (.tup [.str "z", v2])) lf (.lst (frows ++ [.ref tz])) = H15 at E15
          have s15 := s12.mono E15 (Nat.le_refl _)
          have ko15 := mono12 (.of E15) ko12
          have ko25 := mono12 (.of E15) ko2
          have hD15 := E15 _ _ hD12
          have wz15 := wz.mono (KRow.mono (.of E15))
          clear e13 e14 wf hlf hlf14 E15 wz hD12 ko12 ko2 s12
          obtain ⟨sx15, hsx15⟩ := s15.lst
          refine ⟨_, rfl, _, rfl, a, g, 7, _, rfl, by decide, by decide, s15, by omega, fun w H16 w0 w1 b16 s16 => ⟨_, _, rfl, rfl, ?_⟩⟩
          refine ⟨c3, fun lq nlq => ?_⟩
          refine ⟨_, rfl, a, g, lq, _, 5, ["behind", "ahead", "with"], sg, _, rfl, s16.new nlq, by omega, (s16.ne nlq).1, new_at nlq _, form3, pool, by omega, by omega, by omega, by omega, fun v3 k3 H18 b18 s18 ka3 ok3 dk3 zk3 => ?_⟩
          have b15 : But a H15 H18 := b16.trans ((But.new nlq).trans b18)
          have tp15 := b15.tps hsx15
          have ko18 := mono12 tp15 ko15
          have ko28 := mono12 tp15 ko25
          have hD18 := b15 _ _ nDa hD15
          have wz18 := wz15.mono (KRow.mono tp15)
          have kb3 : KB k3 := ⟨ok3, by omega, by omega⟩
          have s18' := s18.le (show _ ≤ i * 400 + 310 by omega)
          obtain ⟨sx18, hsx18⟩ := s18'.lst
          refine ⟨_, rfl, _, rfl, a, g, _, v2, k2, rfl, s18', by omega, ko28.1, ok2, by omega, fun v4 k4 H19 b19 s19 ka4 ok4 dk4 zk4 => ?_⟩
          have tp19 := b19.tps hsx18
          have ko19 := mono12 tp19 ko18
          obtain ⟨sx19, hsx19⟩ := s19.lst
          refine ⟨_, rfl, _, rfl, a, g, _, v, k, rfl, s19, by omega, ko19.1, ok, by omega, fun v5 k5 H20 b20 s20 ka5 ok5 dk5 zk5 => ?_⟩
          have tp20 := b20.tps hsx19
          have b1820 := b19.trans b20
          have tp1820 := tp19.trans tp20
          obtain ⟨c0x, hx0, lx0⟩ := pool.1.at (r := 0) (by omega) (by have := pool.2.1; omega)
          have zle := zk4
          refine ⟨_, rfl, _, rfl, _, rfl, _, _, c0x, rfl, rfl, by decide, by decide, by have := pool.2.1; omega, hx0, c2, fun tp ntp => ⟨c5, fun L nL => ?_⟩⟩
          have eL := (same_new ntp (.tup [.str "plain", .str ⟨#[c0x]⟩])).trans (same_new nL (.lst [v4, v5, v, v3, .ref tp]))
          have htp := same_new nL (.lst [v4, v5, v, v3, .ref tp]) _ _ (new_at ntp (.tup [.str "plain", .str ⟨#[c0x]⟩]))
          have hL := new_at nL (.lst [v4, v5, v, v3, .ref tp])
          generalize upd (upd H20 tp (.tup [.str "plain", .str ⟨#[c0x]⟩])) L (.lst [v4, v5, v, v3, .ref tp]) = HL at eL htp hL
          have tL := Tps.of eL
          have koL := mono12 (tp1820.trans tL) ko18
          have ko2L := mono12 (tp1820.trans tL) ko28
          have hDL := eL _ _ (b1820 _ _ nDa hD18)
          have wzL := wz18.mono (KRow.mono (tp1820.trans tL))
          have sL := s20.mono eL (Nat.le_refl _)
          have all : ∀ x ∈ [v4, v5, v, v3, V.ref tp], ∃ kx, KOk HL x kx := fun x hx => by
            simp only [List.mem_cons, List.not_mem_nil, or_false] at hx
            rcases hx with rfl | rfl | rfl | rfl | rfl
            · exact ⟨k4, (ka4.mono tp20).mono tL, ok4, by omega, by omega⟩
            · exact ⟨k5, ka5.mono tL, ok5, by omega, by omega⟩
            · exact ⟨k, koL⟩
            · exact ⟨k3, ka3.mono (tp1820.trans tL), kb3⟩
            · exact ⟨.pl ⟨#[c0x]⟩, ⟨tp, rfl, htp⟩, lx0, by show 1 ≤ 8; decide, by show 1 ≤ 60; decide⟩
          refine ⟨L, rfl, ⟨_, SqL.of hL⟩, for_list (xs := [v4, v5, v, v3, .ref tp]) (fun j σ H' => ∃ o12, σ = [some (.ref s0), some (.ref a), some (.int (0 + (i : Int))), some (.str sg), some (.ref qf), some v, some (.ref d), some v2, some (.ref D), o9, some (.ref lf), some v3, o12] ∧ Same HL H') ⟨_, rfl, Same.refl _⟩ (fun j σ H' _ ⟨_, _, e⟩ => SqL.of (e _ _ hL)) ?_ ?_⟩
          · rintro j x σ HM hx ⟨o12, rfl, eM⟩
            obtain ⟨kx, kox⟩ := all x (List.mem_of_getElem? hx)
            refine ⟨fun σ H' => σ = [some (.ref s0), some (.ref a), some (.int (0 + (i : Int))), some (.str sg), some (.ref qf), some v, some (.ref d), some v2, some (.ref D), o9, some (.ref lf), some v3, some x] ∧ Same HL H', ?_, ?_⟩
            · refine ⟨_, rfl, _, rfl, v, x, k, kx, rfl, mono12 (.of eM) koL, mono12 (.of eM) kox, fun l1 r1 z1 p1 Ha ea n1 h1 w1 hp1 hc1 as1 => ?_, fun Ha ea hno1 => ?_⟩
              · have eMa := eM.trans ea
                refine ⟨_, rfl, _, rfl, v, x, k, kx, rfl, mono12 (.of eMa) koL, mono12 (.of eMa) kox, fun l2 r2 z2 p2 Hb eb n2 h2 w2 hp2 hc2 as2 => ?_, fun Hb eb hno2 => (hno2 p1 hp1 hc1).elim⟩
                have e1 : p1 = p2 := Option.some.inj (hp1.symm.trans hp2)
                subst e1
                have e2 : z1 = z2 := asc_eq as1 as2
                subst e2
                exact ⟨.ref l1, .ref l2, .list (z1.map rowK), rfl, .lst (SqL.of (eb _ _ h1)) (dps_of rowK (fun _ _ h => KRow.dp h) (w1.mono (KRow.mono (.of eb)))), .lst (SqL.of h2) (dps_of rowK (fun _ _ h => KRow.dp h) w2), asc_gd koL.2.2.2 kox.2.1 kox.2.2.1 hp1 as1, fun Hc ec => ⟨_, rfl, bf rfl ⟨rfl, eMa.trans (eb.trans ec)⟩⟩⟩
              · have eMa := eM.trans ea
                exact ⟨_, rfl, _, rfl, v, x, k, kx, rfl, mono12 (.of eMa) koL, mono12 (.of eMa) kox, fun l2 r2 z2 p2 Hb eb n2 h2 w2 hp2 hc2 as2 => (hno1 p2 hp2 hc2).elim, fun Hb eb hno2 => ⟨.non, .non, .none, rfl, .non, .non, trivial, fun Hc ec => ⟨_, rfl, bf rfl ⟨rfl, eMa.trans (eb.trans ec)⟩⟩⟩⟩
            · rintro σ HN ⟨rfl, eN⟩
              refine ⟨_, rfl, _, rfl, rfl, x, v, kx, k, rfl, mono12 (.of eN) kox, mono12 (.of eN) koL, fun l1 r1 z1 p1 Ha ea n1 h1 w1 hp1 hc1 as1 => ?_, fun Ha ea hno1 => ?_⟩
              · have eMa := eN.trans ea
                refine ⟨_, rfl, _, rfl, x, v, kx, k, rfl, mono12 (.of eMa) kox, mono12 (.of eMa) koL, fun l2 r2 z2 p2 Hb eb n2 h2 w2 hp2 hc2 as2 => ?_, fun Hb eb hno2 => (hno2 p1 hp1 hc1).elim⟩
                have e1 : p1 = p2 := Option.some.inj (hp1.symm.trans hp2)
                subst e1
                have e2 : z1 = z2 := asc_eq as1 as2
                subst e2
                exact ⟨.ref l1, .ref l2, .list (z1.map rowK), rfl, .lst (SqL.of (eb _ _ h1)) (dps_of rowK (fun _ _ h => KRow.dp h) (w1.mono (KRow.mono (.of eb)))), .lst (SqL.of h2) (dps_of rowK (fun _ _ h => KRow.dp h) w2), asc_gd kox.2.2.2 koL.2.1 koL.2.2.1 hp1 as1, fun Hc ec => ⟨_, rfl, bf rfl ⟨_, rfl, eMa.trans (eb.trans ec)⟩⟩⟩
              · have eMa := eN.trans ea
                exact ⟨_, rfl, _, rfl, x, v, kx, k, rfl, mono12 (.of eMa) kox, mono12 (.of eMa) koL, fun l2 r2 z2 p2 Hb eb n2 h2 w2 hp2 hc2 as2 => (hno1 p2 hp2 hc2).elim, fun Hb eb hno2 => ⟨.non, .non, .none, rfl, .non, .non, trivial, fun Hc ec => ⟨_, rfl, bf rfl ⟨_, rfl, eMa.trans (eb.trans ec)⟩⟩⟩⟩
          · rintro σ HM ⟨o12, rfl, eM⟩
            refine ⟨_, rfl, _, rfl, v, v2, k, k2, rfl, mono12 (.of eM) koL, mono12 (.of eM) ko2L, fun l1 r1 z1 p1 Ha ea n1 h1 w1 hp1 hc1 as1 => ?_, fun Ha ea hno1 => (hno1 ps1 hps con).elim⟩
            have e1 : p1 = ps1 := Option.some.inj (hp1.symm.trans hps)
            subst e1
            have e2 : z1 = zs1 := asc_eq as1 asc
            subst e2
            have eMa := eM.trans ea
            refine ⟨_, rfl, .ref l1, .ref D, .list (z1.map rowK), rfl, .lst (SqL.of h1) (dps_of rowK (fun _ _ h => KRow.dp h) w1), .lst (SqL.of (eMa _ _ hDL)) (dps_of rowK (fun _ _ h => KRow.dp h) (wzL.mono (KRow.mono (.of eMa)))), gdz, fun Hb eb => ⟨_, rfl, bf rfl ?_⟩⟩
            have eMb := eMa.trans eb
            refine ⟨_, rfl, _, rfl, v2, v, k2, k, rfl, mono12 (.of eMb) ko2L, mono12 (.of eMb) koL, fun l3 r3 z3 p3 Hc ec n3 h3 w3 hp3 hc3 as3 => ?_, fun Hc ec hno3 => ?_⟩
            · have eMc := eMb.trans ec
              refine ⟨_, rfl, _, rfl, v2, v, k2, k, rfl, mono12 (.of eMc) ko2L, mono12 (.of eMc) koL, fun l4 r4 z4 p4 Hd ed n4 h4 w4 hp4 hc4 as4 => ?_, fun Hd ed hno4 => (hno4 p3 hp3 hc3).elim⟩
              have e3 : p3 = p4 := Option.some.inj (hp3.symm.trans hp4)
              subst e3
              have e4 : z3 = z4 := asc_eq as3 as4
              subst e4
              exact ⟨.ref l3, .ref l4, .list (z3.map rowK), rfl, .lst (SqL.of (ed _ _ h3)) (dps_of rowK (fun _ _ h => KRow.dp h) (w3.mono (KRow.mono (.of ed)))), .lst (SqL.of h4) (dps_of rowK (fun _ _ h => KRow.dp h) w4), asc_gd ko2L.2.2.2 koL.2.1 koL.2.2.1 hp3 as3, fun He ee => ⟨_, rfl, bf rfl ⟨_, _, _, _, _, _, _, _, _, _, _, rfl, (sL.mono (eMc.trans (ed.trans ee)) (Nat.le_refl _)).le (by omega)⟩⟩⟩
            · have eMc := eMb.trans ec
              exact ⟨_, rfl, _, rfl, v2, v, k2, k, rfl, mono12 (.of eMc) ko2L, mono12 (.of eMc) koL, fun l4 r4 z4 p4 Hd ed n4 h4 w4 hp4 hc4 as4 => (hno3 p4 hp4 hc4).elim, fun Hd ed hno4 => ⟨.non, .non, .none, rfl, .non, .non, trivial, fun He ee => ⟨_, rfl, bf rfl ⟨_, _, _, _, _, _, _, _, _, _, _, rfl, (sL.mono (eMc.trans (ed.trans ee)) (Nat.le_refl _)).le (by omega)⟩⟩⟩⟩
    · rintro σ H1 ⟨o2, o3, o4, o5, o6, o7, o8, o9, o10, o11, o12, rfl, s1⟩
      exact q H1
end
end K06

namespace K06
open PySem PySem.Spec PyProof.Rows L2 Ww
theorem all_mk {P : Program} {w : World} {K : PySem.W.Frag} {h : Heap} {mg : Str → Option Value} {fa : Addr} (X : K.In h) (G : h.Ns mainGlobals mg) (hfa : mg "law" = some (.ref fa))
    {od0 an0 : Option Addr} {sl0 : Array (Option Value)} {oc0 kV0 dc0 pm0 cd0 ct0 : Value} {f0 : Addr}
    (a0 : PySem.W.nsIn K mainGlobals "is_letter" = some (some (.ref f0))) (l0 : K.lookup f0 = some ⟨oc0, od0, .func (PySem.W.fnOf "is_letter" "is_letter" (defArgs s_is_letter) (defBody s_is_letter) (defScope s_is_letter) .none kV0 dc0 pm0 an0 cd0 ct0), sl0⟩) (c0 : PySem.W.codeIn K cd0 "is_letter" = true) (k0 : PySem.W.keepIn K (.ref f0) = true)
    {od1 an1 : Option Addr} {sl1 : Array (Option Value)} {oc1 kV1 dc1 pm1 cd1 ct1 : Value} {f1 : Addr}
    (a1 : PySem.W.nsIn K mainGlobals "wrong_part" = some (some (.ref f1))) (l1 : K.lookup f1 = some ⟨oc1, od1, .func (PySem.W.fnOf "wrong_part" "wrong_part" (defArgs s_wrong_part) (defBody s_wrong_part) (defScope s_wrong_part) .none kV1 dc1 pm1 an1 cd1 ct1), sl1⟩) (c1 : PySem.W.codeIn K cd1 "wrong_part" = true) (k1 : PySem.W.keepIn K (.ref f1) = true)
    {od2 an2 : Option Addr} {sl2 : Array (Option Value)} {oc2 kV2 dc2 pm2 cd2 ct2 : Value} {f2 : Addr}
    (a2 : PySem.W.nsIn K mainGlobals "checked_kind" = some (some (.ref f2))) (l2 : K.lookup f2 = some ⟨oc2, od2, .func (PySem.W.fnOf "checked_kind" "checked_kind" (defArgs s_checked_kind) (defBody s_checked_kind) (defScope s_checked_kind) .none kV2 dc2 pm2 an2 cd2 ct2), sl2⟩) (c2 : PySem.W.codeIn K cd2 "checked_kind" = true) (k2 : PySem.W.keepIn K (.ref f2) = true)
    {od3 an3 : Option Addr} {sl3 : Array (Option Value)} {oc3 kV3 dc3 pm3 cd3 ct3 : Value} {f3 : Addr}
    (a3 : PySem.W.nsIn K mainGlobals "checked_kinds" = some (some (.ref f3))) (l3 : K.lookup f3 = some ⟨oc3, od3, .func (PySem.W.fnOf "checked_kinds" "checked_kinds" (defArgs s_checked_kinds) (defBody s_checked_kinds) (defScope s_checked_kinds) .none kV3 dc3 pm3 an3 cd3 ct3), sl3⟩) (c3 : PySem.W.codeIn K cd3 "checked_kinds" = true) (k3 : PySem.W.keepIn K (.ref f3) = true)
    {od4 an4 : Option Addr} {sl4 : Array (Option Value)} {oc4 kV4 dc4 pm4 cd4 ct4 : Value} {f4 : Addr}
    (a4 : PySem.W.nsIn K mainGlobals "matches" = some (some (.ref f4))) (l4 : K.lookup f4 = some ⟨oc4, od4, .func (PySem.W.fnOf "matches" "matches" (defArgs s_matches) (defBody s_matches) (defScope s_matches) .none kV4 dc4 pm4 an4 cd4 ct4), sl4⟩) (c4 : PySem.W.codeIn K cd4 "matches" = true) (k4 : PySem.W.keepIn K (.ref f4) = true)
    {od5 an5 : Option Addr} {sl5 : Array (Option Value)} {oc5 kV5 dc5 pm5 cd5 ct5 : Value} {f5 : Addr}
    (a5 : PySem.W.nsIn K mainGlobals "puts" = some (some (.ref f5))) (l5 : K.lookup f5 = some ⟨oc5, od5, .func (PySem.W.fnOf "puts" "puts" (defArgs s_puts) (defBody s_puts) (defScope s_puts) .none kV5 dc5 pm5 an5 cd5 ct5), sl5⟩) (c5 : PySem.W.codeIn K cd5 "puts" = true) (k5 : PySem.W.keepIn K (.ref f5) = true)
    {od6 an6 : Option Addr} {sl6 : Array (Option Value)} {oc6 kV6 dc6 pm6 cd6 ct6 : Value} {f6 : Addr}
    (a6 : PySem.W.nsIn K mainGlobals "_law_begun" = some (some (.ref f6))) (l6 : K.lookup f6 = some ⟨oc6, od6, .func (PySem.W.fnOf "_law_begun" "_law_begun" (defArgs s_begun) (defBody s_begun) (defScope s_begun) .none kV6 dc6 pm6 an6 cd6 ct6), sl6⟩) (c6 : PySem.W.codeIn K cd6 "_law_begun" = true) (k6 : PySem.W.keepIn K (.ref f6) = true)
    {od7 an7 : Option Addr} {sl7 : Array (Option Value)} {oc7 kV7 dc7 pm7 cd7 ct7 : Value} {f7 : Addr}
    (a7 : PySem.W.nsIn K mainGlobals "_law_pick" = some (some (.ref f7))) (l7 : K.lookup f7 = some ⟨oc7, od7, .func (PySem.W.fnOf "_law_pick" "_law_pick" (defArgs s_pick) (defBody s_pick) (defScope s_pick) .none kV7 dc7 pm7 an7 cd7 ct7), sl7⟩) (c7 : PySem.W.codeIn K cd7 "_law_pick" = true) (k7 : PySem.W.keepIn K (.ref f7) = true)
    {od8 an8 : Option Addr} {sl8 : Array (Option Value)} {oc8 kV8 dc8 pm8 cd8 ct8 : Value} {f8 : Addr}
    (a8 : PySem.W.nsIn K mainGlobals "_law_alike" = some (some (.ref f8))) (l8 : K.lookup f8 = some ⟨oc8, od8, .func (PySem.W.fnOf "_law_alike" "_law_alike" (defArgs s_alike) (defBody s_alike) (defScope s_alike) .none kV8 dc8 pm8 an8 cd8 ct8), sl8⟩) (c8 : PySem.W.codeIn K cd8 "_law_alike" = true) (k8 : PySem.W.keepIn K (.ref f8) = true)
    {od9 an9 : Option Addr} {sl9 : Array (Option Value)} {oc9 kV9 dc9 pm9 cd9 ct9 : Value} {f9 : Addr}
    (a9 : PySem.W.nsIn K mainGlobals "_law_pool" = some (some (.ref f9))) (l9 : K.lookup f9 = some ⟨oc9, od9, .func (PySem.W.fnOf "_law_pool" "_law_pool" (defArgs s_pool) (defBody s_pool) (defScope s_pool) .none kV9 dc9 pm9 an9 cd9 ct9), sl9⟩) (c9 : PySem.W.codeIn K cd9 "_law_pool" = true) (k9 : PySem.W.keepIn K (.ref f9) = true)
    {od10 an10 : Option Addr} {sl10 : Array (Option Value)} {oc10 kV10 dc10 pm10 cd10 ct10 : Value} {f10 : Addr}
    (a10 : PySem.W.nsIn K mainGlobals "_law_grown" = some (some (.ref f10))) (l10 : K.lookup f10 = some ⟨oc10, od10, .func (PySem.W.fnOf "_law_grown" "_law_grown" (defArgs s_grown) (defBody s_grown) (defScope s_grown) .none kV10 dc10 pm10 an10 cd10 ct10), sl10⟩) (c10 : PySem.W.codeIn K cd10 "_law_grown" = true) (k10 : PySem.W.keepIn K (.ref f10) = true)
    {od11 an11 : Option Addr} {sl11 : Array (Option Value)} {oc11 kV11 dc11 pm11 cd11 ct11 : Value} {f11 : Addr}
    (a11 : PySem.W.nsIn K mainGlobals "_law_places" = some (some (.ref f11))) (l11 : K.lookup f11 = some ⟨oc11, od11, .func (PySem.W.fnOf "_law_places" "_law_places" (defArgs s_places) (defBody s_places) (defScope s_places) .none kV11 dc11 pm11 an11 cd11 ct11), sl11⟩) (c11 : PySem.W.codeIn K cd11 "_law_places" = true) (k11 : PySem.W.keepIn K (.ref f11) = true)
    {od12 an12 : Option Addr} {sl12 : Array (Option Value)} {oc12 kV12 dc12 pm12 cd12 ct12 : Value} {f12 : Addr}
    (a12 : PySem.W.nsIn K mainGlobals "_law_put" = some (some (.ref f12))) (l12 : K.lookup f12 = some ⟨oc12, od12, .func (PySem.W.fnOf "_law_put" "_law_put" (defArgs s_put) (defBody s_put) (defScope s_put) .none kV12 dc12 pm12 an12 cd12 ct12), sl12⟩) (c12 : PySem.W.codeIn K cd12 "_law_put" = true) (k12 : PySem.W.keepIn K (.ref f12) = true)
    {od13 an13 : Option Addr} {sl13 : Array (Option Value)} {oc13 kV13 dc13 pm13 cd13 ct13 : Value} {f13 : Addr}
    (a13 : PySem.W.nsIn K mainGlobals "_law_table" = some (some (.ref f13))) (l13 : K.lookup f13 = some ⟨oc13, od13, .func (PySem.W.fnOf "_law_table" "_law_table" (defArgs s_table) (defBody s_table) (defScope s_table) .none kV13 dc13 pm13 an13 cd13 ct13), sl13⟩) (c13 : PySem.W.codeIn K cd13 "_law_table" = true) (k13 : PySem.W.keepIn K (.ref f13) = true)
    {od14 an14 : Option Addr} {sl14 : Array (Option Value)} {oc14 kV14 dc14 pm14 cd14 ct14 : Value} {f14 : Addr}
    (a14 : PySem.W.nsIn K mainGlobals "_law_bent" = some (some (.ref f14))) (l14 : K.lookup f14 = some ⟨oc14, od14, .func (PySem.W.fnOf "_law_bent" "_law_bent" (defArgs s_bent) (defBody s_bent) (defScope s_bent) .none kV14 dc14 pm14 an14 cd14 ct14), sl14⟩) (c14 : PySem.W.codeIn K cd14 "_law_bent" = true) (k14 : PySem.W.keepIn K (.ref f14) = true)
    {od15 an15 : Option Addr} {sl15 : Array (Option Value)} {oc15 kV15 dc15 pm15 cd15 ct15 : Value} {f15 : Addr}
    (a15 : PySem.W.nsIn K mainGlobals "_law_due" = some (some (.ref f15))) (l15 : K.lookup f15 = some ⟨oc15, od15, .func (PySem.W.fnOf "_law_due" "_law_due" (defArgs s_due) (defBody s_due) (defScope s_due) .none kV15 dc15 pm15 an15 cd15 ct15), sl15⟩) (c15 : PySem.W.codeIn K cd15 "_law_due" = true) (k15 : PySem.W.keepIn K (.ref f15) = true)
    {od16 an16 : Option Addr} {sl16 : Array (Option Value)} {oc16 kV16 dc16 pm16 cd16 ct16 : Value} {f16 : Addr}
    (a16 : PySem.W.nsIn K mainGlobals "law" = some (some (.ref f16))) (l16 : K.lookup f16 = some ⟨oc16, od16, .func (PySem.W.fnOf "law" "law" (defArgs s_law) (defBody s_law) (defScope s_law) .none kV16 dc16 pm16 an16 cd16 ct16), sl16⟩) (c16 : PySem.W.codeIn K cd16 "law" = true) (k16 : PySem.W.keepIn K (.ref f16) = true)
    (z_bool : PySem.W.nsIn K mainGlobals "bool" = some none)
    (z_int : PySem.W.nsIn K mainGlobals "int" = some none)
    (z_isinstance : PySem.W.nsIn K mainGlobals "isinstance" = some none)
    (z_len : PySem.W.nsIn K mainGlobals "len" = some none)
    (z_list : PySem.W.nsIn K mainGlobals "list" = some none)
    (z_max : PySem.W.nsIn K mainGlobals "max" = some none)
    (z_range : PySem.W.nsIn K mainGlobals "range" = some none)
    (z_set : PySem.W.nsIn K mainGlobals "set" = some none)
    (z_sorted : PySem.W.nsIn K mainGlobals "sorted" = some none)
    (z_str : PySem.W.nsIn K mainGlobals "str" = some none)
    (z_tuple : PySem.W.nsIn K mainGlobals "tuple" = some none)
    (z_zip : PySem.W.nsIn K mainGlobals "zip" = some none)
    {t_LETTERS : Tok} (g_LETTERS : PySem.W.nsIn K mainGlobals "LETTERS" = some (some (.str "abcdefghijklmnopqrstuvwxyz" t_LETTERS)))
    {o_TURNS : Addr} {e_TURNS : Array DictEntry} {n_TURNS : Nat} (g_TURNS : PySem.W.nsIn K mainGlobals "TURNS" = some (some (.ref o_TURNS))) (l_TURNS : K.lookup o_TURNS = some ⟨.type "dict", none, .dict e_TURNS n_TURNS, #[]⟩) (i_TURNS : PySem.W.KeysLit w.params e_TURNS.toList) (j_TURNS : (o_TURNS == sysModules) = false)
    {t0_TURNS : Tok} (v0_TURNS : PySem.W.nsIn K o_TURNS "behind" = some (some (.str "ahead" t0_TURNS)))
    {t1_TURNS : Tok} (v1_TURNS : PySem.W.nsIn K o_TURNS "ahead" = some (some (.str "behind" t1_TURNS)))
    {t2_TURNS : Tok} (v2_TURNS : PySem.W.nsIn K o_TURNS "with" = some (some (.str "with" t2_TURNS)))
    : ∃ fd : FuncData, (∀ (s : Shared) (v : Value), BindsTo s fd ⟨[v], []⟩ [("_law_script", v)]) ∧ ∀ base : Heap, K.In base → base.Ns mainGlobals mg → FnOk P w K mg base CX0 15 fa fd ["_law_script"] (spLaw K) := by
  have e := hfa.symm.trans (PySem.W.mg_of X G a16)
  cases e
  let T : Txt w K mg := {
    a_is_letter := f0, d_is_letter := _, F_is_letter := fun_mk (st := s_is_letter) l0 c0 k0, m_is_letter := PySem.W.mg_of X G a0, B_is_letter := (fun_mk (st := s_is_letter) l0 c0 k0).binds (ps := P_is_letter) (fun _ _ _ _ _ _ us hl => match us, hl with | [_], _ => rfl),
    a_wrong_part := f1, d_wrong_part := _, F_wrong_part := fun_mk (st := s_wrong_part) l1 c1 k1, m_wrong_part := PySem.W.mg_of X G a1, B_wrong_part := (fun_mk (st := s_wrong_part) l1 c1 k1).binds (ps := P_wrong_part) (fun _ _ _ _ _ _ us hl => match us, hl with | [_], _ => rfl),
    a_checked_kind := f2, d_checked_kind := _, F_checked_kind := fun_mk (st := s_checked_kind) l2 c2 k2, m_checked_kind := PySem.W.mg_of X G a2, B_checked_kind := (fun_mk (st := s_checked_kind) l2 c2 k2).binds (ps := P_checked_kind) (fun _ _ _ _ _ _ us hl => match us, hl with | [_], _ => rfl),
    a_checked_kinds := f3, d_checked_kinds := _, F_checked_kinds := fun_mk (st := s_checked_kinds) l3 c3 k3, m_checked_kinds := PySem.W.mg_of X G a3, B_checked_kinds := (fun_mk (st := s_checked_kinds) l3 c3 k3).binds (ps := P_checked_kinds) (fun _ _ _ _ _ _ us hl => match us, hl with | [_], _ => rfl),
    a_matches := f4, d_matches := _, F_matches := fun_mk (st := s_matches) l4 c4 k4, m_matches := PySem.W.mg_of X G a4, B_matches := (fun_mk (st := s_matches) l4 c4 k4).binds (ps := P_matches) (fun _ _ _ _ _ _ us hl => match us, hl with | [_, _, _], _ => rfl),
    a_puts := f5, d_puts := _, F_puts := fun_mk (st := s_puts) l5 c5 k5, m_puts := PySem.W.mg_of X G a5, B_puts := (fun_mk (st := s_puts) l5 c5 k5).binds (ps := P_puts) (fun _ _ _ _ _ _ us hl => match us, hl with | [_, _], _ => rfl),
    K_puts := kb_two (fun_mk (st := s_puts) l5 c5 k5) fun _ _ _ _ _ _ _ _ => rfl,
    a_begun := f6, d_begun := _, F_begun := fun_mk (st := s_begun) l6 c6 k6, m_begun := PySem.W.mg_of X G a6, B_begun := (fun_mk (st := s_begun) l6 c6 k6).binds (ps := P_begun) (fun _ _ _ _ _ _ us hl => match us, hl with | [_], _ => rfl),
    a_pick := f7, d_pick := _, F_pick := fun_mk (st := s_pick) l7 c7 k7, m_pick := PySem.W.mg_of X G a7, B_pick := (fun_mk (st := s_pick) l7 c7 k7).binds (ps := P_pick) (fun _ _ _ _ _ _ us hl => match us, hl with | [_, _], _ => rfl),
    a_alike := f8, d_alike := _, F_alike := fun_mk (st := s_alike) l8 c8 k8, m_alike := PySem.W.mg_of X G a8, B_alike := (fun_mk (st := s_alike) l8 c8 k8).binds (ps := P_alike) (fun _ _ _ _ _ _ us hl => match us, hl with | [_, _], _ => rfl),
    a_pool := f9, d_pool := _, F_pool := fun_mk (st := s_pool) l9 c9 k9, m_pool := PySem.W.mg_of X G a9, B_pool := (fun_mk (st := s_pool) l9 c9 k9).binds (ps := P_pool) (fun _ _ _ _ _ _ us hl => match us, hl with | [_], _ => rfl),
    a_grown := f10, d_grown := _, F_grown := fun_mk (st := s_grown) l10 c10 k10, m_grown := PySem.W.mg_of X G a10, B_grown := (fun_mk (st := s_grown) l10 c10 k10).binds (ps := P_grown) (fun _ _ _ _ _ _ us hl => match us, hl with | [_, _, _, _, _], _ => rfl),
    a_places := f11, d_places := _, F_places := fun_mk (st := s_places) l11 c11 k11, m_places := PySem.W.mg_of X G a11, B_places := (fun_mk (st := s_places) l11 c11 k11).binds (ps := P_places) (fun _ _ _ _ _ _ us hl => match us, hl with | [_], _ => rfl),
    a_put := f12, d_put := _, F_put := fun_mk (st := s_put) l12 c12 k12, m_put := PySem.W.mg_of X G a12, B_put := (fun_mk (st := s_put) l12 c12 k12).binds (ps := P_put) (fun _ _ _ _ _ _ us hl => match us, hl with | [_, _], _ => rfl),
    a_table := f13, d_table := _, F_table := fun_mk (st := s_table) l13 c13 k13, m_table := PySem.W.mg_of X G a13, B_table := (fun_mk (st := s_table) l13 c13 k13).binds (ps := P_table) (fun _ _ _ _ _ _ us hl => match us, hl with | [_, _, _], _ => rfl),
    a_bent := f14, d_bent := _, F_bent := fun_mk (st := s_bent) l14 c14 k14, m_bent := PySem.W.mg_of X G a14, B_bent := (fun_mk (st := s_bent) l14 c14 k14).binds (ps := P_bent) (fun _ _ _ _ _ _ us hl => match us, hl with | [_, _], _ => rfl),
    a_due := f15, d_due := _, F_due := fun_mk (st := s_due) l15 c15 k15, m_due := PySem.W.mg_of X G a15, B_due := (fun_mk (st := s_due) l15 c15 k15).binds (ps := P_due) (fun _ _ _ _ _ _ us hl => match us, hl with | [_, _], _ => rfl),
    a_law := fa, d_law := _, F_law := fun_mk (st := s_law) l16 c16 k16, m_law := PySem.W.mg_of X G a16, B_law := (fun_mk (st := s_law) l16 c16 k16).binds (ps := P_law) (fun _ _ _ _ _ _ us hl => match us, hl with | [_], _ => rfl),
    b_bool := PySem.W.mg_none_of X G z_bool,
    b_int := PySem.W.mg_none_of X G z_int,
    b_isinstance := PySem.W.mg_none_of X G z_isinstance,
    b_len := PySem.W.mg_none_of X G z_len,
    b_list := PySem.W.mg_none_of X G z_list,
    b_max := PySem.W.mg_none_of X G z_max,
    b_range := PySem.W.mg_none_of X G z_range,
    b_set := PySem.W.mg_none_of X G z_set,
    b_sorted := PySem.W.mg_none_of X G z_sorted,
    b_str := PySem.W.mg_none_of X G z_str,
    b_tuple := PySem.W.mg_none_of X G z_tuple,
    b_zip := PySem.W.mg_none_of X G z_zip,
    t_LETTERS := t_LETTERS, g_LETTERS := PySem.W.mg_of X G g_LETTERS,
    o_TURNS := o_TURNS, e_TURNS := e_TURNS, n_TURNS := n_TURNS, g_TURNS := PySem.W.mg_of X G g_TURNS, D_TURNS := ⟨l_TURNS, i_TURNS, j_TURNS⟩,
    t0_TURNS := t0_TURNS, v0_TURNS := v0_TURNS,
    t1_TURNS := t1_TURNS, v1_TURNS := v1_TURNS,
    t2_TURNS := t2_TURNS, v2_TURNS := v2_TURNS }
  exact ⟨T.d_law, fun s v => .of_eq rfl, fun base _ _ => ok_law (P := P) (base := base) T⟩
end K06

open PySem PySem.W PyProof.Rows L2
set_option maxRecDepth 100000 in
set_option maxHeartbeats 0 in
theorem PySem.Challenge.cw_waitwords_k06_whole_puts_holds : PySem.Challenge.rw_waitwords_k06_whole_puts.Holds := by
  w_on; o_law; k_head; (case hw => w_witness2)
  k_fill
  refine L2.walk_ofK (l := PySem.Challenge.rw_waitwords_k06_whole_puts) (n := 63) (k := 15) (x := "_law_script") (CX := CX0) (sp := K06.spLaw) rfl (by decide) rfl ⟨rfl, by decide, by decide⟩ (fun w h Y => PySem.W.kIn_of Y) ?F (fun _ _ a ns hl _ hS => ⟨a, ns, rfl, hS, hl, fun _ => rfl⟩) fun _ _ _ _ z => z
  case F =>
    intro w mg fa h KX G hmg
    refine' K06.all_mk KX G hmg ?a0 ?l0 ?c0 ?k0 ?a1 ?l1 ?c1 ?k1 ?a2 ?l2 ?c2 ?k2 ?a3 ?l3 ?c3 ?k3 ?a4 ?l4 ?c4 ?k4 ?a5 ?l5 ?c5 ?k5 ?a6 ?l6 ?c6 ?k6 ?a7 ?l7 ?c7 ?k7 ?a8 ?l8 ?c8 ?k8 ?a9 ?l9 ?c9 ?k9 ?a10 ?l10 ?c10 ?k10 ?a11 ?l11 ?c11 ?k11 ?a12 ?l12 ?c12 ?k12 ?a13 ?l13 ?c13 ?k13 ?a14 ?l14 ?c14 ?k14 ?a15 ?l15 ?c15 ?k15 ?a16 ?l16 ?c16 ?k16 ?z_bool ?z_int ?z_isinstance ?z_len ?z_list ?z_max ?z_range ?z_set ?z_sorted ?z_str ?z_tuple ?z_zip ?g_LETTERS ?g_TURNS ?l_TURNS ?i_TURNS ?j_TURNS ?v0_TURNS ?v1_TURNS ?v2_TURNS
    (case a0 => k_is); (case l0 => k_is); (case c0 => k_is); (case k0 => k_is)
    (case a1 => k_is); (case l1 => k_is); (case c1 => k_is); (case k1 => k_is)
    (case a2 => k_is); (case l2 => k_is); (case c2 => k_is); (case k2 => k_is)
    (case a3 => k_is); (case l3 => k_is); (case c3 => k_is); (case k3 => k_is)
    (case a4 => k_is); (case l4 => k_is); (case c4 => k_is); (case k4 => k_is)
    (case a5 => k_is); (case l5 => k_is); (case c5 => k_is); (case k5 => k_is)
    (case a6 => k_is); (case l6 => k_is); (case c6 => k_is); (case k6 => k_is)
    (case a7 => k_is); (case l7 => k_is); (case c7 => k_is); (case k7 => k_is)
    (case a8 => k_is); (case l8 => k_is); (case c8 => k_is); (case k8 => k_is)
    (case a9 => k_is); (case l9 => k_is); (case c9 => k_is); (case k9 => k_is)
    (case a10 => k_is); (case l10 => k_is); (case c10 => k_is); (case k10 => k_is)
    (case a11 => k_is); (case l11 => k_is); (case c11 => k_is); (case k11 => k_is)
    (case a12 => k_is); (case l12 => k_is); (case c12 => k_is); (case k12 => k_is)
    (case a13 => k_is); (case l13 => k_is); (case c13 => k_is); (case k13 => k_is)
    (case a14 => k_is); (case l14 => k_is); (case c14 => k_is); (case k14 => k_is)
    (case a15 => k_is); (case l15 => k_is); (case c15 => k_is); (case k15 => k_is)
    (case a16 => k_is); (case l16 => k_is); (case c16 => k_is); (case k16 => k_is)
    (case z_bool => k_is); (case z_int => k_is); (case z_isinstance => k_is); (case z_len => k_is)
    (case z_list => k_is); (case z_max => k_is); (case z_range => k_is); (case z_set => k_is)
    (case z_sorted => k_is); (case z_str => k_is); (case z_tuple => k_is); (case z_zip => k_is)
    (case g_LETTERS => k_is); (case g_TURNS => k_is); (case l_TURNS => k_is); (case i_TURNS => exact ⟨⟨_, _, rfl, rfl⟩, ⟨_, _, rfl, rfl⟩, ⟨_, _, rfl, rfl⟩, trivial⟩)
    (case j_TURNS => decide +kernel); (case v0_TURNS => k_is); (case v1_TURNS => k_is); (case v2_TURNS => k_is)
