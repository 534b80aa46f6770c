import PyProof.Rows.All
import Wide.All
import OpenK.AllK
import Wide.FinOn
import HandS.ForMost
import HandS.Wide
import HandS.IsInst
import HandS.Zip
import HandS.SetTxt0
import HandS.Strs
import HandS.Style
import HandS.Evl
import PyProof.Rows.SortStr
import PyProof.Rows.SetFrom
import HandS.SetFor
import KE.KxText
import HandS.Dict
import HandS.More
import HandS.DictTup
import HandS.SetKeys
import HandS.Deep
import KE.DataEq
import HandS.TryOnly
import HandS.ExcInit
import HandS.ExcField
import HandS.WordsExc
import HandS.TryMany
import HandS.Star
import HandS.StrMore
import PyProof.StrWalks
import PyProof.SliceStr2
import KE.KRevSl
import PyProof.StrReplace2
import PyProof.ToksMono
import HandS.Replace
import HandS.ReplaceList
import PyProof.Rows.StrCase
import PyProof.Rows.StrAscii
import PyProof.Rows.RegReprOcc
import PySem.Challenge.RW_waitwords_k03_whole_swapped_and_lifted
set_option Elab.async false
set_option linter.all false
set_option maxRecDepth 100000
set_option maxHeartbeats 4000000
namespace Ww
open PySem PySem.Spec PyProof.Rows L2

/-! ### calls by keywords alone -/
/-- how the keywords' values come to the parameters -/
structure KB0 (K : PySem.W.Frag) (fd : FuncData) (ps ks : List Str) (g : List Value → List Value) (gV : List V → List V) : Prop where
  to : ∀ (s : Shared) (ws : List Value), ws.length = ks.length → BindsTo s fd ⟨[], ks.zip ws⟩ (ps.zip (g ws))
  rel : ∀ {zs : List V} {ws : List Value}, Vals zs ws → Vals (gV zs) (g ws)
section
variable {X : Cx} {CX : CXT} {k : Nat} {f : Addr} {fd : FuncData} {ps ks : List Str} {sp : Sp} {E : XK} {x : Str} {p pos : Pos} {kws : List Keyword} {tk : TA} {g : List Value → List Value} {gV : List V → List V}
def tCallQ (n : Nat) (sp : Sp) (gV : List V → List V) (E : XK) (tk : TA) : TE := fun σ H Q => tk σ H fun zs H2 => zs.length = n ∧ sp (gV zs) H2 Q E
theorem pe_callQ (F : FnOk X.prog X.w X.K X.mg X.base CX k f fd ps sp) (hr : Room k X.A) (hg : Gl X x) (hm : X.mg x = some (.ref f)) (hk : PySem.W.keepIn X.K (.ref f) = true) (hb : KB0 X.K fd ps ks g gV) (hx : Passes CX X E)
    (hkw : PK X kws tk) (hall : (backToKw pos (keywordEach kws X.env)).all (·.1.isSome) = true := by rfl) (hks : (backToKw pos (keywordEach kws X.env)).filterMap (·.1) = ks := by rfl)
    (hdb : (x == ("__debug__" : Str)) = false := by decide)
    (hpl : ((backTo pos (starEach [] X.env)).any (·.1) || (backToKw pos (keywordEach kws X.env)).any (·.1.isNone)) = false := by rfl) :
    PE X (.Call (.Name x p) [] kws pos) (tCallQ ks.length sp gV E tk) := by
  refine ⟨fun pins s σ H Q I h => ?_⟩
  refine wpAny_Call_Name_kw (ld_glob I hg hm ?_ hdb)
  refine PySem.W.callWith_KW0 (h₀ := X.base) I.ok.mod.kin hk hall (thn (hkw.run pos pins s σ H _ I h) fun ws s2 ⟨zs, H2, I2, rz, hl, q2⟩ => ⟨I2.kIn, ?_⟩) hpl
  rw [hks]
  refine wpAny_call (codeAny_mono (F.run X.A X.stack s2 H2 ⟨[], ks.zip ws⟩ (g ws) (gV zs) Q E hr I2.env0 (hb.to s2 ws (rz.length.symm.trans hl)) (hb.rel rz) q2) fun r s' hq => ?_)
  match r, hq with
  | .error e, hq => exact hx pins σ H2 s2 e s' I2 hq
  | .ok (.ret u), hq => exact I2.after hq
  | .ok .next, hq => exact hq.elim
  | .ok .brk, hq => exact hq.elim
  | .ok .cont, hq => exact hq.elim
/-- one keyword, the def's one parameter -/
theorem kb_one {K : PySem.W.Frag} {x qual y : Str} {st : Stmt} {f : Addr} {fd : FuncData} (F : Fun K x qual st f fd)
    (h : ∀ (kV doc pm : Value) (an : Option Addr) (cdv ct u : Value), bindArgs (PySem.W.fnOf x qual (defArgs st) (defBody st) (defScope st) .none kV doc pm an cdv ct) ⟨[], [(y, u)]⟩ = pure [(y, u)]) :
    KB0 K fd [y] [y] (fun ws => ws) (fun zs => zs) := by
  obtain ⟨oc, od, kV, doc, pm, an, cdv, ct, osl, rfl, lk, hcd⟩ := F.ex
  refine ⟨fun s ws hl => ?_, fun r => r⟩
  match ws, hl with
  | [u], _ => exact .of_eq (h kV doc pm an cdv ct u)
end

/-! ### heaps -/
theorem same_new {H : Hp} {p : Addr} (h : H p = none) (o : HO) : Same H (upd H p o) := fun b u q => by
  rw [upd_ne (ne_of_none q h)]
  exact q
theorem Same.at {H H' : Hp} {a : Addr} {o : HO} (e : Same H H') (h : H a = some o) : H' a = some o := e a o h
/-- the tuples stand -/
def Tps (H H' : Hp) : Prop := ∀ b xs, H b = some (.tup xs) → H' b = some (.tup xs)
theorem Tps.refl (H : Hp) : Tps H H := fun _ _ h => h
theorem Tps.trans {H H1 H2 : Hp} (a : Tps H H1) (b : Tps H1 H2) : Tps H H2 := fun c o h => b c o (a c o h)
theorem Tps.of {H H' : Hp} (e : Same H H') : Tps H H' := fun b xs h => e b _ h
theorem Tps.lst {H : Hp} {a : Addr} {xs : List V} {o : HO} (h : H a = some (.lst xs)) : Tps H (upd H a o) := fun b ys q => by
  rw [upd_ne (ne_of q h (fun z => by cases z))]
  exact q
theorem Tps.new {H : Hp} {a : Addr} {o : HO} (h : H a = none) : Tps H (upd H a o) := .of (same_new h o)
/-- all but a stands -/
def But (a : Addr) (H H' : Hp) : Prop := ∀ b o, b ≠ a → H b = some o → H' b = some o
theorem But.refl (a : Addr) (H : Hp) : But a H H := fun _ _ _ h => h
theorem But.trans {a : Addr} {H H1 H2 : Hp} (x : But a H H1) (y : But a H1 H2) : But a H H2 := fun c o n h => y c o n (x c o n h)
theorem But.of {a : Addr} {H H' : Hp} (e : Same H H') : But a H H' := fun b o _ h => e b o h
theorem But.upd {a : Addr} {H : Hp} {o : HO} : But a H (upd H a o) := fun b u n h => by
  rw [upd_ne n]
  exact h
theorem But.new {a p : Addr} {H : Hp} {o : HO} (h : H p = none) : But a H (L2.upd H p o) := .of (same_new h o)
theorem But.tps {a : Addr} {H H' : Hp} {xs : List V} (e : But a H H') (h : H a = some (.lst xs)) : Tps H H' := fun b ys q => e b _ (ne_of q h (fun z => by cases z)) q
/-- what H does not know is not told of H' either, if H' is behind it: backwards -/
theorem free_of {H H' : Hp} (e : Same H H') {l : Addr} (h : H' l = none) : H l = none := e.free h

/-! ### kinds -/
inductive Kd where
  | pl (s : Str)
  | nd (f : Str) (a b : Kd)
def KAt (H : Hp) : V → Kd → Prop
  | v, .pl s => ∃ p, v = .ref p ∧ H p = some (.tup [.str "plain", .str s])
  | v, .nd f a b => ∃ p x y, v = .ref p ∧ H p = some (.tup [.str f, x, y]) ∧ KAt H x a ∧ KAt H y b
theorem KAt.mono {H H' : Hp} (e : Tps H H') : ∀ {k : Kd} {v : V}, KAt H v k → KAt H' v k
  | .pl _, _, ⟨p, q, h⟩ => ⟨p, q, e _ _ h⟩
  | .nd _ _ _, _, ⟨p, x, y, q, h, h1, h2⟩ => ⟨p, x, y, q, e _ _ h, KAt.mono e h1, KAt.mono e h2⟩
/-- a letter from a to z -/
def Let (s : Str) : Prop := ∃ c : Nat, s = ⟨#[c]⟩ ∧ 97 ≤ c ∧ c ≤ 122
def Form (f : Str) : Prop := f = "behind" ∨ f = "ahead" ∨ f = "with"
def Kd.ok : Kd → Prop
  | .pl s => Let s
  | .nd f a b => Form f ∧ a.ok ∧ b.ok
def Kd.deep : Kd → Nat
  | .pl _ => 1
  | .nd _ a b => 1 + max a.deep b.deep
def Kd.letters : Kd → List Str
  | .pl s => [s]
  | .nd _ a b => a.letters ++ b.letters
def Kd.single : Kd → Bool
  | .pl _ => true
  | .nd f a b => !decide (f = "with") && (a.single && b.single)
theorem Kd.deep_pos : ∀ k : Kd, 1 ≤ k.deep
  | .pl _ => Nat.le_refl 1
  | .nd _ a b => by show 1 ≤ 1 + max a.deep b.deep; omega
theorem Kd.letters_pos : ∀ k : Kd, 1 ≤ k.letters.length
  | .pl _ => Nat.le_refl 1
  | .nd _ a b => by
    show 1 ≤ (a.letters ++ b.letters).length
    have := Kd.letters_pos a
    rw [List.length_append]
    omega
/-- as data -/
def Kd.dat : Kd → PyData
  | .pl s => .tuple [.str "plain", .str s]
  | .nd f a b => .tuple [.str f, a.dat, b.dat]
theorem KAt.dp {K : PySem.W.Frag} {H : Hp} : ∀ {k : Kd} {v : V}, KAt H v k → Dp K H v k.dat
  | .pl _, _, ⟨p, q, h⟩ => by
    subst q
    exact .tup (SqT.of h) (.cons (.str _) (.cons (.str _) .nil))
  | .nd _ _ _, _, ⟨p, x, y, q, h, h1, h2⟩ => by
    subst q
    exact .tup (SqT.of h) (.cons (.str _) (.cons h1.dp (.cons h2.dp .nil)))

/-! ### data -/
mutual
theorem dp_same {K : PySem.W.Frag} {H H' : Hp} (e : Same H H') : ∀ {d : PyData} {v : V}, Dp K H v d → Dp K H' v d
  | .none, _, h => by
    cases h
    exact .non
  | .bool _, _, h => by
    cases h
    exact .bl _
  | .int _, _, h => by
    cases h
    exact .int _
  | .str _, _, h => by
    cases h
    exact .str _
  | .list _, _, h => by
    cases h with
    | lst hs ha => exact .lst (e.seq hs) (dps_same e ha)
  | .tuple _, _, h => by
    cases h with
    | tup hs ha => exact .tup (Evl.ex_t e hs) (dps_same e ha)
  | .dict _, _, h => by cases h
theorem dps_same {K : PySem.W.Frag} {H H' : Hp} (e : Same H H') : ∀ {ds : List PyData} {vs : List V}, DpAll K H vs ds → DpAll K H' vs ds
  | [], _, h => by
    cases h
    exact .nil
  | _ :: _, _, h => by
    cases h with
    | cons h1 h2 => exact .cons (dp_same e h1) (dps_same e h2)
end
end Ww

namespace Ww
open PySem PySem.Spec PyProof.Rows L2 PySem.Froz

/-! ### texts in strict order -/
/-- a is xs without doubles, ascending -/
structure Srt (xs a : List Str) : Prop where
  up : a.Pairwise fun x y => x.cps.toList < y.cps.toList
  mem : ∀ k, k ∈ a ↔ k ∈ xs
theorem str_ext {x y : Str} (h : x.cps.toList = y.cps.toList) : x = y := by
  cases x with
  | mk a =>
    cases y with
    | mk b =>
      have e : a = b := Array.ext' h
      rw [e]
theorem up_unique {α : Type} {R : α → α → Prop} (irr : ∀ x, ¬ R x x) (asy : ∀ x y, R x y → ¬ R y x) : ∀ {a b : List α}, a.Pairwise R → b.Pairwise R → (∀ k, k ∈ a ↔ k ∈ b) → a = b
  | [], [], _, _, _ => rfl
  | [], y :: b, _, _, m => absurd ((m y).2 List.mem_cons_self) (by simp)
  | x :: a, [], _, _, m => absurd ((m x).1 List.mem_cons_self) (by simp)
  | x :: a, y :: b, ha, hb, m => by
    obtain ⟨a1, a2⟩ := List.pairwise_cons.mp ha
    obtain ⟨b1, b2⟩ := List.pairwise_cons.mp hb
    have e : x = y := by
      rcases List.mem_cons.mp ((m x).1 List.mem_cons_self) with e | hx
      · exact e
      · rcases List.mem_cons.mp ((m y).2 List.mem_cons_self) with e | hy
        · exact e.symm
        · exact absurd (a1 y hy) (asy _ _ (b1 x hx))
    subst e
    congr 1
    refine up_unique irr asy a2 b2 fun k => ⟨fun hk => ?_, fun hk => ?_⟩
    · rcases List.mem_cons.mp ((m k).1 (List.mem_cons_of_mem _ hk)) with e | h
      · subst e
        exact absurd (a1 _ hk) (irr _)
      · exact h
    · rcases List.mem_cons.mp ((m k).2 (List.mem_cons_of_mem _ hk)) with e | h
      · subst e
        exact absurd (b1 _ hk) (irr _)
      · exact h
theorem lt_irr (x : List Nat) : ¬ x < x := List.lt_irrefl x
theorem Srt.eq {xs a b : List Str} (h : Srt xs a) (k : Srt xs b) : a = b :=
  up_unique (R := fun x y : Str => x.cps.toList < y.cps.toList) (fun x => lt_irr _) (fun x y h1 h2 => List.lt_asymm h1 h2) h.up k.up fun z => (h.mem z).trans (k.mem z).symm
theorem Srt.same {xs ys a : List Str} (h : Srt xs a) (e : ∀ k, k ∈ xs ↔ k ∈ ys) : Srt ys a := ⟨h.up, fun k => (h.mem k).trans (e k)⟩
theorem Srt.nodup {xs a : List Str} (h : Srt xs a) : a.Nodup := h.up.imp fun {x y} q e => by
  subst e
  exact lt_irr _ q
theorem rises {p : Str} : ∀ {l : List Str}, risingS p l = true → (p :: l).Pairwise fun x y => ¬ y.cps.toList < x.cps.toList
  | [], _ => List.pairwise_singleton _ _
  | x :: r, h => by
    unfold risingS at h
    rw [Bool.and_eq_true] at h
    have h1 : ¬ x.cps.toList < p.cps.toList := by
      have z := h.1
      rw [ltCps_eq] at z
      simpa using z
    have ih := rises h.2
    refine List.pairwise_cons.mpr ⟨fun y hy => ?_, ih⟩
    rcases List.mem_cons.mp hy with e | hy
    · subst e
      exact h1
    · have h2 := (List.pairwise_cons.mp ih).1 y hy
      exact List.not_lt.mpr (List.le_trans (List.not_lt.mp h1) (List.not_lt.mp h2))
theorem srt_of {xs a : List Str} (hs : sortedS a = true) (nd : a.Nodup) (m : ∀ k, k ∈ a ↔ k ∈ xs) : Srt xs a := by
  refine ⟨?_, m⟩
  have h : a.Pairwise fun x y => ¬ y.cps.toList < x.cps.toList := by
    cases a with
    | nil => exact List.Pairwise.nil
    | cons p l => exact rises hs
  refine (List.pairwise_iff_getElem.mpr fun i j hi hj hij => ?_)
  have h1 := List.pairwise_iff_getElem.mp h i j hi hj hij
  have h2 : a[i] ≠ a[j] := List.pairwise_iff_getElem.mp nd i j hi hj hij
  rcases Decidable.em (a[i].cps.toList < a[j].cps.toList) with z | z
  · exact z
  · exact absurd (str_ext (List.le_antisymm (List.not_lt.mp h1) (List.not_lt.mp z))) h2

/-! ### a set of texts -/
/-- the set at a holds the texts l (each once, in some order); it can be walked -/
def SetS (P : Program) (w : World) (h : Heap) (a : Addr) (l : List Str) : Prop :=
  ∃ D : SD, h.get? a = some (sObj "set" D) ∧ TxOk P w D l ∧ l.Nodup ∧ Ris D.2.2.place.toList ∧ (w.params.followText "set-order" = true ∨ D.2.2.led = true)
section
variable {P : Program} {w : World} {h h' : Heap} {a : Addr} {l : List Str}
theorem SetS.at (R : SetS P w h a l) (k : ∀ o, h.get? a = some o → h'.get? a = some o) : SetS P w h' a l := by
  obtain ⟨D, ho, r⟩ := R
  exact ⟨D, k _ ho, r⟩
theorem SetS.lt (R : SetS P w h a l) : a < h.objs.size := by
  obtain ⟨D, ho, _⟩ := R
  exact Heap.lt_size ho
theorem fresh_ris (led : Bool) : Ris (SetTable.fresh 0 0 led).place.toList := List.Pairwise.nil
theorem tail_ris {ep : Nat} {es : Array (Int × Value)} {t : SetTable} {d : Bool} (r : Ris t.place.toList) : Ris (tailTx ep es t d).2.2.place.toList := by
  unfold tailTx
  split
  · exact relayAll_ris _ _ _
  · exact r
theorem tail_led {ep : Nat} {es : Array (Int × Value)} {t : SetTable} {d : Bool} : (tailTx ep es t d).2.2.led = t.led := by
  unfold tailTx
  split
  · exact relayAll_led _ _ _
  · rfl
theorem off_ris {t : SetTable} (r : Ris t.place.toList) : Ris (if t.plain = true then { t with plain := false } else t).place.toList := by
  split <;> exact r
theorem off_led {t : SetTable} : (if t.plain = true then { t with plain := false } else t).led = t.led := by
  split <;> rfl
theorem add_ris {D : SD} {hs : Int} {v : Value} (r : Ris D.2.2.place.toList) : Ris (addTx hs v D).2.2.place.toList :=
  tail_ris (off_ris (layNew_ris D.2.2 D.1 hs v r))
theorem add_led {D : SD} {hs : Int} {v : Value} : (addTx hs v D).2.2.led = D.2.2.led :=
  tail_led.trans (off_led.trans (layNew_led D.2.2 D.1 hs v))
end
section
variable {P : Program} {w : World} {A : Around} {E : Value → Shared → Prop} {s : Shared} {a : Addr} {l : List Str}
/-- a text that the set holds, added once more -/
theorem add_old {D : SD} {k : Str} {u : Tok} {Q : Bool → Shared → Prop} (ho : s.heap.get? a = some (sObj "set" D)) (F : TxOk P w D l) (hk : k ∈ l) (hb : l.length < scanBound) (h : Q false s) :
    wpAny (model P w) A (setAddHashed a (.str k u) (hashStr w k)) Q E s := by
  obtain ⟨es, ep, t⟩ := D
  have hd : (sObj "set" (es, ep, t)).data = .set es ep t := rfl
  have hf : t.fits es.size = true := F.fit
  have hel : ElemsOf (strKind P w) es.toList := F.el
  have hb0 : es.size < scanBound := by
    have := F.sz
    simp only at this
    omega
  have hkey : (strKind P w).is k (.str k u) = true := is_str k u
  unfold setAddHashed setAddHashedIn
  refine wpAny_holding (wpAny_bind (wpAny_setState_of ho hd hf ?_))
  dsimp only
  rw [byScan_of rfl hb0 hel]
  simp only [↓reduceIte]
  unfold setAddByScan
  refine wpAny_bind (wpAny_bind (wpAny_rule (wpAny_bind (wpAny_setScan_of (knd := strKind P w) (k := k) hkey ho hd hf hel ?_))))
  cases hfi : List.findIdx? (fun e => (strKind P w).is k e.2) es.toList with
  | some j =>
    dsimp only
    exact wpAny_pure (wpAny_pure h)
  | none =>
    obtain ⟨e, he, q⟩ := (F.mem k).mp hk
    have c := List.findIdx?_eq_none_iff.mp hfi e he
    rw [q] at c
    cases c
theorem setS_add {k : Str} {u : Tok} {Q : Bool → Shared → Prop} (R : SetS P w s.heap a l) (hb : l.length + 1 < scanBound)
    (h : ∀ (h' : Heap) (b : Bool), Heap.SameBut a s.heap h' → SetS P w h' a (if k ∈ l then l else k :: l) → Q b { s with heap := h' }) :
    wpAny (model P w) A (setAddHashed a (.str k u) (hashStr w k)) Q E s := by
  obtain ⟨D, ho, F, nd, r, hl⟩ := R
  by_cases hk : k ∈ l
  · refine add_old ho F hk (by omega) ?_
    have q := h s.heap false (Heap.SameBut.refl a s.heap)
    rw [if_pos hk] at q
    exact q ⟨D, ho, F, nd, r, hl⟩
  · refine add_x ho F hk hb ?_
    have q := h _ true (Heap.SameBut.update s.heap a (fun _ => sObj "set" (addTx (hashStr w k) (.str k u) D)))
    rw [if_neg hk] at q
    exact q ⟨_, get_upd _ ho rfl, add_ok u F, List.nodup_cons.mpr ⟨hk, nd⟩, add_ris r, hl.imp id fun z => by rw [add_led]; exact z⟩
end
/-- what set(xs) holds -/
def dedup : List Str → List Str → List Str
  | l, [] => l
  | l, k :: r => dedup (if k ∈ l then l else k :: l) r
theorem mem_dedup : ∀ (xs l : List Str) (k : Str), k ∈ dedup l xs ↔ k ∈ l ∨ k ∈ xs
  | [], l, k => by simp [dedup]
  | x :: r, l, k => by
    unfold dedup
    rw [mem_dedup r]
    by_cases hx : x ∈ l
    · rw [if_pos hx, List.mem_cons]
      constructor
      · rintro (z | z)
        · exact .inl z
        · exact .inr (.inr z)
      · rintro (z | z | z)
        · exact .inl z
        · exact .inl (z ▸ hx)
        · exact .inr z
    · rw [if_neg hx, List.mem_cons, List.mem_cons]
      constructor
      · rintro ((z | z) | z)
        · exact .inr (.inl z)
        · exact .inl z
        · exact .inr (.inr z)
      · rintro (z | z | z)
        · exact .inl (.inr z)
        · exact .inl (.inl z)
        · exact .inr z
theorem dedup_len : ∀ (xs l : List Str), (dedup l xs).length ≤ l.length + xs.length
  | [], l => Nat.le_refl _
  | x :: r, l => by
    unfold dedup
    have h := dedup_len r (if x ∈ l then l else x :: l)
    have h2 : (if x ∈ l then l else x :: l).length ≤ l.length + 1 := by split <;> simp
    rw [List.length_cons]
    omega
theorem dedup_more (xs : List Str) : ∀ (l : List Str) (i : Nat) (x : Str), xs[i]? = some x → dedup l (xs.take (i + 1)) = (if x ∈ dedup l (xs.take i) then dedup l (xs.take i) else x :: dedup l (xs.take i)) := by
  induction xs with
  | nil => intro l i x h; simp at h
  | cons y r ih =>
    intro l i x h
    cases i with
    | zero =>
      have e : y = x := by simpa using h
      subst e
      rfl
    | succ i =>
      have h' : r[i]? = some x := by simpa using h
      show dedup (if y ∈ l then l else y :: l) (r.take (i + 1)) = _
      rw [ih _ i x h']
      rfl
end Ww

namespace Ww
open PySem PySem.Spec PyProof.Rows L2 PySem.Froz
theorem strs_ix : ∀ {us : List Value} {xs : List Str}, StrsAre us xs → ∀ (i : Nat) (v : Value), us[i]? = some v → ∃ k t, xs[i]? = some k ∧ v = .str k t
  | _, _, .nil, i, v, h => by simp at h
  | _, _, .cons y t _, 0, v, h => ⟨y, t, rfl, by simpa using h.symm⟩
  | _, _, .cons _ _ hr, i + 1, v, h => by
    obtain ⟨k, t, a, b⟩ := strs_ix hr i v (by simpa using h)
    exact ⟨k, t, by simpa using a, b⟩
theorem strs_len {us : List Value} {xs : List Str} (h : StrsAre us xs) : us.length = xs.length := by
  induction h with
  | nil => rfl
  | cons y t _ ih => rw [List.length_cons, List.length_cons, ih]
section
variable {P : Program} {w : World} {A : Around} {E : Value → Shared → Prop} {s : Shared}
theorem loop_strs {I : Addr} {fp wr : List Addr} {G : Array GenState → Array GenState → Prop} {n : Nat} {Pv : Nat → Value → Prop} {St : Nat → Shared → Prop} {R : Result → Shared → Prop}
    (W : WalksS P w A.in1 I fp wr G n Pv St) (S : Addr) (hf : S ∉ fp) (xs : List Str) (hn : n = xs.length) (hb : xs.length + 1 < scanBound)
    (hv : ∀ i v, Pv i v → ∃ k t, xs[i]? = some k ∧ v = .str k t) : ∀ (m i : Nat) (s : Shared), n - i = m → i ≤ n → St i s → SetS P w s.heap S (dedup [] (xs.take i)) →
      (∀ s', Moved (S :: wr) G s s' → SetS P w s'.heap S (dedup [] xs) → R (.ok (.ret .none)) s') →
      codeAny (model P w) A (.builtin "set.update.loop" ⟨[.ref S, .ref I], []⟩) R s := by
  have nw : S ∉ wr := fun z => hf (W.sub _ z)
  have up : ∀ b ∈ wr, b ∈ S :: wr := fun b z => List.mem_cons_of_mem _ z
  intro m
  induction m with
  | zero =>
    intro i s em hi st hS hR
    obtain rfl : i = n := by omega
    refine codeAny_builtin PyProof.Rows.F.entry_set_update_loop ?_
    rw [Around.under_plainId PyProof.Rows.F.plain_set_update_loop _]
    show wpAny _ A.in1 (pyNext (.ref I) >>= _) _ _ s
    refine wpAny_bind (W.done s _ _ st fun s' mv => ?_)
    show wpAny _ A.in1 (ret Value.none) _ _ s'
    rw [List.take_of_length_le (by omega)] at hS
    exact wpAny_pure (hR s' (mv.mono up) (hS.at fun o e => mv.heap S o nw e))
  | succ m ih =>
    intro i s em hi st hS hR
    have lt : i < n := by omega
    refine codeAny_builtin PyProof.Rows.F.entry_set_update_loop ?_
    rw [Around.under_plainId PyProof.Rows.F.plain_set_update_loop _]
    show wpAny _ A.in1 (pyNext (.ref I) >>= _) _ _ s
    refine wpAny_bind (W.item i s _ _ lt st fun v s1 hP st1 mv => ?_)
    obtain ⟨k, t, ek, rfl⟩ := hv i v hP
    have h1 : SetS P w s1.heap S (dedup [] (xs.take i)) := hS.at fun o e => mv.heap S o nw e
    have room : (dedup [] (xs.take i)).length + 1 < scanBound := by
      have q := dedup_len (xs.take i) []
      rw [List.length_take] at q
      simp only [List.length_nil] at q
      omega
    show wpAny _ A.in1 (holding [Value.str k t] (setAdd S (.str k t)) >>= _) _ _ s1
    refine wpAny_bind (wpAny_holding ?_)
    unfold setAdd
    refine wpAny_holding (wpAny_bind ((strKind P w).pyHash (k := k) (is_str k t) ?_))
    refine setS_add (s := { s1 with toks := s1.toks + 1 }) h1 room fun h' b sb h2 => ?_
    rw [← dedup_more xs [] i k ek] at h2
    refine wpAny_pure ⟨plainId_quiet PyProof.Rows.F.plain_set_update_loop _, ih (i + 1) _ (by omega) lt (W.frame _ s1 _ _ st1 (Nat.le_succ _) fun c hc o e => ?_) h2 fun s2 mv2 h3 => ?_⟩
    · exact (sb.2 c fun z => hf (z ▸ hc)).trans e
    · refine hR s2 (Moved.trans W.gtrans ((mv.mono up).then_heap (Nat.le_succ _) fun c o hc e => ?_) mv2) h3
      exact (sb.2 c fun z => hc (z ▸ List.mem_cons_self)).trans e
theorem setS_nil {h : Heap} {a : Addr} (ho : h.get? a = some { cls := .type "set", dict := none, data := .set #[] 0 (.fresh 0 0 (!w.params.followText "set-order")) }) : SetS P w h a [] :=
  ⟨(#[], 0, .fresh 0 0 (!w.params.followText "set-order")), ho, TxOk.nil rfl, List.nodup_nil, fresh_ris _, by
    cases w.params.followText "set-order"
    · exact .inr rfl
    · exact .inl rfl⟩
set_option maxHeartbeats 8000000 in
/-- set(a list of texts) -/
theorem call_set_strs {l : Addr} {items : Array Value} (xs : List Str) {Q : Value → Shared → Prop} (hh : A.handled = none) (hl : s.heap.IsList l items) (hit : StrsAre items.toList xs) (hb : xs.length + 1 < scanBound)
    (h : ∀ (h' : Heap) (tk : Nat), SetS P w h' s.heap.objs.size (dedup [] xs) → (∀ b o, s.heap.get? b = some o → h'.get? b = some o) → Q (.ref s.heap.objs.size) { s with heap := h', toks := tk }) :
    wpAny (model P w) A (call (.type "set") [.ref l]) Q E s := by
  have size : items.size = xs.length := by
    rw [← Array.length_toList]
    exact strs_len hit
  obtain ⟨c, tl, hmro⟩ := PySem.F.called_set.mro
  have hmade := PySem.F.called_set.made
  have hsub := PySem.F.called_set.sub
  refine wpAny_call (codeAny_of_tree ?_)
  show wpAny _ _ (callAny (.type "set") _) _ _ _
  refine wpAny_pure ⟨Code.quiet_builtin _ (by decide +kernel), codeAny_builtin PySem.F.entry_type_call ?_⟩
  rw [Around.under_plain (weight_type_call_type "set" [.ref l] []) rfl]
  have h1 := PySem.F.called_set.notType
  have h2 := PySem.F.called_set.canCreate
  have hct := PySem.F.typeCall_set_1 (.ref l)
  repeat (any_goals (first | assumption | wp_step))
  refine codeAny_mono (code_set_led1 (.ref l) (E := E) (Q₁ := fun obj s₁ => obj = .ref s.heap.objs.size ∧ s₁ = { s with heap := s.heap.push { cls := .type "set", dict := none, data := .set #[] 0 (.fresh 0 0 (!w.params.followText "set-order")) } }) ⟨rfl, rfl⟩) fun r s₁ hr => ?_
  match r, hr with
  | .error e, hr => exact hr
  | .ok .next, hr => exact hr.elim
  | .ok .brk, hr => exact hr.elim
  | .ok .cont, hr => exact hr.elim
  | .ok (.ret obj), hr =>
    obtain ⟨rfl, rfl⟩ := hr
    have hS : (s.heap.push { cls := .type "set", dict := none, data := .set #[] 0 (.fresh 0 0 (!w.params.followText "set-order")) }).get? s.heap.objs.size = some { cls := .type "set", dict := none, data := .set #[] 0 (.fresh 0 0 (!w.params.followText "set-order")) } := Heap.get?_push_size _ rfl
    have hT : Shared.TypeIs { s with heap := s.heap.push { cls := .type "set", dict := none, data := .set #[] 0 (.fresh 0 0 (!w.params.followText "set-order")) } } (.ref s.heap.objs.size) "set" := ⟨_, hS, rfl⟩
    have hli := PySem.F.called_set.init.lookup
    have hbi := PySem.F.called_set.init.bind (.ref s.heap.objs.size)
    repeat (any_goals (first | assumption | wp_step))
    refine codeAny_mono (codeAny_call_builtin (R := wants (fun r s₂ => r = .none ∧ ∃ h' tk, s₂ = { s with heap := h', toks := tk } ∧ SetS P w h' s.heap.objs.size (dedup [] xs) ∧
        (∀ b o, s.heap.get? b = some o → h'.get? b = some o)) E) PySem.F.called_set.init.plain PySem.F.entry_set_init (PySem.check_set_init_1 hT ?_)) fun r₂ s₂ hr₂ => ?_
    · obtain ⟨⟨ocls, odict, odata, oslots⟩, hol, hcl, nl, hdl⟩ := hl
      simp only at hcl hdl
      subst hcl
      subst hdl
      have hol' : (s.heap.push { cls := .type "set", dict := none, data := .set #[] 0 (.fresh 0 0 (!w.params.followText "set-order")) }).get? l = some { cls := .type "list", dict := odict, data := .seq items nl, slots := oslots } := Heap.get?_push_of_some _ hol
      have hsls := PySem.F.sub_list_set
      have hslf := PySem.F.sub_list_frozenset
      have hne : (Value.type "list" == Value.type "dict") = false := by decide
      have hl1 : (s.heap.push { cls := .type "set", dict := none, data := .set #[] 0 (.fresh 0 0 (!w.params.followText "set-order")) }).IsList l items := ⟨_, hol', rfl, nl, rfl⟩
      unfold Builtin.«set.__init__» noKeywords Builtin.Frozenset.updateFrom
      generalize hPI : pyIter = PI
      wp_walk
      subst hPI
      refine wpAny_pyIter_list hl1 ?_
      refine wpAny_bind (wpAny_runValue ?_)
      have lS : l < s.heap.objs.size := Heap.lt_size hol
      have hh3 : A.in1.in1.in1.handled = none := by simp [hh]
      have hz : (s.heap.push { cls := .type "set", dict := none, data := .set #[] 0 (.fresh 0 0 (!w.params.followText "set-order")) }).objs.size = s.heap.objs.size + 1 := Heap.size_push ..
      have nI : l ≠ (s.heap.push { cls := .type "set", dict := none, data := .set #[] 0 (.fresh 0 0 (!w.params.followText "set-order")) }).objs.size := by
        rw [hz]
        exact Nat.ne_of_lt (Nat.lt_succ_of_lt lS)
      have nf : s.heap.objs.size ∉ [(s.heap.push { cls := .type "set", dict := none, data := .set #[] 0 (.fresh 0 0 (!w.params.followText "set-order")) }).objs.size, l] := by
        rw [hz]
        simp only [List.mem_cons, List.not_mem_nil, or_false, not_or]
        exact ⟨Nat.ne_of_lt (Nat.lt_succ_self _), Nat.ne_of_gt lS⟩
      refine loop_strs ((Walks.list hh3 _ l nI items).toS) s.heap.objs.size nf xs size hb (fun i v q => strs_ix hit i v (by rw [Array.getElem?_toList]; exact q)) (items.size - 0) 0 _ (by omega) (Nat.zero_le _)
        ⟨⟨_, Heap.get?_push_size _ rfl, rfl, rfl⟩, (hl1.push _)⟩ (setS_nil (Heap.get?_push_of_some _ hS)) ?_
      intro s' mv h3
      obtain ⟨h', g2, d', tk', os'⟩ := s'
      have eg : g2 = s.gens := mv.gens
      have ed : d' = s.drawn := mv.drawn
      have eo : os' = s.os := mv.os
      subst eg ed eo
      show wpAny _ _ _ _ _ _
      refine wpAny_pure ?_
      show wpAny _ _ (ret Value.none) _ _ _
      refine wpAny_pure ⟨rfl, h', tk', rfl, h3, fun b o e => ?_⟩
      have b0 : b < s.heap.objs.size := Heap.lt_size e
      refine mv.heap b o ?_ (Heap.get?_push_of_some _ (Heap.get?_push_of_some _ e))
      simp only [List.mem_cons, List.not_mem_nil, or_false, not_or]
      refine ⟨Nat.ne_of_lt b0, ?_⟩
      rw [hz]
      exact Nat.ne_of_lt (Nat.lt_succ_of_lt b0)
    · match r₂, hr₂ with
      | .error e, hr₂ => exact hr₂
      | .ok .next, hr₂ => exact hr₂.elim
      | .ok .brk, hr₂ => exact hr₂.elim
      | .ok .cont, hr₂ => exact hr₂.elim
      | .ok (.ret r), hr₂ =>
        obtain ⟨rfl, h', tk, rfl, h3, hk⟩ := hr₂
        repeat (any_goals (first | assumption | wp_step))
        exact h _ _ h3 hk
end
end Ww

namespace Ww
open PySem PySem.Spec PyProof.Rows L2 PySem.Froz
theorem ne_mem {α : Type} {l : List α} {k x : α} (hk : k ∈ l) (n : x ∉ l) : k ≠ x := fun e => by
  subst e
  exact n hk
theorem nd_perm {α : Type} [DecidableEq α] : ∀ {l m : List α}, l.Nodup → (∀ k ∈ l, k ∈ m) → m.length ≤ l.length → l.Perm m
  | [], m, _, _, h => by
    have e : m = [] := List.length_eq_zero_iff.mp (Nat.le_zero.mp h)
    rw [e]
  | x :: l, m, nd, sub, h => by
    obtain ⟨n1, n2⟩ := List.nodup_cons.mp nd
    have hx := sub x List.mem_cons_self
    have pm := List.perm_cons_erase hx
    have le := List.length_erase_of_mem hx
    have ih : l.Perm (m.erase x) := nd_perm n2 (fun k hk => (List.mem_erase_of_ne (ne_mem hk n1)).mpr (sub k (List.mem_cons_of_mem _ hk))) (by
      rw [List.length_cons] at h
      omega)
    exact (ih.cons x).trans pm.symm
theorem nd_len {α : Type} [DecidableEq α] : ∀ {l m : List α}, l.Nodup → (∀ k ∈ l, k ∈ m) → l.length ≤ m.length
  | [], m, _, _ => Nat.zero_le _
  | x :: l, m, nd, sub => by
    obtain ⟨n1, n2⟩ := List.nodup_cons.mp nd
    have hx := sub x List.mem_cons_self
    have le := List.length_erase_of_mem hx
    have pos : 0 < m.length := List.length_pos_of_mem hx
    have ih := nd_len (m := m.erase x) n2 fun k hk => (List.mem_erase_of_ne (ne_mem hk n1)).mpr (sub k (List.mem_cons_of_mem _ hk))
    rw [List.length_cons]
    omega
section
variable {P : Program} {w : World} {A : Around} {E : Value → Shared → Prop} {s : Shared}
/-- an entry of such a set is a text -/
theorem ent_str {D : SD} {l : List Str} (F : TxOk P w D l) : ∀ v ∈ D.1.toList.map (·.2), ∃ x t, v = Value.str x t := fun v hv => by
  obtain ⟨e, he, rfl⟩ := List.mem_map.mp hv
  obtain ⟨⟨k, h1, _⟩, _⟩ := F.el e he
  obtain ⟨t, q⟩ := Value.isStrOf_shape (x := k) (v := e.2) h1
  exact ⟨k, t, q⟩
theorem ent_perm {D : SD} {l : List Str} (F : TxOk P w D l) (nd : l.Nodup) : ((D.1.toList.map (·.2)).map strOf).Perm l := by
  have mem : ∀ k : Str, k ∈ (D.1.toList.map (·.2)).map strOf ↔ k ∈ l := fun k => by
    rw [F.mem k, List.mem_map]
    constructor
    · rintro ⟨v, hv, q⟩
      obtain ⟨x, t, e⟩ := ent_str F v hv
      obtain ⟨en, hen, e2⟩ := List.mem_map.mp hv
      refine ⟨en, hen, ?_⟩
      rw [e2, e]
      have : x = k := by rw [← q, e]; rfl
      rw [← this]
      exact is_str x t
    · rintro ⟨en, hen, q⟩
      refine ⟨en.2, List.mem_map_of_mem hen, ?_⟩
      obtain ⟨t, e⟩ := Value.isStrOf_shape (x := k) (v := en.2) q
      rw [e]
      rfl
  have len : ((D.1.toList.map (·.2)).map strOf).length = l.length := by
    rw [List.length_map, List.length_map, Array.length_toList]
    exact F.sz
  exact (nd_perm nd (fun k hk => (mem k).2 hk) (Nat.le_of_eq len)).symm
theorem sorted_setS {a : Addr} {l : List Str} {Q : Value → Shared → Prop} (R : SetS P w s.heap a l) (hh : A.handled = none) (h64 : l.length < 64)
    (hQ : ∀ s' p (out : Array Value) (c : Nat) (ss : List Str), (∀ b o, s.heap.get? b = some o → s'.heap.get? b = some o) → s'.gens = s.gens → s'.os = s.os → s.heap.objs.size ≤ p →
      s'.heap.get? p = some (seqObj "list" out c) → StrsAre out.toList ss → Srt l ss → Q (.ref p) s') : wpAny (model P w) A (call (.builtin "sorted") [.ref a]) Q E s := by
  obtain ⟨D, ho, F, nd, r, hl⟩ := R
  have hsz : D.1.size = l.length := F.sz
  refine Calls.call_function_entry kind_sorted plain_sorted entry_sorted (args_sorted1 _) ?_
  unfold Builtin.«sorted»
  refine wpAny_bind (m := checkCount "sorted" 1 1 _) (wpAny_pure ?_)
  refine wpAny_bind (collect_set (A := A.in1) (t := D.2.2) (es := D.1) (ep := D.2.1) hh ⟨_, ho, rfl, rfl⟩ F.fit (by rw [hsz]; unfold scanBound; omega) r hl fun s1 vs k1 z1 g1 o1 pm => ?_)
  have lv : vs.length = l.length := by rw [pm.length_eq, List.length_map, Array.length_toList, hsz]
  have hI : StrsAre vs (vs.map strOf) := strsAre_map vs fun v hv => ent_str F v (pm.mem_iff.mp hv)
  have pl : (vs.map strOf).Perm l := (pm.map strOf).trans (ent_perm F nd)
  refine wpAny_bind (wpAny_newList ?_ (by rw [lv, sizeLine_eq]; omega))
  have hoL : (s1.heap.push (seqObj "list" vs.toArray 0)).get? s1.heap.objs.size = some (seqObj "list" vs.toArray 0) := Heap.get?_push_size _ rfl
  refine wpAny_bind (wpAny_holding (wpAny_call_entry slot_list_sort ⟨_, hoL, rfl⟩ entry_list_sort (list_sort_treeK strKind_oneLt hoL hI.keysOf (fun v₁ v₂ rest e => keyKind_strs (by rw [← e]; exact hI)) (by rw [lv]; exact h64) fun st' hp hs => ⟨_, rfl, ?_⟩) (args_list_sort _)))
  obtain ⟨ss, a1, a2, a3⟩ := sorted_out_str hI hp hs
  obtain ⟨c, hc⟩ := sortedHeap_at (vs := vs) (out := (arrOf st').map (·.2)) hoL
  have pn : ss.Perm l := a2.trans pl
  refine wpAny_pure ⟨_, rfl, hQ _ s1.heap.objs.size _ c ss (fun b u e => ?_) g1 o1 z1 hc a1 (srt_of a3 (pn.nodup_iff.mpr nd) fun k => pn.mem_iff)⟩
  have q := k1 b u e
  have lt := Heap.lt_size q
  show (sortedHeap (s1.heap.push (seqObj "list" vs.toArray 0)) s1.heap.objs.size vs _).get? b = some u
  rw [sortedHeap_old (Nat.ne_of_lt lt) (by rw [size_push']; exact Nat.lt_succ_of_lt lt)]
  exact Heap.get?_push_of_some _ q
end
/-! ### over the layer -/
def SetSO (P : Program) (w : World) (a : Addr) (l : List Str) : HO := .ext fun h => SetS P w h a l
theorem setSO_new {P : Program} {w : World} {H : Hp} {h : Heap} {a : Addr} {l : List Str} (R : SetS P w h a l) : ObjOk P w H h a (SetSO P w a l) := by
  have ⟨D, ho, _⟩ := R
  exact ⟨R, ⟨_, ho⟩, fun h1 h2 p k => SetS.at p k⟩
theorem strsAre_vals : ∀ {ys : List Str} {us : List Value}, Vals (ys.map V.str) us → StrsAre us ys
  | [], _, .nil => .nil
  | y :: ys, _, .cons ⟨t, e⟩ r => by
    subst e
    exact .cons y t (strsAre_vals r)
theorem vals_strsAre : ∀ {ys : List Str} {us : List Value}, StrsAre us ys → Vals (ys.map V.str) us
  | _, _, .nil => .nil
  | _, _, .cons y t r => .cons ⟨t, rfl⟩ (vals_strsAre r)
section
variable {X : Cx}
/-- set(a list of texts) -/
def rSetS (K : PySem.W.Frag) (P : Program) (w : World) : List V → Hp → VK → Prop := fun vs H Q => ∃ (l : Addr) (xs : List Str), vs = [.ref l] ∧ SqL K H l (xs.map V.str) ∧ xs.length ≤ 1000 ∧
  ∀ p, H p = none → Q (.ref p) (upd H p (SetSO P w p (dedup [] xs)))
theorem cr_setS (hc : X.calm = true) : CallR X (.type "set") (rSetS X.K X.prog X.w) := by
  intro pins s σ H vs us Q I r h
  obtain ⟨l, xs, rfl, hl, hz, q⟩ := h
  rw [Vals.ref1 r]
  obtain ⟨its, rv, pl, _⟩ := I.list hl
  have hn : H s.heap.objs.size = none := I.hok.fresh (Nat.le_refl _)
  refine call_set_strs (P := X.prog) (w := X.w) xs (I.ok.hd hc) pl.isList (by simpa using strsAre_vals rv) (by unfold scanBound; omega) fun h' tk R k => ?_
  exact ⟨.ref s.heap.objs.size, _, I.laid (t' := tk) k (Nat.le_refl _) (setSO_new R), rfl, q _ hn⟩
/-- sorted(such a set) -/
def rSortS (P : Program) (w : World) : List V → Hp → VK → Prop := fun vs H Q => ∃ (a : Addr) (l : List Str), vs = [.ref a] ∧ H a = some (SetSO P w a l) ∧ l.length < 64 ∧
  ∀ (ss : List Str) (p : Addr), Srt l ss → H p = none → Q (.ref p) (upd H p (.lst (ss.map V.str)))
theorem cr_sortS (hc : X.calm = true) : CallR X (.builtin "sorted") (rSortS X.prog X.w) := by
  intro pins s σ H vs us Q I r h
  obtain ⟨a, l, rfl, ha, h64, q⟩ := h
  have R : SetS X.prog X.w s.heap a l := (I.hok a _ ha).1
  rw [Vals.ref1 r]
  refine sorted_setS R (I.ok.hd hc) h64 fun s' p out c ss k g o hp hg hS hR => ?_
  have lss : ss.length ≤ l.length := nd_len hR.nodup fun k hk => (hR.mem k).1 hk
  have hlen : (ss.map V.str).length ≤ sizeLine := by rw [List.length_map, sizeLine_eq]; omega
  have hn : H p = none := I.hok.fresh hp
  have J : Inv X pins σ (upd H p (.lst (ss.map V.str))) { s with heap := s'.heap, gens := s'.gens, drawn := s'.drawn, toks := s'.toks } :=
    I.call (ch := []) (Un.laid k hp hn) (I.hok.laid k hp ⟨hlen, out.toList, c, vals_strsAre hS, hg⟩) (by rw [g]; exact I.bare) (fun _ z => nomatch z)
  have e : s' = { s with heap := s'.heap, gens := s'.gens, drawn := s'.drawn, toks := s'.toks } := by
    cases s'
    cases s
    cases o
    rfl
  rw [e]
  exact ⟨.ref p, _, J, rfl, q ss p hR hn⟩
/-- both in one: sorted(set(e)) -/
theorem Srt.of_dedup {xs ss : List Str} (h : Srt (dedup [] xs) ss) : Srt xs ss := h.same fun k => by
  rw [mem_dedup]
  simp
end
end Ww

namespace Ww
open PySem PySem.Spec PyProof.Rows L2
theorem hu64 {A : Around} {k : Nat} (hr : Room k A) : A.units + 64 < cLine := by
  have := hr.un
  omega
theorem fn_none {P : Program} {w : World} {K : PySem.W.Frag} {mg : Str → Option Value} {base : Heap} {CX : CXT} {k : Nat} {f : Addr} {fd : FuncData} {ps : List Str} {sp : Sp} (h : ∀ vs H Q E, sp vs H Q E → False) :
    FnOk P w K mg base CX k f fd ps sp :=
  ⟨fun vs H Q E q => (h vs H Q E q).elim, fun A outer s H args us vs Q E _ _ _ _ q => (h vs H Q E q).elim⟩
theorem sz1 {n : Nat} (h : n ≤ 1000000) : n ≤ sizeLine := Nat.le_trans h (by decide)
theorem sz2 {n : Nat} (h : n < 1000000) : n < sizeLine := Nat.lt_of_lt_of_le h (by decide)
theorem bt {A B : Prop} {c : Bool} (hc : c = true) (h : A) : if c = true then A else B := by
  rw [if_pos hc]
  exact h
theorem bf {A B : Prop} {c : Bool} (hc : c = false) (h : B) : if c = true then A else B := by
  rw [if_neg (by rw [hc]; exact Bool.false_ne_true)]
  exact h
theorem bb {A B : Prop} {c : Bool} (h1 : c = true → A) (h2 : c = false → B) : if c = true then A else B := by
  cases c with
  | true => exact h1 rfl
  | false => exact h2 rfl
/-! ### letters -/
def isLet (s : Str) : Bool := match s.cps.toList with
  | [c] => decide (97 ≤ c ∧ c ≤ 122)
  | _ => false
theorem abc_mem (c : Nat) : (c ∈ (Str.ofString "abcdefghijklmnopqrstuvwxyz").cps.toList) ↔ (97 ≤ c ∧ c ≤ 122) := by
  have e : (Str.ofString "abcdefghijklmnopqrstuvwxyz").cps.toList = List.range' 97 26 := by decide +kernel
  rw [e, List.mem_range'_1]
  omega
theorem str_one {s : Str} (h : s.length = 1) : ∃ c, s = ⟨#[c]⟩ := by
  obtain ⟨a⟩ := s
  obtain ⟨l⟩ := a
  match l, h with
  | [c], _ => exact ⟨c, rfl⟩
theorem isLet_iff {s : Str} : isLet s = true ↔ Let s := by
  constructor
  · intro h
    obtain ⟨⟨l⟩⟩ := s
    match l, h with
    | [c], h =>
      have h' : decide (97 ≤ c ∧ c ≤ 122) = true := h
      have := of_decide_eq_true h'
      exact ⟨c, rfl, this.1, this.2⟩
  · rintro ⟨c, rfl, h1, h2⟩
    exact decide_eq_true ⟨h1, h2⟩
theorem isLet_one (c : Nat) : isLet ⟨#[c]⟩ = decide (97 ≤ c ∧ c ≤ 122) := rfl
theorem isLet_many {s : Str} (h : s.length ≠ 1) : isLet s = false := by
  obtain ⟨⟨l⟩⟩ := s
  match l, h with
  | [], _ => rfl
  | [c], h => exact absurd rfl h
  | _ :: _ :: _, _ => rfl
theorem plain_ne : ∀ {f : Str}, Form f → decide (V.str f = V.str "plain") = false := by
  rintro f (rfl | rfl | rfl) <;> decide +kernel
/-! ### the heap at a tuple -/
theorem at0 {x : V} {r : List V} : atI (x :: r) 0 = some x := by
  have := atI_nat (xs := x :: r) (j := 0) (v := x) rfl
  exact this
theorem at1 {x y : V} {r : List V} : atI (x :: y :: r) 1 = some y := by
  have := atI_nat (xs := x :: y :: r) (j := 1) (v := y) rfl
  exact this
theorem at2 {x y z : V} {r : List V} : atI (x :: y :: z :: r) 2 = some z := by
  have := atI_nat (xs := x :: y :: z :: r) (j := 2) (v := z) rfl
  exact this
theorem at3 {x y z u : V} {r : List V} : atI (x :: y :: z :: u :: r) 3 = some u := by
  have := atI_nat (xs := x :: y :: z :: u :: r) (j := 3) (v := u) rfl
  exact this
theorem at4 {x y z u t : V} {r : List V} : atI (x :: y :: z :: u :: t :: r) 4 = some t := by
  have := atI_nat (xs := x :: y :: z :: u :: t :: r) (j := 4) (v := t) rfl
  exact this
theorem ati {ns : List Int} {i : Nat} (h : i < ns.length) : ∃ x : Int, atI (ns.map V.int) ((0 : Int) + (i : Int)) = some (.int x) ∧ ns[i]? = some x := by
  refine ⟨ns[i], ?_, List.getElem?_eq_getElem h⟩
  rw [Int.zero_add]
  refine atI_nat ?_
  rw [List.getElem?_map, List.getElem?_eq_getElem h]
  rfl
theorem same_mut {H H' : Hp} {p : Addr} (e : Same H H') (h : H p = none) (o : HO) : Same H (upd H' p o) := fun a u q => by
  rw [upd_ne (ne_of_none q h)]
  exact e a u q
theorem Let.len {s : Str} (h : Let s) : s.length = 1 := by
  obtain ⟨c, rfl, _⟩ := h
  rfl
theorem Let.small {s : Str} (h : Let s) : s.length ≤ 1000000 := by
  rw [h.len]
  decide
theorem Kd.let_of : ∀ {k : Kd}, k.ok → ∀ s ∈ k.letters, Let s
  | .pl t, h, s, hs => by
    have e : s = t := by simpa [Kd.letters] using hs
    rw [e]
    exact h
  | .nd f a b, ⟨_, h1, h2⟩, s, hs => by
    rcases List.mem_append.mp (show s ∈ a.letters ++ b.letters from hs) with z | z
    · exact Kd.let_of h1 s z
    · exact Kd.let_of h2 s z
theorem sum_one : ∀ {l : List Str}, (∀ s ∈ l, s.length = 1) → (l.map (·.length)).sum = l.length
  | [], _ => rfl
  | x :: l, h => by
    rw [List.map_cons, List.sum_cons, h x List.mem_cons_self, sum_one fun s hs => h s (List.mem_cons_of_mem _ hs), List.length_cons]
    omega
theorem join_small {k : Kd} {ss : List Str} (h : Srt k.letters ss) (ok : k.ok) {n : Nat} (hz : k.letters.length ≤ n) (hn : n ≤ 1000 := by decide) : (ss.map (·.length)).sum + ss.length * (Str.ofString "").length ≤ 16777216 := by
  have e : (Str.ofString "").length = 0 := by decide +kernel
  have l1 : ss.length ≤ k.letters.length := nd_len h.nodup fun x hx => (h.mem x).1 hx
  rw [e, sum_one fun s hs => (k.let_of ok s ((h.mem s).1 hs)).len]
  omega
end Ww

namespace Ww
open PySem PySem.Spec PyProof.Rows L2
/-! ### types of data -/
theorem tyL {K : PySem.W.Frag} {H : Hp} {a : Addr} {xs : List V} (h : SqL K H a xs) : TyX K H (.ref a) (.type "list") := by
  rcases h with (h | ⟨o, h⟩) | ⟨o, its, n, hk, hc, _⟩
  · exact .base (.lst h)
  · exact .base (.frz h)
  · exact .kList hk hc
theorem tyT {K : PySem.W.Frag} {H : Hp} {a : Addr} {xs : List V} (h : SqT K H a xs) : TyX K H (.ref a) (.type "tuple") := by
  rcases h with (h | ⟨o, h⟩) | ⟨o, its, n, hk, hc, _⟩
  · exact .base (.tup h)
  · exact .fTuple h
  · exact .kTuple hk hc
/-- data of nesting below n, its lists short -/
def Gd : Nat → PyData → Prop
  | 0, _ => False
  | _ + 1, .none => True
  | _ + 1, .bool _ => True
  | _ + 1, .int _ => True
  | _ + 1, .str _ => True
  | n + 1, .list ds => ds.length ≤ 100000 ∧ ∀ d ∈ ds, Gd n d
  | n + 1, .tuple ds => ds.length ≤ 100000 ∧ ∀ d ∈ ds, Gd n d
  | _ + 1, .dict _ => False
theorem Gd.mono : ∀ {n m : Nat} {d : PyData}, Gd n d → n ≤ m → Gd m d
  | 0, _, _, h, _ => h.elim
  | n + 1, 0, _, _, l => absurd l (by omega)
  | n + 1, m + 1, .none, h, l => trivial
  | n + 1, m + 1, .bool _, h, l => trivial
  | n + 1, m + 1, .int _, h, l => trivial
  | n + 1, m + 1, .str _, h, l => trivial
  | n + 1, m + 1, .list ds, ⟨h1, h2⟩, l => ⟨h1, fun d hd => (h2 d hd).mono (by omega)⟩
  | n + 1, m + 1, .tuple ds, ⟨h1, h2⟩, l => ⟨h1, fun d hd => (h2 d hd).mono (by omega)⟩
  | n + 1, m + 1, .dict _, h, l => h
theorem dps_len {K : PySem.W.Frag} {H : Hp} : ∀ {ds : List PyData} {vs : List V}, DpAll K H vs ds → vs.length = ds.length
  | [], _, h => by
    cases h
    rfl
  | d :: ds, _, h => by
    cases h with
    | cons _ h2 => rw [List.length_cons, List.length_cons, dps_len h2]
theorem dps_at {K : PySem.W.Frag} {H : Hp} : ∀ {ds : List PyData} {vs : List V} {i : Nat} {v : V}, DpAll K H vs ds → vs[i]? = some v → ∃ d, ds[i]? = some d ∧ Dp K H v d
  | [], _, i, v, h, e => by
    cases h
    simp at e
  | d :: ds, _, 0, v, h, e => by
    cases h with
    | cons h1 _ =>
      have e' := Option.some.inj (show some _ = some v by simpa using e)
      rw [← e']
      exact ⟨d, rfl, h1⟩
  | d :: ds, _, i + 1, v, h, e => by
    cases h with
    | cons _ h2 =>
      obtain ⟨d', a, b⟩ := dps_at h2 (by simpa using e)
      exact ⟨d', by simpa using a, b⟩
theorem Gd.kd : ∀ {k : Kd}, Gd (k.deep + 1) k.dat
  | .pl s => ⟨(show 2 ≤ 100000 by decide), fun d hd => by
    have : d = .str "plain" ∨ d = .str s := by simpa using hd
    rcases this with rfl | rfl <;> trivial⟩
  | .nd f a b => ⟨(show 3 ≤ 100000 by decide), fun d hd => by
    have : d = .str f ∨ d = a.dat ∨ d = b.dat := by simpa using hd
    show Gd (1 + max a.deep b.deep) d
    rcases this with rfl | rfl | rfl
    · exact Gd.mono (n := 1) trivial (by omega)
    · exact Gd.kd.mono (by omega)
    · exact Gd.kd.mono (by omega)⟩
/-! ### answers of isinstance -/
section
variable {K : PySem.W.Frag} {H : Hp}
theorem kLT {t : String} {b c : Bool} (h1 : kitB t "list" = some b) (h2 : kitB t "tuple" = some c) : PySem.W.kitAny K (.type t) [.type "list", .type "tuple"] = some (b || c) := by
  refine kitAny_cons (kit_ty h1) (fun hb => ?_) (fun hb => by rw [hb]; rfl)
  rw [hb]
  refine kitAny_cons (kit_ty h2) (fun hc => by rw [hc]; rfl) (fun hc => by rw [hc]; rfl)
theorem kLT0 {t : String} (h1 : kitB t "list" = some false) (h2 : kitB t "tuple" = some false) : PySem.W.kitAny K (.type t) [.type "list", .type "tuple"] = some false := kLT h1 h2
theorem clsLT : Paired ClsV [V.ty "list", V.ty "tuple"] [Value.type "list", Value.type "tuple"] := .cons (.ty _) (.cons (.ty _) .nil)
end
end Ww

namespace Ww
open PySem PySem.Spec PyProof.Rows L2
theorem empty_cps : (Str.ofString "").cps.toList = [] := by decide +kernel
theorem join_cps : ∀ ys : List Str, (Txt.join (Str.ofString "") ys).cps.toList = ys.flatMap fun y => y.cps.toList := by
  have go : ∀ ys : List Str, (Str.join (Str.ofString "") ys).cps.toList = ys.flatMap fun y => y.cps.toList := by
    intro ys
    induction ys with
    | nil => rfl
    | cons x r ih =>
      cases r with
      | nil =>
        show x.cps.toList = _
        simp
      | cons y r =>
        show (x ++ Str.ofString "" ++ Str.join (Str.ofString "") (y :: r)).cps.toList = _
        rw [PySem.W.KT.app_list, PySem.W.KT.app_list, empty_cps, List.append_nil, ih]
        rfl
  intro ys
  show (Builtin.Str.glued _ _).cps.toList = _
  rw [StrLaws.glued_eq_join]
  exact go ys
/-- a text of letters -/
def AllLet (t : Str) : Prop := ∀ c ∈ t.cps.toList, 97 ≤ c ∧ c ≤ 122
theorem len_cps (t : Str) : t.length = t.cps.toList.length := (Array.length_toList).symm
theorem AllLet.at {t : Str} (h : AllLet t) {r : Int} (r0 : 0 ≤ r) (r1 : r < (t.length : Int)) : ∃ c, t.cps[r.toNat]? = some c ∧ Let ⟨#[c]⟩ := by
  have hr : r.toNat < t.cps.size := by
    have : t.length = t.cps.size := rfl
    omega
  refine ⟨t.cps[r.toNat], Array.getElem?_eq_getElem hr, _, rfl, ?_⟩
  exact h _ (by simp)
theorem abc_all : AllLet (Str.ofString "abcdefghijklmnopqrstuvwxyz") := fun c hc => (abc_mem c).1 hc
theorem abc_len : (Str.ofString "abcdefghijklmnopqrstuvwxyz").length = 26 := by decide +kernel
theorem join_len {ys : List Str} (h : ∀ y ∈ ys, Let y) : (Txt.join (Str.ofString "") ys).length = ys.length := by
  rw [len_cps, join_cps]
  induction ys with
  | nil => rfl
  | cons x r ih =>
    have hx := (h x List.mem_cons_self).len
    rw [len_cps] at hx
    rw [List.flatMap_cons, List.length_append, hx, ih fun y hy => h y (List.mem_cons_of_mem _ hy), List.length_cons]
    omega
theorem join_all {ys : List Str} (h : ∀ y ∈ ys, Let y) : AllLet (Txt.join (Str.ofString "") ys) := fun c hc => by
  rw [join_cps] at hc
  obtain ⟨y, hy, q⟩ := List.mem_flatMap.mp hc
  obtain ⟨d, rfl, h1, h2⟩ := h y hy
  have e : c = d := by simpa using q
  rw [e]
  exact ⟨h1, h2⟩
theorem let_small {ys : List Str} (h : ∀ y ∈ ys, Let y) (l : ys.length ≤ 1000) : (ys.map (·.length)).sum + ys.length * (Str.ofString "").length ≤ 16777216 := by
  have e : (Str.ofString "").length = 0 := by decide +kernel
  rw [e, sum_one fun s hs => (h s hs).len]
  omega
/-! ### an item at a drawn place -/
theorem atI_of {α : Type} {xs : List α} {r : Int} (r0 : 0 ≤ r) (r1 : r < (xs.length : Int)) : ∃ v, atI xs r = some v ∧ xs[r.toNat]? = some v := by
  have h : r.toNat < xs.length := by omega
  have e : ((r.toNat : Nat) : Int) = r := by omega
  obtain ⟨v, hv⟩ : ∃ v, xs[r.toNat]? = some v := ⟨_, List.getElem?_eq_getElem h⟩
  have q := atI_nat hv
  rw [e] at q
  exact ⟨v, q, hv⟩
theorem atI_mem {α : Type} {xs : List α} {r : Int} (r0 : 0 ≤ r) (r1 : r < (xs.length : Int)) : ∃ v, atI xs r = some v ∧ v ∈ xs := by
  obtain ⟨v, h1, h2⟩ := atI_of r0 r1
  exact ⟨v, h1, List.mem_of_getElem? h2⟩
theorem but_mut {a p : Addr} {H H' : Hp} (e : But a H H') (h : H p = none) (o : HO) : But a H (upd H' p o) := fun b u n q => by
  rw [upd_ne (ne_of_none q h)]
  exact e b u n q
theorem But.same {a : Addr} {H H1 H2 : Hp} (e : But a H H1) (k : Same H1 H2) : But a H H2 := fun b o n h => k b o (e b o n h)
/-- fresh in a later heap is fresh in an earlier one -/
theorem But.free {a p : Addr} {H H' : Hp} {o : HO} (e : But a H H') (ha : H' a = some o) (h : H' p = none) : H p = none := by
  cases q : H p with
  | none => rfl
  | some u =>
    have n : p ≠ a := fun z => by
      rw [z, ha] at h
      cases h
    rw [e p u n q] at h
    cases h
theorem But.at {a b : Addr} {H H' : Hp} {o : HO} (e : But a H H') (n : b ≠ a) (h : H b = some o) : H' b = some o := e b o n h
theorem But.sqL {K : PySem.W.Frag} {a b : Addr} {H H' : Hp} {xs : List V} (e : But a H H') (n : b ≠ a) (h : H b = some (.lst xs)) : SqL K H' b xs := SqL.of (e b _ n h)
theorem lc_yes {σ : L2.St} {H : Hp} {t e : Hp → Prop} (h : t H) : tYes σ H (fun b H3 => if b = true then t H3 else e H3) := h
end Ww

namespace Ww
open PySem PySem.Spec PyProof.Rows L2
/-! ### two lists side by side -/
def All2 {α β : Type} (R : α → β → Prop) : List α → List β → Prop
  | [], [] => True
  | x :: xs, y :: ys => R x y ∧ All2 R xs ys
  | _, _ => False
theorem All2.mono {α β : Type} {R S : α → β → Prop} (e : ∀ x y, R x y → S x y) : ∀ {xs : List α} {ys : List β}, All2 R xs ys → All2 S xs ys
  | [], [], _ => trivial
  | _ :: _, _ :: _, h => ⟨e _ _ h.1, All2.mono e h.2⟩
  | [], _ :: _, h => h.elim
  | _ :: _, [], h => h.elim
theorem All2.len {α β : Type} {R : α → β → Prop} : ∀ {xs : List α} {ys : List β}, All2 R xs ys → xs.length = ys.length
  | [], [], _ => rfl
  | _ :: _, _ :: _, h => by rw [List.length_cons, List.length_cons, All2.len h.2]
  | [], _ :: _, h => h.elim
  | _ :: _, [], h => h.elim
theorem All2.snoc {α β : Type} {R : α → β → Prop} {x : α} {y : β} (r : R x y) : ∀ {xs : List α} {ys : List β}, All2 R xs ys → All2 R (xs ++ [x]) (ys ++ [y])
  | [], [], _ => ⟨r, trivial⟩
  | _ :: _, _ :: _, h => ⟨h.1, All2.snoc r h.2⟩
  | [], _ :: _, h => h.elim
  | _ :: _, [], h => h.elim
theorem All2.app {α β : Type} {R : α → β → Prop} {zs : List α} {us : List β} (r : All2 R zs us) : ∀ {xs : List α} {ys : List β}, All2 R xs ys → All2 R (xs ++ zs) (ys ++ us)
  | [], [], _ => r
  | _ :: _, _ :: _, h => ⟨h.1, All2.app r h.2⟩
  | [], _ :: _, h => h.elim
  | _ :: _, [], h => h.elim
theorem All2.get {α β : Type} {R : α → β → Prop} : ∀ {xs : List α} {ys : List β} {i : Nat} {x : α}, All2 R xs ys → xs[i]? = some x → ∃ y, ys[i]? = some y ∧ R x y
  | [], [], _, _, _, e => by simp at e
  | x :: _, y :: _, 0, z, h, e => by
    have e' : x = z := by simpa using e
    subst e'
    exact ⟨y, rfl, h.1⟩
  | _ :: _, _ :: _, i + 1, _, h, e => by
    obtain ⟨y, a, b⟩ := All2.get h.2 (by simpa using e)
    exact ⟨y, by simpa using a, b⟩
  | [], _ :: _, _, _, h, _ => h.elim
  | _ :: _, [], _, _, h, _ => h.elim
theorem All2.mem {α β : Type} {R : α → β → Prop} {xs : List α} {ys : List β} (h : All2 R xs ys) {x : α} (m : x ∈ xs) : ∃ y, y ∈ ys ∧ R x y := by
  obtain ⟨i, hi⟩ := List.getElem?_of_mem m
  obtain ⟨y, a, b⟩ := h.get hi
  exact ⟨y, List.mem_of_getElem? a, b⟩
/-! ### data that == reads -/
def Lk (K : PySem.W.Frag) (H : Hp) (v : V) : Prop := ∃ d, Dp K H v d ∧ d.canLay0 = true ∧ d.depth ≤ 60
theorem lks {K : PySem.W.Frag} {H : Hp} : ∀ {xs : List V}, (∀ v ∈ xs, Lk K H v) → ∃ ds, DpAll K H xs ds ∧ ds.length = xs.length ∧ PyData.canLayAll0 ds = true ∧ PyData.depthAll ds ≤ 60
  | [], _ => ⟨[], .nil, rfl, rfl, by decide⟩
  | x :: xs, h => by
    obtain ⟨d, h1, h2, h3⟩ := h x List.mem_cons_self
    obtain ⟨ds, g1, g2, g3, g4⟩ := lks fun v hv => h v (List.mem_cons_of_mem _ hv)
    refine ⟨d :: ds, .cons h1 g1, by rw [List.length_cons, List.length_cons, g2], ?_, ?_⟩
    · show (d.canLay0 && PyData.canLayAll0 ds) = true
      rw [h2, g3]
      rfl
    · show max d.depth (PyData.depthAll ds) ≤ 60
      omega
theorem shaped_list {ds : List PyData} (h1 : PyData.canLayAll0 ds = true) (h2 : PyData.depthAll ds ≤ 60) : SeqAt.shaped (.list ds) = true := by
  show (PyData.canLayAll0 ds && decide (PyData.depthAll ds + 1 ≤ 64)) = true
  rw [h1, decide_eq_true (by omega)]
  rfl
theorem eqv_nil : ∀ ds : List PyData, PyData.eqv (.list ds) (.list []) = ds.isEmpty
  | [] => rfl
  | _ :: _ => rfl
theorem ne_nil {K : PySem.W.Frag} {H : Hp} {a p : Addr} {xs : List V} {Q : VK} (h : H a = some (.lst xs)) (hp : H p = some (.lst [])) (l : ∀ v ∈ xs, Lk K H v) (q : Q (.bl (!xs.isEmpty)) H) : rNeD K (.ref a) (.ref p) H Q := by
  obtain ⟨ds, g1, g2, g3, g4⟩ := lks l
  refine ⟨.list ds, .list [], .lst (SqL.of h) g1, .lst (SqL.of hp) .nil, shaped_list g3 g4, by decide, ?_⟩
  rw [eqv_nil]
  have e : ds.isEmpty = xs.isEmpty := by
    cases ds <;> cases xs <;> first | rfl | cases g2
  rw [e]
  exact q
theorem let_ok {s : Str} (h : Let s) : PyData.strOk s = true := by
  obtain ⟨c, rfl, h1, h2⟩ := h
  simp [PyData.strOk]
  omega
theorem form_ok {f : Str} (h : Form f) : PyData.strOk f = true := by
  rcases h with rfl | rfl | rfl <;> decide +kernel
theorem Kd.lay : ∀ {k : Kd}, k.ok → k.dat.canLay0 = true
  | .pl s, h => by
    show (PyData.strOk "plain" && (PyData.strOk s && true)) = true
    rw [let_ok h]
    decide +kernel
  | .nd f a b, ⟨h, h1, h2⟩ => by
    show (PyData.strOk f && (a.dat.canLay0 && (b.dat.canLay0 && true))) = true
    rw [form_ok h, Kd.lay h1, Kd.lay h2]
    rfl
theorem Kd.dat_depth : ∀ k : Kd, k.dat.depth = k.deep
  | .pl s => rfl
  | .nd f a b => by
    show max 0 (max a.dat.depth (max b.dat.depth 0)) + 1 = 1 + max a.deep b.deep
    rw [Kd.dat_depth a, Kd.dat_depth b]
    omega
theorem KAt.lk {K : PySem.W.Frag} {H : Hp} {v : V} {k : Kd} (h : KAt H v k) (ok : k.ok) (d : k.deep ≤ 60) : Lk K H v := ⟨k.dat, h.dp, k.lay ok, by rw [k.dat_depth]; exact d⟩
/-! ### the places of a kind's letters -/
def Kd.places : Kd → Int → List (Str × Int)
  | .pl s, d => [(s, d)]
  | .nd _ a b, d => a.places (d + 1) ++ b.places (d + 1)
def Kd.wt : Kd → Nat
  | .pl _ => 1
  | .nd _ a b => 1 + a.wt + b.wt
theorem Kd.places_fst : ∀ (k : Kd) (d : Int), (k.places d).map (·.1) = k.letters
  | .pl s, d => rfl
  | .nd f a b, d => by
    show (a.places (d + 1) ++ b.places (d + 1)).map (·.1) = a.letters ++ b.letters
    rw [List.map_append, Kd.places_fst a, Kd.places_fst b]
theorem Kd.places_len (k : Kd) (d : Int) : (k.places d).length = k.letters.length := by
  rw [← k.places_fst d, List.length_map]
theorem Kd.places_le : ∀ (k : Kd) (d : Int), ∀ x ∈ k.places d, x.2 ≤ d + (k.deep : Int) - 1
  | .pl s, d, x, h => by
    have e : x = (s, d) := by simpa [Kd.places] using h
    rw [e]
    show d ≤ d + (1 : Nat) - 1
    omega
  | .nd f a b, d, x, h => by
    show x.2 ≤ d + ((1 + max a.deep b.deep : Nat) : Int) - 1
    rcases List.mem_append.mp (show x ∈ a.places (d + 1) ++ b.places (d + 1) from h) with z | z
    · have := Kd.places_le a _ x z
      omega
    · have := Kd.places_le b _ x z
      omega
theorem Kd.places_max : ∀ (k : Kd) (d : Int), ∃ x ∈ k.places d, x.2 = d + (k.deep : Int) - 1
  | .pl s, d => ⟨(s, d), by simp [Kd.places], by show d = d + (1 : Nat) - 1; omega⟩
  | .nd f a b, d => by
    show ∃ x ∈ a.places (d + 1) ++ b.places (d + 1), x.2 = d + ((1 + max a.deep b.deep : Nat) : Int) - 1
    by_cases c : b.deep ≤ a.deep
    · obtain ⟨x, m, e⟩ := Kd.places_max a (d + 1)
      exact ⟨x, List.mem_append_left _ m, by omega⟩
    · obtain ⟨x, m, e⟩ := Kd.places_max b (d + 1)
      exact ⟨x, List.mem_append_right _ m, by omega⟩
theorem places_flat : ∀ st : List (Kd × Int), st.length ≤ (st.flatMap fun x => x.1.places x.2).length
  | [] => Nat.le_refl 0
  | x :: st => by
    rw [List.flatMap_cons, List.length_append, List.length_cons, x.1.places_len]
    have := places_flat st
    have := x.1.letters_pos
    omega
theorem at5 {a b c d e f : V} {r : List V} : atI (a :: b :: c :: d :: e :: f :: r) 5 = some f := by
  have := atI_nat (xs := a :: b :: c :: d :: e :: f :: r) (j := 5) (v := f) rfl
  exact this
theorem at6 {a b c d e f g : V} {r : List V} : atI (a :: b :: c :: d :: e :: f :: g :: r) 6 = some g := by
  have := atI_nat (xs := a :: b :: c :: d :: e :: f :: g :: r) (j := 6) (v := g) rfl
  exact this
end Ww

namespace Ww
open PySem PySem.Spec PyProof.Rows L2
theorem hu1 {A : Around} {k : Nat} (hr : Room k A) : A.units + 1 < cLine := by
  have := hr.un
  omega
/-- a walk over a list, whatever a turn asks -/
theorem walk_list {K : PySem.W.Frag} {a : Addr} {xs : List V} {H0 : Hp} {Qd : Hp → Prop} {B : (Hp → Prop) → V → Hp → Prop} (Pv : Nat → Hp → Prop) (h0 : Pv 0 H0) (hl : ∀ i H, i ≤ xs.length → Pv i H → SqL K H a xs)
    (hs : ∀ i x H, xs[i]? = some x → Pv i H → B (Pv (i + 1)) x H) (hd : ∀ H, Pv xs.length H → Qd H) :
    ∃ W : Nat → Nat → Hp → Prop, (∃ m, W 0 m H0) ∧ ∀ i m H, W i m H →
      ((Itl K a).stop i H ∧ Qd H) ∨ ((Itl K a).go i H ∧ ∃ Nx : Hp → Prop, (∀ H', Nx H' → ∃ m', m' < m ∧ W (i + 1) m' H') ∧ ∀ x H', (Itl K a).yld i H x H' → B Nx x H') := by
  refine ⟨fun i m H => m = xs.length - i ∧ i ≤ xs.length ∧ Pv i H, ⟨xs.length, by simp, Nat.zero_le _, h0⟩, ?_⟩
  rintro i m H ⟨rfl, hi, p⟩
  have q := hl i H hi p
  by_cases hlt : i < xs.length
  · refine .inr ⟨⟨xs, xs[i], q, by simp [hlt]⟩, Pv (i + 1), fun H' p' => ⟨xs.length - (i + 1), by omega, rfl, hlt, p'⟩, fun x H' y => ?_⟩
    obtain ⟨e, y⟩ := y
    subst e
    exact hs i x _ (y xs q) p
  · have e : i = xs.length := by omega
    subst e
    exact .inl ⟨⟨xs, q, Nat.le_refl _⟩, hd H p⟩
theorem eq_nil {K : PySem.W.Frag} {H : Hp} {a p : Addr} {xs : List V} {Q : VK} (h : H a = some (.lst xs)) (hp : H p = some (.lst [])) (l : ∀ v ∈ xs, Lk K H v) (q : Q (.bl xs.isEmpty) H) : rEqD K (.ref a) (.ref p) H Q := by
  obtain ⟨ds, g1, g2, g3, g4⟩ := lks l
  refine ⟨.list ds, .list [], .lst (SqL.of h) g1, .lst (SqL.of hp) .nil, shaped_list g3 g4, by decide, ?_⟩
  rw [eqv_nil]
  have e : ds.isEmpty = xs.isEmpty := by
    cases ds <;> cases xs <;> first | rfl | cases g2
  rw [e]
  exact q
/-! ### pairs and rows in the heap -/
def RowAt (H : Hp) (v : V) (x : Str × Int) : Prop := ∃ p, v = .ref p ∧ H p = some (.tup [.str x.1, .int x.2])
def PairAt (H : Hp) (v : V) (x : Kd × Int) : Prop := ∃ p u, v = .ref p ∧ H p = some (.tup [u, .int x.2]) ∧ KAt H u x.1
theorem RowAt.mono {H H' : Hp} (e : Tps H H') (v : V) (x : Str × Int) (h : RowAt H v x) : RowAt H' v x := by
  obtain ⟨p, q, h⟩ := h
  exact ⟨p, q, e _ _ h⟩
theorem PairAt.mono {H H' : Hp} (e : Tps H H') (v : V) (x : Kd × Int) (h : PairAt H v x) : PairAt H' v x := by
  obtain ⟨p, u, q, h, k⟩ := h
  exact ⟨p, u, q, e _ _ h, k.mono e⟩
theorem PairAt.lk {K : PySem.W.Frag} {H : Hp} {v : V} {x : Kd × Int} (h : PairAt H v x) (ok : x.1.ok) (d : x.1.deep ≤ 8) : Lk K H v := by
  obtain ⟨p, u, rfl, h, k⟩ := h
  refine ⟨.tuple [x.1.dat, .int x.2], .tup (SqT.of h) (.cons k.dp (.cons (.int _) .nil)), ?_, ?_⟩
  · show (x.1.dat.canLay0 && (true && true)) = true
    rw [x.1.lay ok]
    rfl
  · show max x.1.dat.depth (max 0 0) + 1 ≤ 60
    rw [x.1.dat_depth]
    omega
theorem RowAt.lk {K : PySem.W.Frag} {H : Hp} {v : V} {x : Str × Int} (h : RowAt H v x) (ok : Let x.1) : Lk K H v := by
  obtain ⟨p, rfl, h⟩ := h
  refine ⟨.tuple [.str x.1, .int x.2], .tup (SqT.of h) (.cons (.str _) (.cons (.int _) .nil)), ?_, by show 1 ≤ 60; decide⟩
  show (PyData.strOk x.1 && (true && true)) = true
  rw [let_ok ok]
  rfl
def rowDat (x : Str × Int) : PyData := .tuple [.str x.1, .int x.2]
theorem RowAt.dp {K : PySem.W.Frag} {H : Hp} {v : V} {x : Str × Int} (h : RowAt H v x) : Dp K H v (rowDat x) := by
  obtain ⟨p, rfl, h⟩ := h
  exact .tup (SqT.of h) (.cons (.str _) (.cons (.int _) .nil))
theorem row_shaped {x : Str × Int} (ok : Let x.1) : SeqAt.shaped (rowDat x) = true := by
  show ((PyData.strOk x.1 && (true && true)) && decide (1 ≤ 64)) = true
  rw [let_ok ok]
  rfl
theorem row_eqv (x y : Str × Int) : PyData.eqv (rowDat x) (rowDat y) = decide (x = y) := by
  obtain ⟨a, i⟩ := x
  obtain ⟨b, j⟩ := y
  show ((a == b) && ((i == j) && true)) = decide ((a, i) = (b, j))
  rw [Bool.and_true, Bool.eq_iff_iff, Bool.and_eq_true, beq_iff_eq, beq_iff_eq, decide_eq_true_iff, Prod.mk.injEq]
theorem dps_of {α : Type} {K : PySem.W.Frag} {H : Hp} {R : V → α → Prop} (f : α → PyData) (e : ∀ v x, R v x → Dp K H v (f x)) : ∀ {vs : List V} {xs : List α}, All2 R vs xs → DpAll K H vs (xs.map f)
  | [], [], _ => .nil
  | _ :: _, _ :: _, h => .cons (e _ _ h.1) (dps_of f e h.2)
  | [], _ :: _, h => h.elim
  | _ :: _, [], h => h.elim
/-! ### a list of kinds -/
def KB (k : Kd) : Prop := k.ok ∧ k.deep ≤ 8 ∧ k.letters.length ≤ 60
theorem ks_lk {K : PySem.W.Frag} {H : Hp} {vs : List V} {ks : List Kd} (h : All2 (KAt H) vs ks) (b : ∀ k ∈ ks, KB k) : ∀ v ∈ vs, Lk K H v := fun v hv => by
  obtain ⟨k, m, r⟩ := h.mem hv
  exact r.lk (b k m).1 (by have := (b k m).2.1; omega)
theorem ks_dp {K : PySem.W.Frag} {H : Hp} {vs : List V} {ks : List Kd} (h : All2 (KAt H) vs ks) : DpAll K H vs (ks.map Kd.dat) := dps_of (R := KAt H) Kd.dat (fun _ _ h => h.dp) h
theorem ks_gd {ks : List Kd} (b : ∀ k ∈ ks, k.deep ≤ 8) (l : ks.length ≤ 100000) {n : Nat} (hn : 10 ≤ n) : Gd n (.list (ks.map Kd.dat)) := by
  obtain ⟨m, rfl⟩ : ∃ m, n = m + 1 := ⟨n - 1, by omega⟩
  refine ⟨by rw [List.length_map]; exact l, fun d hd => ?_⟩
  obtain ⟨k, hk, rfl⟩ := List.mem_map.mp hd
  exact Gd.kd.mono (by have := b k hk; omega)
theorem rows_gd {ps : List (Str × Int)} (l : ps.length ≤ 100000) {n : Nat} (hn : 3 ≤ n) : Gd n (.list (ps.map rowDat)) := by
  obtain ⟨m, rfl⟩ : ∃ m, n = m + 3 := ⟨n - 3, by omega⟩
  refine ⟨by rw [List.length_map]; exact l, fun d hd => ?_⟩
  obtain ⟨k, hk, rfl⟩ := List.mem_map.mp hd
  refine ⟨by show 2 ≤ 100000; decide, fun d hd => ?_⟩
  simp only [List.mem_cons, List.not_mem_nil, or_false] at hd
  rcases hd with rfl | rfl <;> exact trivial
theorem All2.rev {α β : Type} {R : α → β → Prop} : ∀ {xs : List α} {ys : List β}, All2 R xs ys → All2 R xs.reverse ys.reverse
  | [], [], _ => trivial
  | x :: xs, y :: ys, h => by
    rw [List.reverse_cons, List.reverse_cons]
    exact All2.snoc h.1 (All2.rev h.2)
  | [], _ :: _, h => h.elim
  | _ :: _, [], h => h.elim
/-! ### turned -/
def turnF (f : Str) : Str := if f = "behind" then "ahead" else if f = "ahead" then "behind" else f
theorem behind_ahead : ¬ (Str.ofString "behind" = Str.ofString "ahead") := by decide +kernel
theorem ahead_behind : ¬ (Str.ofString "ahead" = Str.ofString "behind") := by decide +kernel
theorem with_behind : ¬ (Str.ofString "with" = Str.ofString "behind") := by decide +kernel
theorem with_ahead : ¬ (Str.ofString "with" = Str.ofString "ahead") := by decide +kernel
theorem behind_with : ¬ (Str.ofString "behind" = Str.ofString "with") := by decide +kernel
theorem ahead_with : ¬ (Str.ofString "ahead" = Str.ofString "with") := by decide +kernel
theorem turnF_b : turnF "behind" = "ahead" := if_pos rfl
theorem turnF_a : turnF "ahead" = "behind" := by
  show (if Str.ofString "ahead" = Str.ofString "behind" then _ else _) = _
  rw [if_neg ahead_behind]
  exact if_pos rfl
theorem turnF_w : turnF "with" = "with" := by
  show (if Str.ofString "with" = Str.ofString "behind" then _ else _) = _
  rw [if_neg with_behind]
  exact if_neg with_ahead
def Kd.turn : Kd → Kd
  | .pl s => .pl s
  | .nd f a b => .nd (turnF f) b.turn a.turn
theorem turnF_form {f : Str} (h : Form f) : Form (turnF f) := by
  rcases h with rfl | rfl | rfl
  · exact .inr (.inl turnF_b)
  · exact .inl turnF_a
  · exact .inr (.inr turnF_w)
theorem turnF_twice {f : Str} (h : Form f) : turnF (turnF f) = f := by
  rcases h with rfl | rfl | rfl
  · rw [turnF_b, turnF_a]
  · rw [turnF_a, turnF_b]
  · rw [turnF_w, turnF_w]
theorem Kd.turn_ok : ∀ {k : Kd}, k.ok → k.turn.ok
  | .pl _, h => h
  | .nd _ _ _, ⟨h, a, b⟩ => ⟨turnF_form h, Kd.turn_ok b, Kd.turn_ok a⟩
theorem Kd.turn_deep : ∀ k : Kd, k.turn.deep = k.deep
  | .pl _ => rfl
  | .nd f a b => by
    show 1 + max b.turn.deep a.turn.deep = 1 + max a.deep b.deep
    rw [Kd.turn_deep a, Kd.turn_deep b]
    omega
theorem Kd.turn_turn : ∀ {k : Kd}, k.ok → k.turn.turn = k
  | .pl _, _ => rfl
  | .nd f a b, ⟨h, x, y⟩ => by
    show Kd.nd (turnF (turnF f)) a.turn.turn b.turn.turn = _
    rw [turnF_twice h, Kd.turn_turn x, Kd.turn_turn y]
theorem Kd.turn_letters : ∀ k : Kd, k.turn.letters = k.letters.reverse
  | .pl _ => rfl
  | .nd f a b => by
    show b.turn.letters ++ a.turn.letters = (a.letters ++ b.letters).reverse
    rw [Kd.turn_letters a, Kd.turn_letters b, List.reverse_append]
theorem Kd.turn_single : ∀ {k : Kd}, k.ok → k.turn.single = k.single
  | .pl _, _ => rfl
  | .nd f a b, ⟨h, x, y⟩ => by
    show (!decide (turnF f = "with") && (b.turn.single && a.turn.single)) = (!decide (f = "with") && (a.single && b.single))
    rw [Kd.turn_single x, Kd.turn_single y, Bool.and_comm b.single]
    rcases h with rfl | rfl | rfl
    · rw [turnF_b, decide_eq_false behind_with, decide_eq_false ahead_with]
    · rw [turnF_a, decide_eq_false behind_with, decide_eq_false ahead_with]
    · rw [turnF_w]
theorem Kd.turn_kb {k : Kd} (h : KB k) : KB k.turn := by
  refine ⟨Kd.turn_ok h.1, ?_, ?_⟩
  · rw [k.turn_deep]
    exact h.2.1
  · rw [k.turn_letters, List.length_reverse]
    exact h.2.2
/-! ### the signed letters of a kind -/
def Kd.sgn : Kd → Int → List (Str × Int)
  | .pl x, s => [(x, s)]
  | .nd f a b, s => if s = 1 then a.sgn (if f = "ahead" then -s else s) ++ b.sgn (if f = "behind" then -s else s) else b.sgn (if f = "behind" then -s else s) ++ a.sgn (if f = "ahead" then -s else s)
theorem Kd.sgn_len : ∀ (k : Kd) (s : Int), (k.sgn s).length = k.letters.length
  | .pl _, _ => rfl
  | .nd f a b, s => by
    show (if s = 1 then _ else _ : List (Str × Int)).length = (a.letters ++ b.letters).length
    by_cases h : s = 1
    · rw [if_pos h, List.length_append, List.length_append, Kd.sgn_len, Kd.sgn_len]
    · rw [if_neg h, List.length_append, List.length_append, Kd.sgn_len, Kd.sgn_len]
      omega
theorem Kd.sgn_mem : ∀ (k : Kd) (s : Int) (x : Str), x ∈ (k.sgn s).map (·.1) ↔ x ∈ k.letters
  | .pl y, s, x => by simp [Kd.sgn, Kd.letters]
  | .nd f a b, s, x => by
    show x ∈ (if s = 1 then _ else _ : List (Str × Int)).map (·.1) ↔ x ∈ a.letters ++ b.letters
    by_cases h : s = 1
    · rw [if_pos h, List.map_append, List.mem_append, List.mem_append, Kd.sgn_mem, Kd.sgn_mem]
    · rw [if_neg h, List.map_append, List.mem_append, List.mem_append, Kd.sgn_mem, Kd.sgn_mem]
      exact Or.comm
theorem Kd.sgn_turn : ∀ {k : Kd} (s : Int), k.ok → k.turn.sgn s = (k.sgn s).reverse
  | .pl _, _, _ => rfl
  | .nd f a b, s, ⟨h, x, y⟩ => by
    show (if s = 1 then b.turn.sgn (if turnF f = "ahead" then -s else s) ++ a.turn.sgn (if turnF f = "behind" then -s else s) else a.turn.sgn (if turnF f = "behind" then -s else s) ++ b.turn.sgn (if turnF f = "ahead" then -s else s)) = (if s = 1 then _ else _ : List (Str × Int)).reverse
    have e1 : (turnF f = "ahead") ↔ (f = "behind") := by
      rcases h with rfl | rfl | rfl
      · rw [turnF_b]
        exact ⟨fun _ => rfl, fun _ => rfl⟩
      · rw [turnF_a]
        exact ⟨fun z => (behind_ahead z).elim, fun z => (ahead_behind z).elim⟩
      · rw [turnF_w]
        exact ⟨fun z => (with_ahead z).elim, fun z => (with_behind z).elim⟩
    have e2 : (turnF f = "behind") ↔ (f = "ahead") := by
      rcases h with rfl | rfl | rfl
      · rw [turnF_b]
        exact ⟨fun z => (ahead_behind z).elim, fun z => (behind_ahead z).elim⟩
      · rw [turnF_a]
        exact ⟨fun _ => rfl, fun _ => rfl⟩
      · rw [turnF_w]
        exact ⟨fun z => (with_behind z).elim, fun z => (with_ahead z).elim⟩
    simp only [e1, e2]
    rw [Kd.sgn_turn _ x, Kd.sgn_turn _ y]
    by_cases c : s = 1
    · rw [if_pos c, if_pos c, List.reverse_append]
    · rw [if_neg c, if_neg c, List.reverse_append]
def rowSgn (ks : List Kd) : List (Str × Int) := ks.flatMap fun k => k.sgn 1
theorem rowSgn_turn : ∀ {ks : List Kd}, (∀ k ∈ ks, k.ok) → rowSgn (ks.reverse.map Kd.turn) = (rowSgn ks).reverse
  | [], _ => rfl
  | k :: ks, h => by
    have ih := rowSgn_turn fun x hx => h x (List.mem_cons_of_mem _ hx)
    have hk := h k List.mem_cons_self
    unfold rowSgn at ih ⊢
    rw [List.reverse_cons, List.map_append, List.flatMap_append, ih, List.flatMap_cons, List.reverse_append, List.map_cons, List.map_nil, List.flatMap_cons, List.flatMap_nil, List.append_nil, Kd.sgn_turn _ hk]
/-! ### what is left when all that cancels is taken out -/
def inv (p : Str × Int) : Str × Int := (p.1, -p.2)
theorem inv_inv (p : Str × Int) : inv (inv p) = p := by
  obtain ⟨a, i⟩ := p
  show (a, - -i) = (a, i)
  rw [Int.neg_neg]
theorem inv_sym {p q : Str × Int} (h : q = inv p) : p = inv q := by rw [h, inv_inv]
def rstep (st : List (Str × Int)) (p : Str × Int) : List (Str × Int) := match st with
  | [] => [p]
  | q :: r => if q = inv p then r else p :: q :: r
def fold (st ps : List (Str × Int)) : List (Str × Int) := ps.foldl rstep st
def red (ps : List (Str × Int)) : List (Str × Int) := (fold [] ps).reverse
def Rd0 : List (Str × Int) → Prop
  | [] => True
  | [_] => True
  | p :: q :: r => q ≠ inv p ∧ Rd0 (q :: r)
theorem Rd0.tail {p : Str × Int} : ∀ {r : List (Str × Int)}, Rd0 (p :: r) → Rd0 r
  | [], _ => trivial
  | _ :: _, h => h.2
theorem rstep_rd {st : List (Str × Int)} {p : Str × Int} (h : Rd0 st) : Rd0 (rstep st p) := by
  cases st with
  | nil => exact trivial
  | cons q r =>
    show Rd0 (if q = inv p then r else p :: q :: r)
    by_cases c : q = inv p
    · rw [if_pos c]
      exact h.tail
    · rw [if_neg c]
      exact ⟨c, h⟩
theorem fold_rd : ∀ {ps st : List (Str × Int)}, Rd0 st → Rd0 (fold st ps)
  | [], _, h => h
  | _ :: ps, _, h => fold_rd (ps := ps) (rstep_rd h)
theorem rstep_back {st : List (Str × Int)} {p : Str × Int} (h : Rd0 st) : rstep (rstep st p) (inv p) = st := by
  cases st with
  | nil =>
    show (if p = inv (inv p) then [] else _) = []
    rw [if_pos (inv_inv p).symm]
  | cons q r =>
    show rstep (if q = inv p then r else p :: q :: r) (inv p) = q :: r
    by_cases c : q = inv p
    · rw [if_pos c]
      cases r with
      | nil => rw [c]; rfl
      | cons q2 r2 =>
        show (if q2 = inv (inv p) then r2 else inv p :: q2 :: r2) = _
        have n : ¬ q2 = inv (inv p) := fun z => h.1 (by rw [z, c])
        rw [if_neg n, c]
    · rw [if_neg c]
      show (if p = inv (inv p) then q :: r else _) = q :: r
      rw [if_pos (inv_inv p).symm]
theorem fold_app (st a b : List (Str × Int)) : fold st (a ++ b) = fold (fold st a) b := List.foldl_append
theorem snoc_ind {α : Type} {P : List α → Prop} (h0 : P []) (hs : ∀ l x, P l → P (l ++ [x])) (l : List α) : P l := by
  have g : ∀ m : List α, P m.reverse := by
    intro m
    induction m with
    | nil => exact h0
    | cons x m ih =>
      rw [List.reverse_cons]
      exact hs _ _ ih
  have := g l.reverse
  rw [List.reverse_reverse] at this
  exact this
theorem fold_red (l : List (Str × Int)) : ∀ st, Rd0 st → fold st l = fold st (red l) := by
  refine snoc_ind (P := fun l => ∀ st, Rd0 st → fold st l = fold st (red l)) (fun _ _ => rfl) (fun l p ih st hst => ?_) l
  have e : fold [] (l ++ [p]) = rstep (fold [] l) p := fold_app [] l [p]
  unfold red at ih ⊢
  rw [e, fold_app st l [p], ih st hst]
  have hr : Rd0 (fold [] l) := fold_rd trivial
  revert hr
  cases fold [] l with
  | nil => intro _; rfl
  | cons q r =>
    intro hr
    show rstep (fold st (q :: r).reverse) p = fold st (if q = inv p then r else p :: q :: r).reverse
    by_cases c : q = inv p
    · rw [if_pos c, List.reverse_cons, fold_app, inv_sym c]
      exact rstep_back (fold_rd hst)
    · rw [if_neg c, List.reverse_cons (a := p), fold_app st _ [p]]
      rfl
theorem fold_rev (l : List (Str × Int)) : ∀ st, Rd0 st → fold st l.reverse = fold st (fold [] l) := by
  refine snoc_ind (P := fun l => ∀ st, Rd0 st → fold st l.reverse = fold st (fold [] l)) (fun _ _ => rfl) (fun l p ih st hst => ?_) l
  have e : fold [] (l ++ [p]) = rstep (fold [] l) p := fold_app [] l [p]
  rw [e, List.reverse_append]
  show fold (rstep st p) l.reverse = _
  rw [ih _ (rstep_rd hst)]
  cases fold [] l with
  | nil => rfl
  | cons q r =>
    show fold (rstep (rstep st p) q) r = fold st (if q = inv p then r else p :: q :: r)
    by_cases c : q = inv p
    · rw [if_pos c, c, rstep_back hst]
    · rw [if_neg c]
      rfl
theorem fold_of_rd : ∀ {w acc : List (Str × Int)}, Rd0 w → (∀ p r q s, w = p :: r → acc = q :: s → q ≠ inv p) → fold acc w = w.reverse ++ acc
  | [], _, _, _ => rfl
  | p :: r, acc, h, c => by
    have e : rstep acc p = p :: acc := by
      cases acc with
      | nil => rfl
      | cons q s => exact if_neg (c p r q s rfl rfl)
    show fold (rstep acc p) r = (p :: r).reverse ++ acc
    rw [e, fold_of_rd h.tail (fun p2 r2 q s e1 e2 => by
      subst e1
      obtain ⟨e3, _⟩ := List.cons.inj e2
      subst e3
      exact fun z => h.1 (inv_sym z)), List.reverse_cons, List.append_assoc]
    rfl
theorem red_rev (l : List (Str × Int)) : red l.reverse = (red l).reverse := by
  unfold red
  have h : Rd0 (fold [] l) := fold_rd (st := []) trivial
  rw [fold_rev l [] trivial, fold_of_rd h (fun _ _ _ _ _ z => by cases z), List.append_nil]
theorem red_mem (l : List (Str × Int)) : ∀ x ∈ red l, x ∈ l := by
  refine snoc_ind (P := fun l => ∀ x ∈ red l, x ∈ l) (fun _ z => nomatch z) (fun l p ih x hx => ?_) l
  have e : fold [] (l ++ [p]) = rstep (fold [] l) p := fold_app [] l [p]
  unfold red at ih hx
  rw [e, List.mem_reverse] at hx
  have ih' : ∀ y ∈ fold [] l, y ∈ l := fun y hy => ih y (List.mem_reverse.mpr hy)
  revert hx ih'
  cases fold [] l with
  | nil =>
    intro hx _
    exact List.mem_append_right _ hx
  | cons q r =>
    intro hx ih'
    have hx' : x ∈ (if q = inv p then r else p :: q :: r) := hx
    by_cases c : q = inv p
    · rw [if_pos c] at hx'
      exact List.mem_append_left _ (ih' x (List.mem_cons_of_mem _ hx'))
    · rw [if_neg c] at hx'
      rcases List.mem_cons.mp hx' with rfl | h
      · exact List.mem_append_right _ (List.mem_singleton.mpr rfl)
      · exact List.mem_append_left _ (ih' x h)
theorem fold_len : ∀ (ps st : List (Str × Int)), (fold st ps).length ≤ st.length + ps.length
  | [], st => Nat.le_refl _
  | p :: ps, st => by
    have h := fold_len ps (rstep st p)
    have e : (rstep st p).length ≤ st.length + 1 := by
      cases st with
      | nil => exact Nat.le_refl _
      | cons q r =>
        show (if q = inv p then r else p :: q :: r).length ≤ _
        by_cases c : q = inv p
        · rw [if_pos c, List.length_cons]
          omega
        · rw [if_neg c]
          exact Nat.le_refl _
    show (fold (rstep st p) ps).length ≤ st.length + (ps.length + 1)
    omega
/-! ### the balance -/
def cnt : List (Str × Int) → Str → Int
  | [], _ => 0
  | p :: ps, s => (if p.1 = s then p.2 else 0) + cnt ps s
theorem cnt_app (s : Str) : ∀ a b : List (Str × Int), cnt (a ++ b) s = cnt a s + cnt b s
  | [], b => by
    show cnt b s = 0 + cnt b s
    omega
  | p :: a, b => by
    show _ + cnt (a ++ b) s = _ + cnt a s + cnt b s
    rw [cnt_app s a b]
    omega
theorem cnt_rev (s : Str) : ∀ a : List (Str × Int), cnt a.reverse s = cnt a s
  | [] => rfl
  | p :: a => by
    rw [List.reverse_cons, cnt_app, cnt_rev s a]
    show _ + (_ + 0) = _ + _
    omega
def bal (ps : List (Str × Int)) (ss : List Str) : List (Str × Int) := (ss.map fun s => (s, cnt ps s)).filter fun x => decide (x.2 ≠ 0)
/-- a dict of counts -/
def DC (kvs : List (L2.Key × V)) (ps : List (Str × Int)) : Prop := ∃ ks : List Str, kvs.map (·.1) = ks.map Sum.inr ∧ ks.Nodup ∧ (∀ s, s ∈ ks ↔ s ∈ ps.map (·.1)) ∧ ∀ s, valV kvs (.inr s) = if s ∈ ks then some (.int (cnt ps s)) else none
theorem DC.nil : DC [] [] := ⟨[], rfl, List.nodup_nil, fun _ => Iff.rfl, fun s => by rw [if_neg (by simp)]; rfl⟩
theorem cnt_out {s : Str} : ∀ {ps : List (Str × Int)}, s ∉ ps.map (·.1) → cnt ps s = 0
  | [], _ => rfl
  | p :: ps, h => by
    rw [List.map_cons, List.mem_cons, not_or] at h
    show (if p.1 = s then p.2 else 0) + cnt ps s = 0
    rw [if_neg (fun z => h.1 z.symm), cnt_out h.2]
    rfl
theorem DC.get {kvs : List (L2.Key × V)} {ps : List (Str × Int)} (h : DC kvs ps) (s : Str) : (valV kvs (.inr s)).getD (.int 0) = .int (cnt ps s) := by
  obtain ⟨ks, h1, h2, h3, h4⟩ := h
  rw [h4]
  by_cases c : s ∈ ks
  · rw [if_pos c]
    rfl
  · rw [if_neg c, cnt_out fun z => c ((h3 s).2 z)]
    rfl
theorem putK_keys {kvs : List (L2.Key × V)} {k : L2.Key} {y : V} (h : k ∈ kvs.map (·.1)) : (putK kvs k y).map (·.1) = kvs.map (·.1) := by
  unfold putK
  have a : (kvs.any fun kv => decide (kv.1 = k)) = true := by
    obtain ⟨x, m, e⟩ := List.mem_map.mp h
    exact List.any_eq_true.mpr ⟨x, m, decide_eq_true e⟩
  rw [if_pos a, List.map_map]
  refine List.map_congr_left fun x _ => ?_
  show (if x.1 = k then (x.1, y) else x).1 = x.1
  split <;> rfl
theorem DC.put {kvs : List (L2.Key × V)} {ps : List (Str × Int)} (h : DC kvs ps) (p : Str × Int) : DC (putK kvs (.inr p.1) (.int (cnt ps p.1 + p.2))) (ps ++ [p]) := by
  obtain ⟨ks, h1, h2, h3, h4⟩ := h
  have cs : ∀ s, cnt (ps ++ [p]) s = cnt ps s + (if p.1 = s then p.2 else 0) := fun s => by
    rw [cnt_app]
    show _ + (_ + 0) = _
    omega
  by_cases c : p.1 ∈ ks
  · refine ⟨ks, ?_, h2, fun s => ?_, fun s => ?_⟩
    · rw [putK_keys (by rw [h1]; exact List.mem_map_of_mem c), h1]
    · rw [List.map_append, List.mem_append, ← h3 s]
      refine ⟨.inl, fun z => z.elim id fun z => ?_⟩
      have e : s = p.1 := by simpa using z
      rw [e]
      exact c
    · rw [valV_put, h4, cs]
      by_cases e : s = p.1
      · subst e
        rw [if_pos rfl, if_pos c, if_pos rfl]
      · have e2 : ¬ p.1 = s := fun z => e z.symm
        have e3 : ¬ (Sum.inr s : L2.Key) = Sum.inr p.1 := fun z => e (Sum.inr.inj z)
        rw [if_neg e3, if_neg e2, Int.add_zero]
  · have nv : valV kvs (.inr p.1) = none := by rw [h4, if_neg c]
    refine ⟨ks ++ [p.1], ?_, ?_, fun s => ?_, fun s => ?_⟩
    · rw [putK_new _ nv, List.map_append, h1, List.map_append]
      rfl
    · rw [List.nodup_append]
      refine ⟨h2, by simp, fun a ha b hb z => ?_⟩
      rw [List.mem_singleton] at hb
      rw [z, hb] at ha
      exact c ha
    · rw [List.map_append, List.mem_append, List.mem_append, h3 s]
      rfl
    · rw [valV_put, h4, cs]
      by_cases e : s = p.1
      · subst e
        rw [if_pos rfl, if_pos (List.mem_append_right _ (List.mem_singleton.mpr rfl)), if_pos rfl]
      · have e2 : ¬ p.1 = s := fun z => e z.symm
        have e3 : ¬ (Sum.inr s : L2.Key) = Sum.inr p.1 := fun z => e (Sum.inr.inj z)
        rw [if_neg e3, if_neg e2, Int.add_zero]
        by_cases c2 : s ∈ ks
        · rw [if_pos c2, if_pos (List.mem_append_left _ c2)]
        · rw [if_neg c2, if_neg (fun z => (List.mem_append.mp z).elim c2 fun z => e (List.mem_singleton.mp z))]
end Ww

namespace Ww
open PySem PySem.Spec PyProof.Rows L2
theorem All2.kat {H H' : Hp} {xs : List V} {ks : List Kd} (e : Tps H H') (w : All2 (KAt H) xs ks) : All2 (KAt H') xs ks := w.mono fun _ _ h => h.mono e
theorem All2.row {H H' : Hp} {xs : List V} {ks : List (Str × Int)} (e : Tps H H') (w : All2 (RowAt H) xs ks) : All2 (RowAt H') xs ks := w.mono (RowAt.mono e)
/-- all but a and h stands -/
def Bt2 (a h : Addr) (H H' : Hp) : Prop := ∀ b o, b ≠ a → b ≠ h → H b = some o → H' b = some o
theorem Bt2.refl (a h : Addr) (H : Hp) : Bt2 a h H H := fun _ _ _ _ q => q
theorem Bt2.trans {a h : Addr} {H H1 H2 : Hp} (x : Bt2 a h H H1) (y : Bt2 a h H1 H2) : Bt2 a h H H2 := fun b o n m q => y b o n m (x b o n m q)
theorem Bt2.of {a h : Addr} {H H' : Hp} (e : Same H H') : Bt2 a h H H' := fun b o _ _ q => e b o q
theorem Bt2.but {a h : Addr} {H H' : Hp} (e : But a H H') : Bt2 a h H H' := fun b o n _ q => e b o n q
theorem Bt2.mut {a h p : Addr} {H H' : Hp} (e : Bt2 a h H H') (n : H p = none) (o : HO) : Bt2 a h H (upd H' p o) := fun b u x y q => by
  rw [upd_ne (ne_of_none q n)]
  exact e b u x y q
theorem Bt2.at2 {a h : Addr} {H H' : Hp} (e : Bt2 a h H H') (o : HO) : Bt2 a h H (upd H' h o) := fun b u x y q => by
  rw [upd_ne y]
  exact e b u x y q
theorem Bt2.tps {a h : Addr} {H H' : Hp} {xs ys : List V} (e : Bt2 a h H H') (ha : H a = some (.lst xs)) (hh : H h = some (.lst ys)) : Tps H H' := fun b zs q =>
  e b _ (ne_of q ha (fun z => by cases z)) (ne_of q hh (fun z => by cases z)) q
theorem str_app (x y : Str) : (x ++ y).cps.toList = x.cps.toList ++ y.cps.toList := PySem.W.KT.app_list x y
theorem str_len_app (x y : Str) : (x ++ y).length = x.length + y.length := by
  rw [len_cps, len_cps, len_cps, str_app, List.length_append]
theorem AllLet.app {x y : Str} (a : AllLet x) (b : AllLet y) : AllLet (x ++ y) := fun c hc => by
  rw [str_app] at hc
  rcases List.mem_append.mp hc with z | z
  · exact a c z
  · exact b c z
theorem rowSgn_snoc (ks : List Kd) (k : Kd) : (rowSgn (ks ++ [k])).length = (rowSgn ks).length + k.letters.length := by
  unfold rowSgn
  rw [List.flatMap_append, List.length_append]
  show _ + ([k].flatMap _).length = _
  rw [List.flatMap_cons, List.flatMap_nil, List.append_nil, k.sgn_len]
end Ww

namespace Ww.DS
open PySem PySem.W PySem.Calls PyProof.Rows PyProof.V PySem.Spec L2.DX DT
variable {prog : Program} {w : World} {A : Around} {E : Value → Shared → Prop} {s : Shared}
/-- v is a pair: a text, anything -/
def PairS (h : Heap) (v : Value) (y : Str) : Prop := ∃ (a : Addr) (t : Tok) (b : Addr), v = .ref a ∧ IsTup h a #[.str y t, .ref b]
def keyS (h : Heap) (v : Value) : Str := txOf (seqAt0 h (refOf (some v)))
theorem PairS.tx {h : Heap} {v : Value} {y : Str} (x : PairS h v y) : keyS h v = y := by
  obtain ⟨a, t, u, rfl, h1⟩ := x
  show txOf (seqAt0 h a) = y
  rw [seqAt0_of h1]
  rfl
theorem firsts {h : Heap} : ∀ vs : List Value, (∀ v ∈ vs, ∃ y, PairS h v y) → ∃ fs : List Value, KatTups h vs fs ∧ fs.length = vs.length ∧ ∀ f ∈ fs, ∃ (y : Str) (t : Tok), f = Value.str y t
  | [], _ => ⟨[], KatTups.nil, rfl, fun f hf => by simp at hf⟩
  | v :: vs, x => by
    obtain ⟨fs, k, hl, hi⟩ := firsts vs fun u hu => x u (List.mem_cons_of_mem _ hu)
    obtain ⟨y, a, t, u, rfl, ⟨o, ho, hc, n, hd⟩⟩ := x v (List.mem_cons_self ..)
    refine ⟨.str y t :: fs, KatTups.cons ho hc hd rfl k, by rw [List.length_cons, List.length_cons, hl], fun f hf => ?_⟩
    rcases List.mem_cons.mp hf with rfl | hf
    · exact ⟨y, t, rfl⟩
    · exact hi f hf
theorem kind_ss {vs : List Value} {ρ : Str → Int} (h2 : 2 ≤ vs.length) (hu : A.units < cLine) (x : ∀ v ∈ vs, ∃ y, PairS s.heap v y)
    (hd : ∀ v ∈ vs, ∀ u ∈ vs, keyS s.heap v = keyS s.heap u → v = u)
    (hρ : ∀ v ∈ vs, ∀ u ∈ vs, decide ((keyS s.heap v).cps.toList < (keyS s.heap u).cps.toList) = decide (ρ (keyS s.heap v) < ρ (keyS s.heap u))) (Q : SortKind → Shared → Prop)
    (h : ∀ κ, TS.Cmp prog w A s κ (pairsOf vs) (fun v => ρ (keyS s.heap v)) → Q κ s) : wpAny (model prog w) A (keyKind' vs.toArray) Q E s := by
  obtain ⟨fs, k, hl, hi⟩ := firsts vs x
  refine kat_kind (T := Value.type "str") k (by omega) (fun f hf => ?_) rfl (h _ ?_)
  · obtain ⟨y, t, rfl⟩ := hi f hf
    exact .now
  · have hb : (Value.type "str" != Value.type "tuple") = true := by first | rfl | decide | simp
    rw [hb]
    intro p q hp hq Q' E' hQ
    rw [pairsOf_toList] at hp hq
    have mp := mem_zip_self hp
    have mq := mem_zip_self hq
    obtain ⟨y, py⟩ := x _ mp.2
    obtain ⟨z, pz⟩ := x _ mq.2
    have hr := hρ _ mp.2 _ mq.2
    have hdd := hd _ mp.2 _ mq.2
    have hQ' : Q' (decide (y.cps.toList < z.cps.toList)) s := by
      rw [py.tx, pz.tx] at hr
      rw [hr]
      have hQ2 : Q' (decide (ρ (keyS s.heap p.1) < ρ (keyS s.heap q.1))) s := hQ
      rw [py.tx, pz.tx] at hQ2
      exact hQ2
    rw [py.tx, pz.tx] at hdd
    obtain ⟨a, t, b, e1, ho⟩ := py
    obtain ⟨a', t', b', e2, ho'⟩ := pz
    obtain ⟨o, go, hc, n, hdt⟩ := id ho
    obtain ⟨o', go', hc', n', hdt'⟩ := id ho'
    have hdd' := hdd
    rw [e1, e2] at hdd' ⊢
    refine kat_lt go hdt go' hdt' ?_
    show KatLex prog w A true false Q' [(Value.str y t, Value.str z t'), (Value.ref b, Value.ref b')] 0 s
    by_cases e : y = z
    · have ea : a = a' := Value.ref.inj (hdd' e)
      subst ea
      have eo : o = o' := Option.some.inj (go.symm.trans go')
      subst eo
      have es := hdt.symm.trans hdt'
      injection es with es1 es2
      have eb : b = b' := by
        have := congrArg (fun z : Array Value => z[1]?) es1
        simpa using this
      subst eb
      have irr : decide (y.cps.toList < z.cps.toList) = false := by
        rw [e]
        first | exact decide_eq_false (List.lt_irrefl _) | simp
      rw [irr] at hQ'
      refine kat_cons (wpAny_eqBool_str ?_)
      refine kat_go (fun _ => ?_) (fun e0 => absurd e (of_decide_eq_false e0))
      refine kat_yes (kat_cons ?_)
      have same : ∀ {R : Bool → Shared → Prop}, R true s → wpAny (model prog w) A (eqBool (Value.ref b) (Value.ref b)) R (fun _ _ => False) s := fun {R} h => by
        unfold eqBool
        refine wpAny_holding ?_
        have eb : (Value.ref b == Value.ref b) = true := by simp
        rw [if_pos eb]
        exact wpAny_bind (wpAny_rule (wpAny_pure h))
      exact same (kat_yes (kat_nil hQ'))
    · refine kat_cons (wpAny_eqBool_str ?_)
      refine kat_go (fun e0 => absurd (of_decide_eq_true e0) e) (fun _ => ?_)
      exact kat_no (oneLt_str hQ')
end Ww.DS
namespace Ww.DS
open PySem PySem.Spec PyProof.Rows L2 L2.DX
theorem pairs_at {P : Program} {w : World} {es : List DictEntry} {vs : List (L2.Key × Value)} (h : PySem.Pairs (mixKind P w) es vs) : ∀ {kvs : List (L2.Key × V)}, Paired (fun (p : L2.Key × V) (q : L2.Key × Value) => p.1 = q.1 ∧ RelV p.2 q.2) kvs vs → ∀ (j : Nat) (en : DictEntry), es[j]? = some en →
    ∃ k v, kvs[j]? = some (k, v) ∧ keyIs k en.key = true ∧ RelV v en.val := by
  induction h with
  | nil =>
    intro kvs r j en h
    simp at h
  | @cons e kv es vs h1 h2 hs ih =>
    intro kvs r j en h
    cases r with
    | @cons p _ ps _ r1 rs =>
      cases j with
      | zero =>
        have e' : e = en := by simpa using h
        subst e'
        refine ⟨p.1, p.2, rfl, ?_, ?_⟩
        · rw [r1.1]
          exact h1
        · rw [h2]
          exact r1.2
      | succ j =>
        obtain ⟨k, v, a, b⟩ := ih rs j en (by simpa using h)
        exact ⟨k, v, by simpa using a, b⟩
/-! ### a rank of texts -/
theorem cnt_lt {α : Type} {p q : α → Bool} : ∀ {L : List α}, (∀ a ∈ L, p a = true → q a = true) → (∃ a ∈ L, q a = true ∧ p a = false) → L.countP p < L.countP q
  | [], _, ⟨a, h, _⟩ => nomatch h
  | x :: L, h, ⟨a, ha, h1, h2⟩ => by
    have mono : L.countP p ≤ L.countP q := List.countP_mono_left fun b hb => h b (List.mem_cons_of_mem _ hb)
    rw [List.countP_cons, List.countP_cons]
    rcases List.mem_cons.mp ha with rfl | ha
    · rw [h1, h2]
      simp
      omega
    · have ih := cnt_lt (fun b hb => h b (List.mem_cons_of_mem _ hb)) ⟨a, ha, h1, h2⟩
      have hx := h x List.mem_cons_self
      by_cases c : p x = true
      · rw [if_pos c, if_pos (hx c)]
        omega
      · rw [if_neg c]
        split <;> omega
def rank (L : List Str) (x : Str) : Int := (L.countP fun y => decide (y.cps.toList < x.cps.toList) : Nat)
theorem tri {x y : Str} (n : ¬ x = y) : x.cps.toList < y.cps.toList ∨ y.cps.toList < x.cps.toList := by
  rcases Decidable.em (x.cps.toList < y.cps.toList) with z | z
  · exact .inl z
  · rcases Decidable.em (y.cps.toList < x.cps.toList) with z2 | z2
    · exact .inr z2
    · exact absurd (str_ext (List.le_antisymm (List.not_lt.mp z2) (List.not_lt.mp z))) n
theorem rank_lt {L : List Str} {x y : Str} (hx : x ∈ L) (h : x.cps.toList < y.cps.toList) : rank L x < rank L y := by
  have := cnt_lt (p := fun z : Str => decide (z.cps.toList < x.cps.toList)) (q := fun z : Str => decide (z.cps.toList < y.cps.toList)) (L := L) (fun a _ ha => decide_eq_true (List.lt_trans (of_decide_eq_true ha) h)) ⟨x, hx, decide_eq_true h, decide_eq_false (lt_irr _)⟩
  unfold rank
  omega
theorem rank_iff {L : List Str} {x y : Str} (hx : x ∈ L) (hy : y ∈ L) : decide (x.cps.toList < y.cps.toList) = decide (rank L x < rank L y) := by
  rw [decide_eq_decide]
  refine ⟨rank_lt hx, fun h => ?_⟩
  by_cases e : x = y
  · rw [e] at h
    omega
  · rcases tri e with z | z
    · exact z
    · have := rank_lt hy z
      omega
/-! ### d.items() and sorted(d.items()) of a dict of texts -/
abbrev entS (e : Str × Addr) : L2.Key × V := (Sum.inr e.1, V.ref e.2)
section
variable {X : Cx}
theorem mt_itemsK : MtR X "dict.items" (fun x xs H Q => ∃ (a : Addr) (kvs : List (L2.Key × V)), x = .ref a ∧ xs = [] ∧ H a = some (.dK kvs) ∧ ∀ p, H p = none → Q (.ref p) (upd H p (itemsO p a))) := by
  intro pins s σ H x xs v us Q I rx rxs h
  obtain ⟨a, kvs, rfl, rfl, ha, q⟩ := h
  cases rx
  cases rxs
  obtain ⟨z, hd, vs, rel, o, es, ep, ho, hx, hdat, _⟩ := dk_of I.hok ha
  refine DT.callItems (es := es) (ep := ep) hd ⟨o, ho, hx, hdat⟩ ?_
  have hf : H s.heap.objs.size = none := I.hok.fresh (Nat.le_refl _)
  exact ⟨.ref s.heap.objs.size, upd H s.heap.objs.size (itemsO s.heap.objs.size a), I.laid (t' := s.toks) (fun b u e => Heap.get?_push_of_some _ e) (Nat.le_refl _) (itemsO_ok (Heap.get?_push_size _ rfl)), rfl, q _ hf⟩
def rSortIK : List V → Hp → VK → Prop := fun vs H Q => ∃ (p a : Addr) (ks : List (Str × Addr)), vs = [.ref p] ∧ H p = some (itemsO p a) ∧ H a = some (.dK (ks.map entS)) ∧ ks.length < 64 ∧ (ks.map (·.1)).Nodup ∧
  ∀ (H' : Hp) (l : Addr) (ps : List (Addr × Str × Addr)), Same H H' → H l = none → (ps.map (·.2)).Perm ks → (ps.map (·.2)).Pairwise (fun e f => e.1.cps.toList < f.1.cps.toList) → H' l = some (.lst (ps.map fun z => V.ref z.1)) →
    (∀ z ∈ ps, H' z.1 = some (.tup [.str z.2.1, .ref z.2.2])) → (∀ z ∈ ps, H z.1 = none) → Q (.ref l) H'
theorem cr_sortedItemsK (hc : X.calm = true) (hu : X.A.units + 64 < cLine) : CallR X (.builtin "sorted") rSortIK := by
  intro pins s σ H xs us Q I r h
  obtain ⟨p, a, ks, rfl, hp, ha, h64, hnd, q⟩ := h
  obtain rfl := Vals.ref1 r
  have view : s.heap.IsItemsView p a := (show ObjOk X.prog X.w H s.heap p (itemsO p a) from I.hok p _ hp).1
  obtain ⟨z, hd, vs', rel, o, es, ep, ho, hx, hdat, hes, his, hn⟩ := dk_of I.hok ha
  have l1 : (ks.map entS).length = vs'.length := Paired.length rel
  rw [List.length_map] at l1
  have l2 : es.size = vs'.length := by
    rw [← Array.length_toList]
    exact PySem.Pairs.length his
  have hh : X.A.handled = none := I.ok.hd hc
  refine DT.sortedI (es := es) (ep := ep) hh view ⟨o, ho, hx, hdat⟩ (by rw [sizeLine_eq]; omega) fun h' tk as hk hlt hl hG => ?_
  have lak : as.length = ks.length := by omega
  have nd : as.Nodup := List.Pairwise.imp (fun h => Nat.ne_of_lt h) hG.rise
  have pr : ∀ (j : Nat) (b : Addr), as[j]? = some b → ∃ (e : Str × Addr) (t : Tok), ks[j]? = some e ∧ h'.get? b = some { cls := .type "tuple", data := .seq #[Value.str e.1 t, Value.ref e.2] } := by
    intro j b hj
    obtain ⟨en, he, hg⟩ := hG.pairs j b hj
    rw [← Array.getElem?_toList] at he
    obtain ⟨k, v, hkv, hkey, hval⟩ := pairs_at his rel j en he
    rw [List.getElem?_map] at hkv
    obtain ⟨e, hke, he2⟩ := Option.map_eq_some_iff.mp hkv
    have e1 : (Sum.inr e.1 : L2.Key) = k := congrArg Prod.fst he2
    have e2 : V.ref e.2 = v := congrArg Prod.snd he2
    subst e1
    subst e2
    rcases keyIs_shape hkey with ⟨i, t, c, _⟩ | ⟨y, t, c, ek⟩
    · cases c
    · have ey : e.1 = y := Sum.inr.inj c
      subst ey
      refine ⟨e, t, hke, ?_⟩
      have ev : en.val = Value.ref e.2 := hval
      rw [hg, ek, ev]
  have hob : (h'.push { cls := .type "list", data := .seq (as.map Value.ref).toArray }).get? h'.objs.size = some (seqObj "list" (as.map Value.ref).toArray 0) := Heap.get?_push_size _ rfl
  have kb : ∀ b o, s.heap.get? b = some o → (h'.push { cls := .type "list", data := .seq (as.map Value.ref).toArray }).get? b = some o := fun b o e => Heap.get?_push_of_some _ (hk b o e)
  have ne0 : ∀ b o, h'.get? b = some o → b ≠ h'.objs.size := fun b o e => Nat.ne_of_lt (Heap.lt_size e)
  generalize hh2 : h'.push { cls := .type "list", data := .seq (as.map Value.ref).toArray } = h2 at hob kb ⊢
  have ka : ∀ b o, h'.get? b = some o → h2.get? b = some o := fun b o e => by rw [← hh2]; exact Heap.get?_push_of_some _ e
  have pin : ∀ (j : Nat) (b : Addr), as[j]? = some b → ∃ e : Str × Addr, ks[j]? = some e ∧ PairS (TS.midHeap h2 h'.objs.size (as.map Value.ref)) (.ref b) e.1 := by
    intro j b hj
    obtain ⟨e, t, he, hg⟩ := pr j b hj
    exact ⟨e, he, b, t, e.2, rfl, ⟨_, TS.midHeap_old (ne0 _ _ hg) (ka _ _ hg), rfl, 0, rfl⟩⟩
  have tx : ∀ (j : Nat) (b : Addr) (e : Str × Addr), as[j]? = some b → ks[j]? = some e → keyS (TS.midHeap h2 h'.objs.size (as.map Value.ref)) (.ref b) = e.1 := by
    intro j b e hj he
    obtain ⟨e', he', hp'⟩ := pin j b hj
    have ee : e' = e := Option.some.inj (he'.symm.trans he)
    rw [← ee]
    exact hp'.tx
  have at_ : ∀ v ∈ as.map Value.ref, ∃ (j : Nat) (b : Addr) (e : Str × Addr), v = .ref b ∧ as[j]? = some b ∧ ks[j]? = some e := by
    intro v hv'
    obtain ⟨b, hb, rfl⟩ := List.mem_map.mp hv'
    obtain ⟨j, hj⟩ := List.mem_iff_getElem?.mp hb
    obtain ⟨e, _, he, _⟩ := pr j b hj
    exact ⟨j, b, e, rfl, hj, he⟩
  have mem1 : ∀ {j : Nat} {e : Str × Addr}, ks[j]? = some e → e.1 ∈ ks.map (·.1) := fun h => List.mem_map_of_mem (List.mem_of_getElem? h)
  refine wpAny_call_entry PyProof.Rows.slot_list_sort ⟨_, hob, rfl⟩ PyProof.Rows.entry_list_sort
    (SK.plain_sort (s := { s with heap := h2, toks := tk }) (r := fun v => rank (ks.map (·.1)) (keyS (TS.midHeap h2 h'.objs.size (as.map Value.ref)) v)) hob (by rw [List.length_map]; omega) (fun h2' Qk hQk => ?_) fun ps out o1 o2 o3 => ⟨.none, rfl, ?_⟩) (PyProof.Rows.args_list_sort _)
  · refine kind_ss (s := { s with heap := TS.midHeap h2 h'.objs.size (as.map Value.ref), toks := tk }) (ρ := rank (ks.map (·.1))) h2' (by show X.A.units + 1 + 1 < cLine; omega) (fun v hv' => ?_) (fun v hv' u hu' hvu => ?_) (fun v hv' u hu' => ?_) Qk hQk
    · obtain ⟨j, b, e, rfl, hj, he⟩ := at_ v hv'
      obtain ⟨e', _, hp'⟩ := pin j b hj
      exact ⟨e'.1, hp'⟩
    · obtain ⟨j, b, e, rfl, hj, he⟩ := at_ v hv'
      obtain ⟨j2, b2, e2, rfl, hj2, he2⟩ := at_ u hu'
      rw [tx j b e hj he, tx j2 b2 e2 hj2 he2] at hvu
      have m1 : (ks.map (·.1))[j]? = some e.1 := by rw [List.getElem?_map, he]; rfl
      have m2 : (ks.map (·.1))[j2]? = some e.1 := by rw [List.getElem?_map, he2, hvu]; rfl
      have ej : j = j2 := (List.getElem?_inj (List.getElem?_eq_some_iff.mp m1).1 hnd).mp (m1.trans m2.symm)
      subst ej
      rw [Option.some.inj (hj.symm.trans hj2)]
    · obtain ⟨j, b, e, rfl, hj, he⟩ := at_ v hv'
      obtain ⟨j2, b2, e2, rfl, hj2, he2⟩ := at_ u hu'
      rw [tx j b e hj he, tx j2 b2 e2 hj2 he2]
      exact rank_iff (mem1 he) (mem1 he2)
  · show EP X pins σ Q (.ref h'.objs.size) { s with heap := sortedHeap h2 h'.objs.size (as.map Value.ref) out, toks := tk }
    obtain ⟨zs, pz, ez⟩ := perm_lift (fun z : Addr × Str × Addr => (Value.ref z.1, Value.ref z.1)) o2 (as.zip ks) (zip_self Value.ref as ks lak)
    have idx : ∀ z ∈ zs, ∃ j : Nat, as[j]? = some z.1 ∧ ks[j]? = some z.2 := by
      intro z' hz'
      obtain ⟨j, hj⟩ := List.mem_iff_getElem?.mp (pz.mem_iff.mp hz')
      exact ⟨j, List.getElem?_zip_eq_some.mp hj⟩
    have hout : out.toList = zs.map fun z => Value.ref z.1 := by
      rw [o1, ← ez, List.map_map]
      all_goals rfl
    have hperm : (zs.map (·.2)).Perm ks := by
      have e := pz.map (·.2)
      have m2 : (as.zip ks).map (·.2) = ks := List.map_snd_zip (by rw [lak]; exact Nat.le_refl _)
      rw [m2] at e
      exact e
    have hnd2 : ((zs.map (·.2)).map (·.1)).Nodup := (hperm.map (·.1)).nodup_iff.mpr hnd
    have hsort : (zs.map (·.2)).Pairwise (fun e f => e.1.cps.toList < f.1.cps.toList) := by
      rw [← ez, List.pairwise_map] at o3
      rw [List.map_map, List.Nodup, List.pairwise_map] at hnd2
      rw [List.pairwise_map]
      refine List.Pairwise.imp_of_mem (fun {x y} hx hy h => ?_) (o3.and hnd2)
      obtain ⟨j, j1, j2⟩ := idx x hx
      obtain ⟨i, i1, i2⟩ := idx y hy
      have h' : rank (ks.map (·.1)) (keyS (TS.midHeap h2 h'.objs.size (as.map Value.ref)) (.ref x.1)) ≤ rank (ks.map (·.1)) (keyS (TS.midHeap h2 h'.objs.size (as.map Value.ref)) (.ref y.1)) := h.1
      rw [tx j _ _ j1 j2, tx i _ _ i1 i2] at h'
      have ne : ¬ x.2.1 = y.2.1 := h.2
      rcases tri ne with z | z
      · exact z
      · have := rank_lt (L := ks.map (·.1)) (mem1 i2) z
        omega
    have kF : ∀ b o, b ≠ h'.objs.size → h2.get? b = some o → (sortedHeap h2 h'.objs.size (as.map Value.ref) out).get? b = some o := fun b o hb e => (PyProof.Rows.sortedHeap_old hb (Heap.lt_size e)).trans e
    have kS : ∀ b o, s.heap.get? b = some o → (sortedHeap h2 h'.objs.size (as.map Value.ref) out).get? b = some o := fun b o e => kF b o (ne0 _ _ (hk b o e)) (kb b o e)
    obtain ⟨eF, heF⟩ := PyProof.Rows.sortedHeap_at (vs := as.map Value.ref) (out := out) hob
    have I1 : Inv X pins σ H { s with heap := sortedHeap h2 h'.objs.size (as.map Value.ref) out, toks := tk } := I.kept (t' := tk) kS
    have hn0 : H h'.objs.size = none := I.hok.fresh (Nat.le_of_lt hlt)
    have hlen : (zs.map fun z => V.ref z.1).length ≤ sizeLine := by
      have e := hperm.length_eq
      rw [List.length_map] at e
      rw [List.length_map, sizeLine_eq]
      omega
    have rv : Vals (zs.map fun z => V.ref z.1) out.toList := by
      rw [hout]
      exact vals_maps (fun z : Addr × Str × Addr => V.ref z.1) (fun z => Value.ref z.1) zs fun _ _ => rfl
    have I2 : Inv X pins σ (upd H h'.objs.size (.lst (zs.map fun z => V.ref z.1))) { s with heap := sortedHeap h2 h'.objs.size (as.map Value.ref) out, toks := tk } :=
      I1.take (h' := sortedHeap h2 h'.objs.size (as.map Value.ref) out) (t' := tk) (fun b ob _ e => e) (I.fpOk (Nat.le_of_lt hlt) hn0) ⟨hlen, out.toList, eF, rv, heF⟩
    obtain ⟨H2, I3, g, qt⟩ := takeT (P := fun b vs => ∃ (j : Nat) (e : Str × Addr), as[j]? = some b ∧ ks[j]? = some e ∧ vs = [.str e.1, .ref e.2]) I as _ I2 nd fun b hb => by
      obtain ⟨j, hj⟩ := List.mem_iff_getElem?.mp hb
      obtain ⟨e, t, he, hg⟩ := pr j b hj
      have hbl : s.heap.objs.size ≤ b := Nat.le_of_lt (hG.above b hb)
      refine ⟨hbl, ?_, [.str e.1, .ref e.2], ⟨j, e, hj, he, rfl⟩, fun H3 => ⟨(by rw [sizeLine_eq]; show 2 ≤ 16777216; omega), [Value.str e.1 t, Value.ref e.2], .cons ⟨t, rfl⟩ (.cons rfl .nil), ⟨_, kF _ _ (ne0 _ _ hg) (ka _ _ hg), rfl, 0, rfl⟩⟩⟩
      rw [upd_ne (ne0 _ _ hg)]
      exact I.hok.fresh hbl
    have gr : ∀ b o, H b = some o → H2 b = some o := fun b o e => g b o (by rw [upd_ne (ne_of_none e hn0)]; exact e)
    refine ⟨.ref h'.objs.size, H2, I3, rfl, q H2 h'.objs.size zs gr hn0 hperm hsort (g _ _ upd_same) (fun z' hz' => ?_) fun z' hz' => ?_⟩
    · obtain ⟨i, i1, i2⟩ := idx z' hz'
      obtain ⟨vs, ⟨j, e, j1, j2, ev⟩, hH⟩ := qt z'.1 (List.mem_of_getElem? i1)
      have eij : i = j := (List.getElem?_inj (List.getElem?_eq_some_iff.mp i1).1 nd).mp (i1.trans j1.symm)
      subst eij
      have ee : e = z'.2 := Option.some.inj (j2.symm.trans i2)
      rw [ev, ee] at hH
      exact hH
    · obtain ⟨i, i1, i2⟩ := idx z' hz'
      exact I.hok.fresh (Nat.le_of_lt (hG.above _ (List.mem_of_getElem? i1)))
end
end Ww.DS

namespace Ww
open PySem PySem.Spec PyProof.Rows L2
/-! ### xs.count(y) of texts -/
def eqs (k : Str) (v : Value) : Bool := match v with
  | .str n _ => n == k
  | _ => false
theorem eqs_count {k : Str} : ∀ {us : List Value} {ns : List Str}, StrsAre us ns → us.countP (eqs k) = ns.count k
  | _, _, .nil => rfl
  | _, _, .cons n t h => by
    have ih := eqs_count (k := k) h
    rw [List.countP_cons, List.count_cons, ih] <;> rfl
theorem eqs_at {A : Around} {s : Shared} {k : Str} {t : Tok} : ∀ {us : List Value} {ns : List Str}, StrsAre us ns → ∀ y ∈ us, SeqAt.EqAt A s y (.str k t) (eqs k y)
  | _, _, .nil => fun y hy => by cases hy
  | _, _, .cons n t' h => fun y hy => by
    rcases List.mem_cons.mp hy with e | e
    · rw [e]
      exact SeqAt.EqAt.str_str n t' k t
    · exact eqs_at h y e
section
variable {X : Cx}
def rCntS (K : PySem.W.Frag) : V → List V → Hp → VK → Prop := fun x xs H Q => ∃ (p : Addr) (ns : List Str) (k : Str), x = .ref p ∧ xs = [.str k] ∧ SqL K H p (ns.map V.str) ∧ Q (.int (ns.count k : Nat)) H
theorem mt_lcountS : MtR X "list.count" (rCntS X.K) := by
  intro pins s σ H x xs v us Q I rx rxs h
  obtain ⟨p, ns, k, rfl, rfl, hs, q⟩ := h
  cases rx
  obtain ⟨u, rfl, ru⟩ := rxs.one
  obtain ⟨t, rfl⟩ := ru
  obtain ⟨its, rv, ⟨⟨cls, dd, data, sl⟩, n, ho, hc, hdn, hd⟩, hlen⟩ := I.list hs
  simp only at hc hd
  subst hc hd
  have hi := strsAre_vals rv
  refine call_meets PySem.F.slot_list_count ⟨_, ho, rfl⟩ PySem.F.entry_list_count (PySem.F.args_list_count_2 _ _)
    (SeqAt.list_countAt p its.toArray n dd sl (.str k t) (eqs k)) ⟨ho, fun y hy => eqs_at hi y (by simpa using hy), ?_⟩
  have ec : its.toArray.toList.countP (eqs k) = ns.count k := eqs_count hi
  refine ⟨.int (ns.count k : Nat), H, I.tok _, ⟨s.toks, ?_⟩, q⟩
  show Value.int ((its.toArray.toList.countP (eqs k) : Nat) : Int) s.toks = Value.int ((ns.count k : Nat) : Int) s.toks
  rw [ec]
end
/-- two keywords, the other way about -/
theorem kb_two {K : PySem.W.Frag} {x qual y z : Str} {st : Stmt} {f : Addr} {fd : FuncData} (F : Fun K x qual st f fd)
    (h : ∀ (kV doc pm : Value) (an : Option Addr) (cdv ct u v : Value), bindArgs (PySem.W.fnOf x qual (defArgs st) (defBody st) (defScope st) .none kV doc pm an cdv ct) ⟨[], [(z, u), (y, v)]⟩ = pure [(y, v), (z, u)]) :
    KB0 K fd [y, z] [z, y] (fun ws => ws.reverse) (fun zs => zs.reverse) := by
  obtain ⟨oc, od, kV, doc, pm, an, cdv, ct, osl, rfl, lk, hcd⟩ := F.ex
  refine ⟨fun s ws hl => ?_, fun r => ?_⟩
  · match ws, hl with
    | [u, v], _ => exact .of_eq (h kV doc pm an cdv ct u v)
  · have go : ∀ {zs : List V} {ws : List Value}, Vals zs ws → ∀ {zs2 : List V} {ws2 : List Value}, Vals zs2 ws2 → Vals (zs.reverse ++ zs2) (ws.reverse ++ ws2) := by
      intro zs ws r
      induction r with
      | nil => exact fun r2 => r2
      | cons a b ih =>
        intro zs2 ws2 r2
        rw [List.reverse_cons, List.reverse_cons, List.append_assoc, List.append_assoc]
        exact ih (.cons a r2)
    have := go r .nil
    rw [List.append_nil, List.append_nil] at this
    exact this
/-! ### kinds alike -/
theorem kd_eqv : ∀ a b : Kd, PyData.eqv a.dat b.dat = true ↔ a = b
  | .pl s, .pl t => by
    show ((Str.ofString "plain" == Str.ofString "plain") && ((s == t) && true)) = true ↔ _
    rw [beq_self_eq_true, Bool.true_and, Bool.and_true, beq_iff_eq, Kd.pl.injEq]
  | .nd f a b, .nd g c d => by
    show ((f == g) && (PyData.eqv a.dat c.dat && (PyData.eqv b.dat d.dat && true))) = true ↔ _
    rw [Bool.and_true, Bool.and_eq_true, Bool.and_eq_true, beq_iff_eq, kd_eqv a c, kd_eqv b d, Kd.nd.injEq]
  | .pl s, .nd g c d => by
    refine ⟨fun h => ?_, fun h => nomatch h⟩
    have : ((Str.ofString "plain" == g) && (PyData.eqv (.str s) c.dat && false)) = true := h
    simp at this
  | .nd f a b, .pl t => by
    refine ⟨fun h => ?_, fun h => nomatch h⟩
    have : ((f == Str.ofString "plain") && (PyData.eqv a.dat (.str t) && false)) = true := h
    simp at this
/-! ### how a kind is another one -/
def prs : Kd → Kd → Option (List (Str × Kd))
  | .pl s, o => some [(s, o)]
  | .nd _ _ _, .pl _ => none
  | .nd f a b, .nd g c d => if f = g then (match prs a c, prs b d with
    | some x, some y => some (x ++ y)
    | _, _ => none) else none
def Con (l : List (Str × Kd)) : Prop := ∀ s x y, (s, x) ∈ l → (s, y) ∈ l → x = y
theorem Con.sub {l m : List (Str × Kd)} (h : Con m) (e : ∀ x ∈ l, x ∈ m) : Con l := fun s x y a b => h s x y (e _ a) (e _ b)
/-- a table: each name once -/
def Good (t : List (Str × Kd)) : Prop := (t.map (·.1)).Nodup
theorem nodup_con : ∀ {t : List (Str × Kd)}, (t.map (·.1)).Nodup → Con t
  | [], _, s, x, y, a, _ => nomatch a
  | p :: t, h, s, x, y, a, b => by
    rw [List.map_cons, List.nodup_cons] at h
    rcases List.mem_cons.mp a with a | a
    · rcases List.mem_cons.mp b with b | b
      · have e := a.trans b.symm
        exact (Prod.mk.inj e).2
      · exact absurd (by rw [← a]; exact List.mem_map_of_mem (f := (·.1)) b) h.1
    · rcases List.mem_cons.mp b with b | b
      · exact absurd (by rw [← b]; exact List.mem_map_of_mem (f := (·.1)) a) h.1
      · exact nodup_con h.2 s x y a b
/-- what the matching says, from a table -/
def Mat (k o : Kd) (t : List (Str × Kd)) (r : Bool) (t' : List (Str × Kd)) : Prop :=
  (r = true → ∃ ps, prs k o = some ps ∧ Con (t ++ ps) ∧ ∀ x, x ∈ t' ↔ x ∈ t ++ ps) ∧ (r = false → ∀ ps, prs k o = some ps → ¬ Con (t ++ ps))
/-- the table in the heap -/
def TabAt (H : Hp) (es : List (Str × Addr)) (t : List (Str × Kd)) : Prop := All2 (fun (e : Str × Addr) (x : Str × Kd) => e.1 = x.1 ∧ KAt H (.ref e.2) x.2) es t
theorem TabAt.mono {H H' : Hp} {es : List (Str × Addr)} {t : List (Str × Kd)} (e : Tps H H') (h : TabAt H es t) : TabAt H' es t := All2.mono (fun _ _ h => ⟨h.1, h.2.mono e⟩) h
theorem KAt.ref {H : Hp} {v : V} : ∀ {k : Kd}, KAt H v k → ∃ p, v = .ref p
  | .pl _, ⟨p, e, _⟩ => ⟨p, e⟩
  | .nd _ _ _, ⟨p, _, _, e, _⟩ => ⟨p, e⟩
theorem TabAt.keys : ∀ {H : Hp} {es : List (Str × Addr)} {t : List (Str × Kd)}, TabAt H es t → es.map (·.1) = t.map (·.1)
  | _, [], [], _ => rfl
  | _, _ :: _, _ :: _, h => by rw [List.map_cons, List.map_cons, h.1.1, TabAt.keys h.2]
  | _, [], _ :: _, h => h.elim
  | _, _ :: _, [], h => h.elim
/-- what the table holds at a name -/
theorem TabAt.val {H : Hp} : ∀ {es : List (Str × Addr)} {t : List (Str × Kd)} (s : Str), TabAt H es t →
    (∃ p k, valV (es.map DS.entS) (.inr s) = some (.ref p) ∧ (s, k) ∈ t ∧ KAt H (.ref p) k) ∨ (valV (es.map DS.entS) (.inr s) = none ∧ s ∉ t.map (·.1))
  | [], [], s, _ => .inr ⟨rfl, by simp⟩
  | e :: es, x :: t, s, ⟨⟨h1, h2⟩, h3⟩ => by
    rw [List.map_cons]
    by_cases c : e.1 = s
    · refine .inl ⟨e.2, x.2, valV_pos (p := DS.entS e) (by show (Sum.inr e.1 : L2.Key) = _; rw [c]), ?_, h2⟩
      have : (s, x.2) = x := by rw [← c, h1]
      rw [this]
      exact List.mem_cons_self
    · have n : ¬ (DS.entS e).1 = (Sum.inr s : L2.Key) := fun z => c (Sum.inr.inj z)
      rw [valV_neg n]
      rcases TabAt.val s h3 with ⟨p, k, a, b, d⟩ | ⟨a, b⟩
      · exact .inl ⟨p, k, a, List.mem_cons_of_mem _ b, d⟩
      · refine .inr ⟨a, ?_⟩
        rw [List.map_cons, List.mem_cons, not_or]
        exact ⟨fun z => c (h1.trans z.symm), b⟩
  | [], _ :: _, _, h => h.elim
  | _ :: _, [], _, h => h.elim
/-- sorted(set(xs)) in one -/
theorem set_sorted {K : PySem.W.Frag} {P : Program} {w : World} {l : Addr} {xs : List Str} {H : Hp} {Q : VK} (h : SqL K H l (xs.map V.str)) (hz : xs.length ≤ 60)
    (q : ∀ ss p H', Same H H' → H p = none → Srt xs ss → H' p = some (.lst (ss.map V.str)) → Q (.ref p) H') : rSetS K P w [.ref l] H (fun v H1 => rSortS P w [v] H1 Q) := by
  refine ⟨l, xs, rfl, h, by omega, fun p hp => ?_⟩
  have l2 := dedup_len xs []
  rw [List.length_nil] at l2
  refine ⟨p, _, rfl, upd_same, by omega, fun ss p3 hs hp3 => ?_⟩
  have e := same_new hp (SetSO P w p (dedup [] xs))
  exact q ss p3 _ (e.trans (same_new hp3 _)) (e.free hp3) hs.of_dedup upd_same
theorem new_at {H : Hp} {p : Addr} (_h : H p = none) (o : HO) : upd H p o p = some o := upd_same
end Ww

namespace Ww
open PySem PySem.Spec PyProof.Rows L2
theorem hu65 {A : Around} {k : Nat} (hr : Room k A) : A.units + 65 < cLine := by
  have := hr.un
  omega
/-! ### pairs of kinds, alike -/
def pd (x : Kd × Kd) : PyData := .tuple [x.1.dat, x.2.dat]
theorem pd_eqv (x y : Kd × Kd) : PyData.eqv (pd x) (pd y) = true ↔ x = y := by
  obtain ⟨a, b⟩ := x
  obtain ⟨c, d⟩ := y
  show (PyData.eqv a.dat c.dat && (PyData.eqv b.dat d.dat && true)) = true ↔ _
  rw [Bool.and_true, Bool.and_eq_true, kd_eqv, kd_eqv, Prod.mk.injEq]
def same2 (x y : Kd × Kd) : Bool := PyData.eqv (pd y) (pd x)
theorem same2_iff {x y : Kd × Kd} : same2 x y = true ↔ y = x := pd_eqv y x
def idxP (p : List (Kd × Kd)) (x : Kd × Kd) : Nat := p.findIdx (same2 x)
def addP (p : List (Kd × Kd)) (x : Kd × Kd) : List (Kd × Kd) := if p.any (same2 x) then p else p ++ [x]
theorem addP_mem (p : List (Kd × Kd)) (x : Kd × Kd) : x ∈ addP p x := by
  unfold addP
  by_cases h : p.any (same2 x) = true
  · rw [if_pos h]
    obtain ⟨y, hy, e⟩ := List.any_eq_true.mp h
    rw [← same2_iff.1 e]
    exact hy
  · rw [if_neg h]
    exact List.mem_append_right _ (List.mem_singleton.mpr rfl)
theorem addP_len (p : List (Kd × Kd)) (x : Kd × Kd) : (addP p x).length ≤ p.length + 1 := by
  unfold addP
  split
  · omega
  · rw [List.length_append]
    exact Nat.le_refl _
theorem addP_ext (p : List (Kd × Kd)) (x : Kd × Kd) : ∃ q, addP p x = p ++ q := by
  unfold addP
  split
  · exact ⟨[], (List.append_nil p).symm⟩
  · exact ⟨[x], rfl⟩
theorem idxP_lt {p : List (Kd × Kd)} {x : Kd × Kd} (h : x ∈ p) : idxP p x < p.length := List.findIdx_lt_length_of_exists ⟨x, h, same2_iff.2 rfl⟩
theorem idxP_app {p : List (Kd × Kd)} {x : Kd × Kd} (h : x ∈ p) (q : List (Kd × Kd)) : idxP (p ++ q) x = idxP p x := by
  have l := idxP_lt h
  unfold idxP at l ⊢
  rw [List.findIdx_append, if_pos l]
def letAt (i : Nat) : Str := ⟨#[97 + i]⟩
theorem letAt_let {i : Nat} (h : i < 26) : Let (letAt i) := ⟨97 + i, rfl, by omega, by omega⟩
/-- the shared form of two kinds -/
def shr : Kd → Kd → List (Kd × Kd) → Kd × List (Kd × Kd)
  | .nd f a b, .nd g c d, p => if f = g then (.nd f (shr a c p).1 (shr b d (shr a c p).2).1, (shr b d (shr a c p).2).2) else (.pl (letAt (idxP (addP p (.nd f a b, .nd g c d)) (.nd f a b, .nd g c d))), addP p (.nd f a b, .nd g c d))
  | .pl s, o, p => (.pl (letAt (idxP (addP p (.pl s, o)) (.pl s, o))), addP p (.pl s, o))
  | .nd f a b, .pl t, p => (.pl (letAt (idxP (addP p (.nd f a b, .pl t)) (.nd f a b, .pl t))), addP p (.nd f a b, .pl t))
theorem shr_ext : ∀ (k o : Kd) (p : List (Kd × Kd)), ∃ q, (shr k o p).2 = p ++ q
  | .pl s, o, p => addP_ext p _
  | .nd f a b, .pl t, p => addP_ext p _
  | .nd f a b, .nd g c d, p => by
    unfold shr
    by_cases h : f = g
    · rw [if_pos h]
      obtain ⟨q1, e1⟩ := shr_ext a c p
      obtain ⟨q2, e2⟩ := shr_ext b d (shr a c p).2
      refine ⟨q1 ++ q2, ?_⟩
      show (shr b d (shr a c p).2).2 = _
      rw [e2, e1, List.append_assoc]
    · rw [if_neg h]
      exact addP_ext p _
theorem shr_len : ∀ (k o : Kd) (p : List (Kd × Kd)), (shr k o p).2.length ≤ p.length + k.letters.length
  | .pl s, o, p => addP_len p _
  | .nd f a b, .pl t, p => by
    have h := addP_len p (.nd f a b, .pl t)
    have := (Kd.nd f a b).letters_pos
    show (addP p _).length ≤ _
    omega
  | .nd f a b, .nd g c d, p => by
    unfold shr
    by_cases h : f = g
    · rw [if_pos h]
      have h1 := shr_len a c p
      have h2 := shr_len b d (shr a c p).2
      show (shr b d (shr a c p).2).2.length ≤ p.length + (a.letters ++ b.letters).length
      rw [List.length_append]
      omega
    · rw [if_neg h]
      have h := addP_len p (.nd f a b, .nd g c d)
      have := (Kd.nd f a b).letters_pos
      show (addP p _).length ≤ _
      omega
/-- the rows of the shared form, from outside, each form ahead of its parts -/
def rw2 : Kd → Kd → List (Str ⊕ (Kd × Kd))
  | .nd f a b, .nd g c d => if f = g then .inl f :: (rw2 a c ++ rw2 b d) else [.inr (.nd f a b, .nd g c d)]
  | .pl s, o => [.inr (.pl s, o)]
  | .nd f a b, .pl t => [.inr (.nd f a b, .pl t)]
/-- all pairs of rows -/
def allP (p : List (Kd × Kd)) : List (Str ⊕ (Kd × Kd)) → List (Kd × Kd)
  | [] => p
  | .inl _ :: r => allP p r
  | .inr x :: r => allP (addP p x) r
theorem allP_app : ∀ (r1 r2 : List (Str ⊕ (Kd × Kd))) (p : List (Kd × Kd)), allP p (r1 ++ r2) = allP (allP p r1) r2
  | [], _, _ => rfl
  | .inl _ :: r1, r2, p => allP_app r1 r2 p
  | .inr x :: r1, r2, p => allP_app r1 r2 (addP p x)
theorem shr_all : ∀ (k o : Kd) (p : List (Kd × Kd)), (shr k o p).2 = allP p (rw2 k o)
  | .pl s, o, p => rfl
  | .nd f a b, .pl t, p => rfl
  | .nd f a b, .nd g c d, p => by
    unfold shr rw2
    by_cases h : f = g
    · rw [if_pos h, if_pos h]
      show (shr b d (shr a c p).2).2 = allP p (rw2 a c ++ rw2 b d)
      rw [allP_app, shr_all b d, shr_all a c]
    · rw [if_neg h, if_neg h]
      rfl
/-- the rows folded from the last one on: what stands on the stack -/
def mk2 (p : List (Kd × Kd)) : List (Str ⊕ (Kd × Kd)) → List Kd → List Kd
  | [], st => st
  | .inr x :: r, st => mk2 p r (.pl (letAt (idxP p x)) :: st)
  | .inl f :: r, a :: b :: st => mk2 p r (.nd f a b :: st)
  | .inl _ :: _, st => st
def tree2 (p : List (Kd × Kd)) : Kd → Kd → Kd
  | .nd f a b, .nd g c d => if f = g then .nd f (tree2 p a c) (tree2 p b d) else .pl (letAt (idxP p (.nd f a b, .nd g c d)))
  | .pl s, o => .pl (letAt (idxP p (.pl s, o)))
  | .nd f a b, .pl t => .pl (letAt (idxP p (.nd f a b, .pl t)))
theorem mk2_tree (p : List (Kd × Kd)) : ∀ (k o : Kd) (r : List (Str ⊕ (Kd × Kd))) (st : List Kd), mk2 p ((rw2 k o).reverse ++ r) st = mk2 p r (tree2 p k o :: st)
  | .pl s, o, r, st => rfl
  | .nd f a b, .pl t, r, st => rfl
  | .nd f a b, .nd g c d, r, st => by
    unfold rw2 tree2
    by_cases h : f = g
    · rw [if_pos h, if_pos h, List.reverse_cons, List.reverse_append, List.append_assoc, List.append_assoc, mk2_tree p b d, mk2_tree p a c]
      rfl
    · rw [if_neg h, if_neg h]
      rfl
theorem shr_tree : ∀ (k o : Kd) (p r : List (Kd × Kd)), (shr k o p).1 = tree2 ((shr k o p).2 ++ r) k o
  | .pl s, o, p, r => by
    show Kd.pl (letAt (idxP (addP p _) _)) = Kd.pl (letAt (idxP (addP p _ ++ r) _))
    rw [idxP_app (addP_mem p _)]
  | .nd f a b, .pl t, p, r => by
    show Kd.pl (letAt (idxP (addP p _) _)) = Kd.pl (letAt (idxP (addP p _ ++ r) _))
    rw [idxP_app (addP_mem p _)]
  | .nd f a b, .nd g c d, p, r => by
    by_cases h : f = g
    · have e : shr (.nd f a b) (.nd g c d) p = (.nd f (shr a c p).1 (shr b d (shr a c p).2).1, (shr b d (shr a c p).2).2) := by
        rw [shr, if_pos h]
      have e2 : ∀ P, tree2 P (.nd f a b) (.nd g c d) = .nd f (tree2 P a c) (tree2 P b d) := fun P => by rw [tree2, if_pos h]
      obtain ⟨q2, e3⟩ := shr_ext b d (shr a c p).2
      rw [e, e2]
      show Kd.nd f _ _ = _
      rw [← shr_tree b d (shr a c p).2 r, e3, List.append_assoc, ← shr_tree a c p (q2 ++ r)]
    · have e : shr (.nd f a b) (.nd g c d) p = (.pl (letAt (idxP (addP p (.nd f a b, .nd g c d)) (.nd f a b, .nd g c d))), addP p (.nd f a b, .nd g c d)) := by
        rw [shr, if_neg h]
      have e2 : ∀ P, tree2 P (.nd f a b) (.nd g c d) = .pl (letAt (idxP P (.nd f a b, .nd g c d))) := fun P => by rw [tree2, if_neg h]
      rw [e, e2]
      show Kd.pl (letAt (idxP (addP p _) _)) = Kd.pl (letAt (idxP (addP p _ ++ r) _))
      rw [idxP_app (addP_mem p _)]
/-- what the law works out: the rows, the pairs, the fold -/
theorem due_shr (k o : Kd) : mk2 (allP [] (rw2 k o)) (rw2 k o).reverse [] = [(shr k o []).1] := by
  have h := mk2_tree (allP [] (rw2 k o)) k o [] []
  rw [List.append_nil] at h
  have t := shr_tree k o [] []
  rw [List.append_nil, shr_all] at t
  rw [h, t]
  rfl
theorem abc_get {i : Nat} (h : i < 26) : (Str.ofString "abcdefghijklmnopqrstuvwxyz").cps[((i : Nat) : Int).toNat]? = some (97 + i) := by
  have e : (Str.ofString "abcdefghijklmnopqrstuvwxyz").cps.toList = List.range' 97 26 := by decide +kernel
  rw [Int.toNat_natCast, ← Array.getElem?_toList, e, List.getElem?_range' h, Nat.one_mul]
end Ww

/-! Values by content: what a def does to data and to its own lists and dicts, with no heap in sight -/
namespace Vs
open PySem PySem.Spec PyProof.Rows L2 Ww

/-- a part of a tuple of one's own: data, or a list of one's own -/
inductive El where
  | d (x : PyData)
  | l (xs : List PyData)
def El.dv : El → PyData
  | .d x => x
  | .l xs => .list xs
/-- what an expression yields: data (shared, never changed again), a list or a dict of one's own (to be changed), a tuple with such lists -/
inductive O where
  | dat (d : PyData)
  | ls (ds : List PyData)
  | dk (kvs : List (L2.Key × PyData))
  | tp (es : List El)
  | lt (ess : List (List El))
  | ll (es : List El)
/-- a slot: nothing known, a value, a value lent by the caller (its slot is not stored again), the same while it is lent on -/
inductive Sl where
  | no
  | val (o : O)
  | bor (o : O)
  | lent
abbrev En := List Sl
inductive Rs (α : Type) where
  | ok (a : α) (ρ : En)
  | er (c : Str) (o : O) (ρ : En)
  | stuck
abbrev Res := Rs O
abbrev EF := En → Res
def Rs.bind {α γ : Type} (r : Rs α) (k : α → En → Rs γ) : Rs γ := match r with
  | .ok o ρ => k o ρ
  | .er c o ρ => .er c o ρ
  | .stuck => .stuck
/-- as data, once it is shared -/
def O.dv : O → Option PyData
  | .dat d => some d
  | .ls ds => some (.list ds)
  | .dk _ => none
  | .tp es => some (.tuple (es.map El.dv))
  | .lt _ => none
  | .ll es => some (.list (es.map El.dv))

/-! ### how they stand in the heap: G the shared part -/
def DKs (K : PySem.W.Frag) (G : Hp) : List (L2.Key × V) → List (L2.Key × PyData) → Prop := All2 fun e x => e.1 = x.1 ∧ Dp K G e.2 x.2
inductive RepEls (K : PySem.W.Frag) (G H : Hp) : List V → List El → List Addr → Prop
  | nil : RepEls K G H [] [] []
  | d {v : V} {x : PyData} {vs : List V} {es : List El} {Bs : List Addr} : Dp K G v x → RepEls K G H vs es Bs → RepEls K G H (v :: vs) (.d x :: es) Bs
  | l {a : Addr} {us : List V} {xs : List PyData} {vs : List V} {es : List El} {Bs : List Addr} : G a = none → H a = some (.lst us) → DpAll K G us xs → RepEls K G H vs es Bs → RepEls K G H (.ref a :: vs) (.l xs :: es) (a :: Bs)
/-- tuples of one's own, one behind the other -/
inductive RepTs (K : PySem.W.Frag) (G H : Hp) : List V → List (List El) → List Addr → Prop
  | nil : RepTs K G H [] [] []
  | cons {t : Addr} {ws : List V} {es : List El} {B : List Addr} {vs : List V} {ess : List (List El)} {Bs : List Addr} : G t = none → H t = some (.tup ws) → RepEls K G H ws es B → RepTs K G H vs ess Bs → RepTs K G H (.ref t :: vs) (es :: ess) ((t :: B) ++ Bs)
inductive RepO (K : PySem.W.Frag) (G H : Hp) : V → O → List Addr → Prop
  | dat {v : V} {d : PyData} : Dp K G v d → RepO K G H v (.dat d) []
  | ls {a : Addr} {vs : List V} {ds : List PyData} : G a = none → H a = some (.lst vs) → DpAll K G vs ds → RepO K G H (.ref a) (.ls ds) [a]
  | dk {a : Addr} {es : List (L2.Key × V)} {kvs : List (L2.Key × PyData)} : G a = none → H a = some (.dK es) → DKs K G es kvs → RepO K G H (.ref a) (.dk kvs) [a]
  | tp {a : Addr} {vs : List V} {es : List El} {Bs : List Addr} : G a = none → H a = some (.tup vs) → RepEls K G H vs es Bs → RepO K G H (.ref a) (.tp es) (a :: Bs)
  | lt {a : Addr} {vs : List V} {ess : List (List El)} {Bs : List Addr} : G a = none → H a = some (.lst vs) → RepTs K G H vs ess Bs → RepO K G H (.ref a) (.lt ess) (a :: Bs)
  | ll {a : Addr} {vs : List V} {es : List El} {Bs : List Addr} : G a = none → H a = some (.lst vs) → RepEls K G H vs es Bs → RepO K G H (.ref a) (.ll es) (a :: Bs)
inductive RepOs (K : PySem.W.Frag) (G H : Hp) : List V → List O → List Addr → Prop
  | nil : RepOs K G H [] [] []
  | cons {v : V} {vs : List V} {o : O} {os : List O} {B Bs : List Addr} : RepO K G H v o B → RepOs K G H vs os Bs → RepOs K G H (v :: vs) (o :: os) (B ++ Bs)
inductive Slots (K : PySem.W.Frag) (G H : Hp) : L2.St → En → List Addr → Prop
  | nil : Slots K G H [] [] []
  | no {x : Option V} {σ : L2.St} {ρ : En} {As : List Addr} : Slots K G H σ ρ As → Slots K G H (x :: σ) (.no :: ρ) As
  | lent {x : Option V} {σ : L2.St} {ρ : En} {As : List Addr} : Slots K G H σ ρ As → Slots K G H (x :: σ) (.lent :: ρ) As
  | val {v : V} {o : O} {σ : L2.St} {ρ : En} {B As : List Addr} : RepO K G H v o B → Slots K G H σ ρ As → Slots K G H (some v :: σ) (.val o :: ρ) (B ++ As)
  | bor {v : V} {o : O} {σ : L2.St} {ρ : En} {B As : List Addr} : RepO K G H v o B → Slots K G H σ ρ As → Slots K G H (some v :: σ) (.bor o :: ρ) (B ++ As)
def Sub (G H : Hp) : Prop := ∀ a o, G a = some o → H a = some o
/-- what a step leaves: As is owned ahead of it, Bs behind it -/
structure Ext (G H : Hp) (As : List Addr) (G' H' : Hp) (Bs : List Addr) : Prop where
  sub : Sub G G'
  keep : ∀ a o, H a = some o → a ∉ As → H' a = some o
  frz : ∀ a, G a = none → H a ≠ none → a ∉ As → G' a = none
  own : ∀ a ∈ Bs, a ∈ As ∨ H a = none
/-- the lent slots keep their values -/
def Pin (pins σ : L2.St) (ρ : En) : Prop := σ.length = pins.length ∧ ∀ i : Nat, (ρ[i]? = some Sl.lent ∨ ∃ o, ρ[i]? = some (Sl.bor o)) → σ[i]? = pins[i]?
structure Ste (K : PySem.W.Frag) (pins : L2.St) (G H : Hp) (σ : L2.St) (ρ : En) (As : List Addr) : Prop where
  slots : Slots K G H σ ρ As
  nd : As.Nodup
  sub : Sub G H
  pin : Pin pins σ ρ

theorem Sub.refl (G : Hp) : Sub G G := fun _ _ h => h
theorem Sub.trans {G H L : Hp} (a : Sub G H) (b : Sub H L) : Sub G L := fun x o h => b x o (a x o h)
theorem Sub.same {G H : Hp} (a : Sub G H) : Same G H := a
theorem Ext.refl {G H : Hp} {As : List Addr} : Ext G H As G H As := ⟨Sub.refl G, fun _ _ h _ => h, fun _ h _ _ => h, fun _ h => .inl h⟩
/-- less is owned behind it -/
theorem Ext.less {G H : Hp} {As : List Addr} {G' H' : Hp} {Bs Cs : List Addr} (e : Ext G H As G' H' Bs) (h : ∀ a ∈ Cs, a ∈ Bs) : Ext G H As G' H' Cs :=
  ⟨e.sub, e.keep, e.frz, fun a ha => e.own a (h a ha)⟩
/-- more is owned ahead of it: T, which it does not touch -/
theorem Ext.frame {G H : Hp} {As : List Addr} {G' H' : Hp} {Bs : List Addr} (e : Ext G H As G' H' Bs) (T : List Addr) : Ext G H (T ++ As) G' H' (T ++ Bs) :=
  ⟨e.sub, fun a o h n => e.keep a o h fun z => n (List.mem_append_right _ z), fun a h1 h2 n => e.frz a h1 h2 fun z => n (List.mem_append_right _ z), fun a ha => by
    rcases List.mem_append.mp ha with z | z
    · exact .inl (List.mem_append_left _ z)
    · rcases e.own a z with y | y
      · exact .inl (List.mem_append_right _ y)
      · exact .inr y⟩
theorem Ext.trans {G H : Hp} {As : List Addr} {G1 H1 : Hp} {Bs : List Addr} {G2 H2 : Hp} {Cs : List Addr} (x : Ext G H As G1 H1 Bs) (y : Ext G1 H1 Bs G2 H2 Cs) : Ext G H As G2 H2 Cs := by
  have no : ∀ a, H a ≠ none → a ∉ As → a ∉ Bs := fun a h n z => by
    rcases x.own a z with w | w
    · exact n w
    · exact h w
  refine ⟨x.sub.trans y.sub, fun a o h n => y.keep a o (x.keep a o h n) (no a (by rw [h]; exact fun z => nomatch z) n), fun a h1 h2 n => ?_, fun a ha => ?_⟩
  · obtain ⟨o, ho⟩ := Option.ne_none_iff_exists'.mp h2
    exact y.frz a (x.frz a h1 h2 n) (by rw [x.keep a o ho n]; exact fun z => nomatch z) (no a h2 n)
  · rcases y.own a ha with z | z
    · exact x.own a z
    · by_cases hm : a ∈ As
      · exact .inl hm
      · refine .inr ?_
        cases h : H a with
        | none => rfl
        | some o => rw [x.keep a o h hm] at z; cases z
/-- as sets -/
theorem Ext.perm {G H : Hp} {As As2 : List Addr} {G' H' : Hp} {Bs Bs2 : List Addr} (e : Ext G H As G' H' Bs) (h1 : ∀ a, a ∈ As ↔ a ∈ As2) (h2 : ∀ a ∈ Bs2, a ∈ Bs) : Ext G H As2 G' H' Bs2 :=
  ⟨e.sub, fun a o h n => e.keep a o h fun z => n ((h1 a).1 z), fun a x y n => e.frz a x y fun z => n ((h1 a).1 z), fun a ha => (e.own a (h2 a ha)).imp (fun z => (h1 a).1 z) id⟩

/-! ### what stays -/
theorem DKs.mono {K : PySem.W.Frag} {G G' : Hp} (e : Sub G G') {es : List (L2.Key × V)} {kvs : List (L2.Key × PyData)} (h : DKs K G es kvs) : DKs K G' es kvs := All2.mono (fun _ _ h => ⟨h.1, dp_same e h.2⟩) h
theorem RepEls.stay {K : PySem.W.Frag} {G H G' H' : Hp} {vs : List V} {es : List El} {Bs : List Addr} (r : RepEls K G H vs es Bs) (e : Sub G G') (k : ∀ a ∈ Bs, ∀ u, H a = some u → H' a = some u) (f : ∀ a ∈ Bs, G a = none → H a ≠ none → G' a = none) : RepEls K G' H' vs es Bs := by
  induction r with
  | nil => exact .nil
  | d q _ ih => exact .d (dp_same e q) (ih k f)
  | l h1 h2 h3 _ ih => exact .l (f _ List.mem_cons_self h1 (by rw [h2]; exact fun z => nomatch z)) (k _ List.mem_cons_self _ h2) (dps_same e h3) (ih (fun a h => k a (List.mem_cons_of_mem _ h)) fun a h => f a (List.mem_cons_of_mem _ h))
theorem RepEls.there {K : PySem.W.Frag} {G H : Hp} {vs : List V} {es : List El} {Bs : List Addr} (r : RepEls K G H vs es Bs) : ∀ a ∈ Bs, H a ≠ none ∧ G a = none := by
  induction r with
  | nil => exact fun a h => nomatch h
  | d q _ ih => exact ih
  | l h1 h2 h3 _ ih =>
    intro a h
    rcases List.mem_cons.mp h with z | z
    · rw [z, h2, h1]; exact ⟨(fun z => nomatch z), rfl⟩
    · exact ih a z
theorem RepTs.stay {K : PySem.W.Frag} {G H G' H' : Hp} {vs : List V} {ess : List (List El)} {Bs : List Addr} (r : RepTs K G H vs ess Bs) (e : Sub G G') (k : ∀ a ∈ Bs, ∀ u, H a = some u → H' a = some u) (f : ∀ a ∈ Bs, G a = none → H a ≠ none → G' a = none) : RepTs K G' H' vs ess Bs := by
  induction r with
  | nil => exact .nil
  | cons h1 h2 h3 _ ih =>
    exact .cons (f _ (List.mem_append_left _ List.mem_cons_self) h1 (by rw [h2]; exact fun z => nomatch z)) (k _ (List.mem_append_left _ List.mem_cons_self) _ h2)
      (h3.stay e (fun a h => k a (List.mem_append_left _ (List.mem_cons_of_mem _ h))) fun a h => f a (List.mem_append_left _ (List.mem_cons_of_mem _ h))) (ih (fun a h => k a (List.mem_append_right _ h)) fun a h => f a (List.mem_append_right _ h))
theorem RepTs.there {K : PySem.W.Frag} {G H : Hp} {vs : List V} {ess : List (List El)} {Bs : List Addr} (r : RepTs K G H vs ess Bs) : ∀ a ∈ Bs, H a ≠ none ∧ G a = none := by
  induction r with
  | nil => exact fun a h => nomatch h
  | cons h1 h2 h3 _ ih =>
    intro a h
    rcases List.mem_append.mp h with z | z
    · rcases List.mem_cons.mp z with w | w
      · rw [w, h2, h1]; exact ⟨(fun z => nomatch z), rfl⟩
      · exact h3.there a w
    · exact ih a z
/-- a value that the step does not own stays -/
theorem RepO.stay {K : PySem.W.Frag} {G H G' H' : Hp} {v : V} {o : O} {Bs : List Addr} (r : RepO K G H v o Bs) (e : Sub G G') (k : ∀ a ∈ Bs, ∀ u, H a = some u → H' a = some u) (f : ∀ a ∈ Bs, G a = none → H a ≠ none → G' a = none) : RepO K G' H' v o Bs := by
  cases r with
  | dat d => exact .dat (dp_same e d)
  | ls h1 h2 h3 => exact .ls (f _ List.mem_cons_self h1 (by rw [h2]; exact fun z => nomatch z)) (k _ List.mem_cons_self _ h2) (dps_same e h3)
  | dk h1 h2 h3 => exact .dk (f _ List.mem_cons_self h1 (by rw [h2]; exact fun z => nomatch z)) (k _ List.mem_cons_self _ h2) (h3.mono e)
  | tp h1 h2 h3 => exact .tp (f _ List.mem_cons_self h1 (by rw [h2]; exact fun z => nomatch z)) (k _ List.mem_cons_self _ h2) (h3.stay e (fun a h => k a (List.mem_cons_of_mem _ h)) fun a h => f a (List.mem_cons_of_mem _ h))
  | lt h1 h2 h3 => exact .lt (f _ List.mem_cons_self h1 (by rw [h2]; exact fun z => nomatch z)) (k _ List.mem_cons_self _ h2) (h3.stay e (fun a h => k a (List.mem_cons_of_mem _ h)) fun a h => f a (List.mem_cons_of_mem _ h))
  | ll h1 h2 h3 => exact .ll (f _ List.mem_cons_self h1 (by rw [h2]; exact fun z => nomatch z)) (k _ List.mem_cons_self _ h2) (h3.stay e (fun a h => k a (List.mem_cons_of_mem _ h)) fun a h => f a (List.mem_cons_of_mem _ h))
theorem RepO.there {K : PySem.W.Frag} {G H : Hp} {v : V} {o : O} {Bs : List Addr} (r : RepO K G H v o Bs) : ∀ a ∈ Bs, H a ≠ none ∧ G a = none := by
  cases r with
  | dat d => exact fun a h => nomatch h
  | ls h1 h2 h3 => exact fun a h => by rw [List.mem_singleton.mp h, h2, h1]; exact ⟨(fun z => nomatch z), rfl⟩
  | dk h1 h2 h3 => exact fun a h => by rw [List.mem_singleton.mp h, h2, h1]; exact ⟨(fun z => nomatch z), rfl⟩
  | tp h1 h2 h3 =>
    intro a h
    rcases List.mem_cons.mp h with z | z
    · rw [z, h2, h1]; exact ⟨(fun z => nomatch z), rfl⟩
    · exact h3.there a z
  | lt h1 h2 h3 =>
    intro a h
    rcases List.mem_cons.mp h with z | z
    · rw [z, h2, h1]; exact ⟨(fun z => nomatch z), rfl⟩
    · exact h3.there a z
  | ll h1 h2 h3 =>
    intro a h
    rcases List.mem_cons.mp h with z | z
    · rw [z, h2, h1]; exact ⟨(fun z => nomatch z), rfl⟩
    · exact h3.there a z
theorem RepO.ext {K : PySem.W.Frag} {G H G' H' : Hp} {As Cs : List Addr} {v : V} {o : O} {Bs : List Addr} (r : RepO K G H v o Bs) (e : Ext G H As G' H' Cs) (d : ∀ a ∈ Bs, a ∉ As) : RepO K G' H' v o Bs :=
  r.stay e.sub (fun a h u q => e.keep a u q (d a h)) (fun a h x y => e.frz a x y (d a h))
theorem RepOs.there {K : PySem.W.Frag} {G H : Hp} {vs : List V} {os : List O} {Bs : List Addr} (r : RepOs K G H vs os Bs) : ∀ a ∈ Bs, H a ≠ none ∧ G a = none := by
  induction r with
  | nil => exact fun a h => nomatch h
  | cons r _ ih =>
    intro a h
    rcases List.mem_append.mp h with z | z
    · exact r.there a z
    · exact ih a z
theorem RepOs.ext {K : PySem.W.Frag} {G H G' H' : Hp} {As Cs : List Addr} {vs : List V} {os : List O} {Bs : List Addr} (r : RepOs K G H vs os Bs) (e : Ext G H As G' H' Cs) (d : ∀ a ∈ Bs, a ∉ As) : RepOs K G' H' vs os Bs := by
  induction r with
  | nil => exact .nil
  | cons r _ ih => exact .cons (r.ext e fun a h => d a (List.mem_append_left _ h)) (ih fun a h => d a (List.mem_append_right _ h))
theorem Slots.there {K : PySem.W.Frag} {G H : Hp} {σ : L2.St} {ρ : En} {Bs : List Addr} (r : Slots K G H σ ρ Bs) : ∀ a ∈ Bs, H a ≠ none ∧ G a = none := by
  induction r with
  | nil => exact fun a h => nomatch h
  | no _ ih => exact ih
  | lent _ ih => exact ih
  | val r _ ih =>
    intro a h
    rcases List.mem_append.mp h with z | z
    · exact r.there a z
    · exact ih a z
  | bor r _ ih =>
    intro a h
    rcases List.mem_append.mp h with z | z
    · exact r.there a z
    · exact ih a z
theorem Slots.ext {K : PySem.W.Frag} {G H G' H' : Hp} {As Cs : List Addr} {σ : L2.St} {ρ : En} {Bs : List Addr} (r : Slots K G H σ ρ Bs) (e : Ext G H As G' H' Cs) (d : ∀ a ∈ Bs, a ∉ As) : Slots K G' H' σ ρ Bs := by
  induction r with
  | nil => exact .nil
  | no _ ih => exact .no (ih d)
  | lent _ ih => exact .lent (ih d)
  | val r _ ih => exact .val (r.ext e fun a h => d a (List.mem_append_left _ h)) (ih fun a h => d a (List.mem_append_right _ h))
  | bor r _ ih => exact .bor (r.ext e fun a h => d a (List.mem_append_left _ h)) (ih fun a h => d a (List.mem_append_right _ h))
theorem Slots.len {K : PySem.W.Frag} {G H : Hp} {σ : L2.St} {ρ : En} {Bs : List Addr} (r : Slots K G H σ ρ Bs) : σ.length = ρ.length := by
  induction r with
  | nil => rfl
  | no _ ih => simp [ih]
  | lent _ ih => simp [ih]
  | val _ _ ih => simp [ih]
  | bor _ _ ih => simp [ih]
theorem Ste.ext {K : PySem.W.Frag} {pins : L2.St} {G H G' H' : Hp} {As Bs Cs : List Addr} {σ : L2.St} {ρ : En} (s : Ste K pins G H σ ρ Bs) (e : Ext G H As G' H' Cs) (d : ∀ a ∈ Bs, a ∉ As) (sub : Sub G' H') : Ste K pins G' H' σ ρ Bs :=
  ⟨s.slots.ext e d, s.nd, sub, s.pin⟩
end Vs

namespace Vs
open PySem PySem.Spec PyProof.Rows L2 Ww

/-- what is wanted of an exception: its class, its own dict, the slots, the heap -/
abbrev RK := Str → Addr → L2.St → Hp → Prop
/-- an exception as it flies -/
def ErOk (K : PySem.W.Frag) (R : RK) (pins : L2.St) (G H : Hp) (As : List Addr) (c : Str) (o : O) (ρ : En) : Prop :=
  ∀ σ' G' H' As' v Bs d, Ext G H As G' H' (Bs ++ As') → (Bs ++ As').Nodup → RepO K G' H' v o Bs → Ste K pins G' H' σ' ρ As' → H' d = some (.xd [("value", v)]) → R c d σ' H'
/-- behind a step: what was yielded stands for a, Q is reached -/
def Kont {α β : Type} (rel : Hp → Hp → β → α → List Addr → Prop) (K : PySem.W.Frag) (R : RK) (pins σ : L2.St) (G H : Hp) (As : List Addr) (Q : β → Hp → Prop) : Rs α → Prop
  | .ok o ρ' => ∀ G' H' As' v Bs, Ext G H As G' H' (Bs ++ As') → (Bs ++ As').Nodup → rel G' H' v o Bs → Ste K pins G' H' σ ρ' As' → Q v H'
  | .er c o ρ' => ErOk K R pins G H As c o ρ'
  | .stuck => False
def lift {α β : Type} (rel : L2.St → Hp → Hp → β → α → List Addr → Prop) (K : PySem.W.Frag) (R : RK) (f : En → Rs α) : L2.St → Hp → (β → Hp → Prop) → Prop :=
  fun σ H Q => ∃ pins G ρ As, Ste K pins G H σ ρ As ∧ Kont (rel σ) K R pins σ G H As Q (f ρ)
abbrev relO (K : PySem.W.Frag) : L2.St → Hp → Hp → V → O → List Addr → Prop := fun _ => RepO K
abbrev KontE (K : PySem.W.Frag) (R : RK) (pins σ : L2.St) (G H : Hp) (As : List Addr) (Q : VK) (r : Res) : Prop := Kont (RepO K) K R pins σ G H As Q r
abbrev liftE (K : PySem.W.Frag) (R : RK) (f : EF) : TE := lift (relO K) K R f
/-- an operand that is read alone: a value, or a slot -/
inductive Opd where
  | tmp (o : O)
  | slot (i : Nat)
def Sl.get : Sl → Option O
  | .val o => some o
  | .bor o => some o
  | _ => none
def getS (ρ : En) (i : Nat) : Option O := (ρ[i]?).bind Sl.get
def Opd.get (ρ : En) : Opd → Option O
  | .tmp o => some o
  | .slot i => getS ρ i
abbrev ResP := Rs Opd
abbrev PF := En → ResP
inductive RepP (K : PySem.W.Frag) (G H : Hp) (σ : L2.St) : V → Opd → List Addr → Prop
  | tmp {v : V} {o : O} {Bs : List Addr} : RepO K G H v o Bs → RepP K G H σ v (.tmp o) Bs
  | slot {v : V} {i : Nat} : σ[i]? = some (some v) → RepP K G H σ v (.slot i) []
abbrev relP (K : PySem.W.Frag) : L2.St → Hp → Hp → V → Opd → List Addr → Prop := fun σ G H => RepP K G H σ
abbrev liftP (K : PySem.W.Frag) (R : RK) (f : PF) : TE := lift (relP K) K R f
abbrev relB : L2.St → Hp → Hp → Bool → Bool → List Addr → Prop := fun _ _ _ b c Bs => b = c ∧ Bs = []
abbrev TF := En → Rs Bool
abbrev liftT (K : PySem.W.Frag) (R : RK) (f : TF) : TT := lift relB K R f
abbrev relA (K : PySem.W.Frag) : L2.St → Hp → Hp → List V → List O → List Addr → Prop := fun _ => RepOs K
abbrev AF := En → Rs (List O)
abbrev liftA (K : PySem.W.Frag) (R : RK) (f : AF) : TA := lift (relA K) K R f

theorem PE.weak {X : Cx} {e : Expr} {t t' : TE} (h : PE X e t) (k : ∀ σ H Q, t' σ H Q → t σ H Q) : PE X e t' := ⟨fun pins s σ H Q I q => h.run pins s σ H Q I (k σ H Q q)⟩
theorem PT.weak {X : Cx} {e : Expr} {t t' : TT} (h : PT X e t) (k : ∀ σ H Q, t' σ H Q → t σ H Q) : PT X e t' := ⟨fun pins s σ H Q I q => h.run pins s σ H Q I (k σ H Q q)⟩
theorem PA.weak {X : Cx} {e : List Expr} {t t' : TA} (h : PA X e t) (k : ∀ σ H Q, t' σ H Q → t σ H Q) : PA X e t' := ⟨fun pos pins s σ H Q I q => h.run pos pins s σ H Q I (k σ H Q q)⟩
theorem PS.weak {X : Cx} {e : Stmt} {t t' : TS} (h : PS X e t) (k : ∀ D σ H, t' D σ H → t D σ H) : PS X e t' := ⟨fun pins s σ H D I q => h.run pins s σ H D I (k D σ H q)⟩
theorem PSs.weak {X : Cx} {e : List Stmt} {t t' : TS} (h : PSs X e t) (k : ∀ D σ H, t' D σ H → t D σ H) : PSs X e t' := ⟨fun pins s σ H D I q => h.run pins s σ H D I (k D σ H q)⟩

section
variable {K : PySem.W.Frag} {R : RK} {pins σ : L2.St} {G H G' H' : Hp} {As Bs Cs T : List Addr} {Q : VK}
theorem ErOk.re {c : Str} {o : O} {ρ : En} (k : ErOk K R pins G H As c o ρ) (e : Ext G H As G' H' Cs) : ErOk K R pins G' H' Cs c o ρ :=
  fun σ' G2 H2 As2 v Bs d e2 nd r st hd => k σ' G2 H2 As2 v Bs d (e.trans e2) nd r st hd
theorem Kont.re {α β : Type} {rel : Hp → Hp → β → α → List Addr → Prop} {Q : β → Hp → Prop} {r : Rs α} (k : Kont rel K R pins σ G H As Q r) (e : Ext G H As G' H' Cs) : Kont rel K R pins σ G' H' Cs Q r := by
  cases r with
  | ok o ρ => exact fun G2 H2 As2 v Bs e2 nd r st => k G2 H2 As2 v Bs (e.trans e2) nd r st
  | er c o ρ => exact ErOk.re k e
  | stuck => exact k
/-- temps beside the frame: what they own is not in the step's way -/
theorem nd_disj {T As : List Addr} (h : (T ++ As).Nodup) : ∀ a ∈ T, a ∉ As := fun a h1 h2 => (List.nodup_append.mp h).2.2 a h1 a h2 rfl
theorem nd_frame (hn : (T ++ As).Nodup) (ht : ∀ a ∈ T, H a ≠ none) (e : Ext G H As G' H' Cs) (hc : Cs.Nodup) : (T ++ Cs).Nodup := by
  refine List.nodup_append.mpr ⟨(List.nodup_append.mp hn).1, hc, fun a h1 b h2 z => ?_⟩
  subst z
  rcases e.own a h2 with w | w
  · exact nd_disj hn a h1 w
  · exact ht a h1 w
/-- T is owned, too, and is let go -/
theorem Ext.drop (e : Ext G H As G' H' Bs) (T : List Addr) : Ext G H (T ++ As) G' H' Bs := (e.frame T).less fun a h => List.mem_append_right _ h
theorem ErOk.drop {c : Str} {o : O} {ρ : En} (k : ErOk K R pins G H (T ++ As) c o ρ) : ErOk K R pins G H As c o ρ :=
  fun σ' G2 H2 As2 v Bs d e2 nd r st hd => k σ' G2 H2 As2 v Bs d (e2.drop T) nd r st hd
theorem Kont.bind {α β γ δ : Type} {rel : Hp → Hp → β → α → List Addr → Prop} {rel2 : Hp → Hp → δ → γ → List Addr → Prop} {Q : δ → Hp → Prop} {r : Rs α} {k : α → En → Rs γ} {Q1 : β → Hp → Prop} (nd : (T ++ As).Nodup) (ht : ∀ a ∈ T, H a ≠ none) (h : Kont rel2 K R pins σ G H (T ++ As) Q (r.bind k))
    (step : ∀ o ρ G' H' As' v Bs, Ext G H As G' H' (Bs ++ As') → (T ++ (Bs ++ As')).Nodup → rel G' H' v o Bs → Ste K pins G' H' σ ρ As' → Kont rel2 K R pins σ G' H' (T ++ (Bs ++ As')) Q (k o ρ) → Q1 v H') : Kont rel K R pins σ G H As Q1 r := by
  cases r with
  | ok o ρ => exact fun G2 H2 As2 v Bs e2 nd2 r2 st2 => step o ρ G2 H2 As2 v Bs e2 (nd_frame nd ht e2 nd2) r2 st2 (Kont.re h (e2.frame T))
  | er c o ρ => exact ErOk.drop h
  | stuck => exact h
theorem RepP.there {v : V} {p : Opd} {Bs : List Addr} (r : RepP K G H σ v p Bs) : ∀ a ∈ Bs, H a ≠ none := by
  cases r with
  | tmp r => exact fun a h => (r.there a h).1
  | slot _ => exact fun a h => nomatch h
theorem RepP.ext {v : V} {p : Opd} {Bs : List Addr} (r : RepP K G H σ v p Bs) (e : Ext G H As G' H' Cs) (d : ∀ a ∈ Bs, a ∉ As) : RepP K G' H' σ v p Bs := by
  cases r with
  | tmp r => exact .tmp (r.ext e d)
  | slot h => exact .slot h
theorem Slots.at {v : V} {o : O} : ∀ {σ : L2.St} {ρ : En} {As : List Addr} {i : Nat}, Slots K G H σ ρ As → σ[i]? = some (some v) → getS ρ i = some o → ∃ Bs, RepO K G H v o Bs ∧ ∀ a ∈ Bs, a ∈ As
  | _, _, _, i, .nil, h, _ => by simp at h
  | _, _, _, 0, .no r, _, g => nomatch g
  | _, _, _, i + 1, .no r, h, g => Slots.at (i := i) r (by simpa using h) (by simpa [getS] using g)
  | _, _, _, 0, .lent r, _, g => nomatch g
  | _, _, _, i + 1, .lent r, h, g => Slots.at (i := i) r (by simpa using h) (by simpa [getS] using g)
  | _, _, _, 0, .val q r, h, g => by
    have e1 : _ = v := Option.some.inj (Option.some.inj h)
    have e2 : _ = o := Option.some.inj g
    subst e1 e2
    exact ⟨_, q, fun a m => List.mem_append_left _ m⟩
  | _, _, _, i + 1, .val q r, h, g => by
    obtain ⟨Bs, h1, h2⟩ := Slots.at (i := i) r (by simpa using h) (by simpa [getS] using g)
    exact ⟨Bs, h1, fun a m => List.mem_append_right _ (h2 a m)⟩
  | _, _, _, 0, .bor q r, h, g => by
    have e1 : _ = v := Option.some.inj (Option.some.inj h)
    have e2 : _ = o := Option.some.inj g
    subst e1 e2
    exact ⟨_, q, fun a m => List.mem_append_left _ m⟩
  | _, _, _, i + 1, .bor q r, h, g => by
    obtain ⟨Bs, h1, h2⟩ := Slots.at (i := i) r (by simpa using h) (by simpa [getS] using g)
    exact ⟨Bs, h1, fun a m => List.mem_append_right _ (h2 a m)⟩
/-- what an operand is, when it is looked at -/
theorem RepP.get {ρ : En} {v : V} {p : Opd} {o : O} (r : RepP K G H σ v p Bs) (s : Ste K pins G H σ ρ As) (g : p.get ρ = some o) : ∃ Cs, RepO K G H v o Cs := by
  cases r with
  | tmp r =>
    have e : _ = o := Option.some.inj g
    subst e
    exact ⟨_, r⟩
  | slot h =>
    obtain ⟨Cs, q, _⟩ := s.slots.at h g
    exact ⟨Cs, q⟩
end

/-! ### operations that read -/
def fin1 (F : O → Option O) (a : Option O) (ρ : En) : Res := match a with
  | some a => match F a with
    | some o => .ok o ρ
    | none => .stuck
  | none => .stuck
def fin2 (F : O → O → Option O) (a b : Option O) (ρ : En) : Res := match a, b with
  | some a, some b => match F a b with
    | some o => .ok o ρ
    | none => .stuck
  | _, _ => .stuck
def op1 (F : O → Option O) (f : PF) : EF := fun ρ => (f ρ).bind fun p ρ1 => fin1 F (p.get ρ1) ρ1
def op2 (F : O → O → Option O) (f g : PF) : EF := fun ρ => (f ρ).bind fun p ρ1 => (g ρ1).bind fun q ρ2 => fin2 F (p.get ρ2) (q.get ρ2) ρ2
/-- something new or shared: what is behind an operation that changes nothing -/
structure Grow (G H G' H' : Hp) (Bs : List Addr) : Prop where
  ext : Ext G H [] G' H' Bs
  sub : Sub G' H'
  nd : Bs.Nodup
theorem Grow.same {G H : Hp} (s : Sub G H) : Grow G H G H [] := ⟨Ext.refl, s, .nil⟩
def Prim1 (K : PySem.W.Frag) (r : V → Hp → VK → Prop) (F : O → Option O) : Prop :=
  ∀ (G H : Hp) (x : V) (a o : O) (B : List Addr) (Q : VK), Sub G H → RepO K G H x a B → F a = some o → (∀ G' H' v Bs, Grow G H G' H' Bs → RepO K G' H' v o Bs → Q v H') → r x H Q
def Prim2 (K : PySem.W.Frag) (r : R2) (F : O → O → Option O) : Prop :=
  ∀ (G H : Hp) (x y : V) (a b o : O) (B C : List Addr) (Q : VK), Sub G H → RepO K G H x a B → RepO K G H y b C → F a b = some o → (∀ G' H' v Bs, Grow G H G' H' Bs → RepO K G' H' v o Bs → Q v H') → r x y H Q
section
variable {K : PySem.W.Frag} {R : RK} {pins σ : L2.St} {G H G' H' : Hp} {As Bs Cs T : List Addr} {Q : VK}
/-- behind such an operation: what was owned ahead of it and is not told of any more is let go -/
theorem KontE.grow {o : O} {ρ : En} {v : V} (s : Ste K pins G H σ ρ As) (k : KontE K R pins σ G H (T ++ As) Q (.ok o ρ)) (g : Grow G H G' H' Bs) (r : RepO K G' H' v o Bs) : Q v H' := by
  have hA : ∀ a ∈ As, H a ≠ none := fun a m => (s.slots.there a m).1
  have e : Ext G H As G' H' (Bs ++ As) := (g.ext.frame As).perm (fun a => by simp) fun a m => by
    rcases List.mem_append.mp m with z | z
    · exact List.mem_append_right _ z
    · exact List.mem_append_left _ z
  have nd : (Bs ++ As).Nodup := by
    refine List.nodup_append.mpr ⟨g.nd, s.nd, fun a h1 b h2 z => ?_⟩
    subst z
    rcases g.ext.own a h1 with w | w
    · cases w
    · exact hA a h2 w
  exact k G' H' As v Bs (e.drop T) nd r (s.ext g.ext (fun a m z => nomatch z) g.sub)
theorem op1_le {f : PF} {r : V → Hp → VK → Prop} {F : O → Option O} (p : Prim1 K r F) (σ : L2.St) (H : Hp) (Q : VK) (h : liftE K R (op1 F f) σ H Q) : tUn r (liftP K R f) σ H Q := by
  obtain ⟨pins, G, ρ, As, s, k⟩ := h
  refine ⟨pins, G, ρ, As, s, ?_⟩
  refine Kont.bind (T := []) (Q := Q) s.nd (fun a z => nomatch z) k fun q ρ1 G1 H1 As1 v Bs e1 nd1 r1 s1 k1 => ?_
  have k1 : KontE K R pins σ G1 H1 ([] ++ (Bs ++ As1)) Q (fin1 F (q.get ρ1) ρ1) := k1
  unfold fin1 at k1
  split at k1
  · rename_i a ha
    split at k1
    · rename_i o ho
      obtain ⟨Cs, rc⟩ := RepP.get r1 s1 ha
      exact p G1 H1 v a o Cs Q s1.sub rc ho fun G2 H2 w Ds g rd => KontE.grow s1 (T := Bs) (by simpa using k1) g rd
    · exact k1.elim
  · exact k1.elim
theorem op1_ok {X : Cx} {e : Expr} {f : PF} {r : V → Hp → VK → Prop} {F : O → Option O} (h : PE X e (tUn r (liftP K R f))) (p : Prim1 K r F) : PE X e (liftE K R (op1 F f)) := PE.weak h (op1_le p)
theorem op2_le {f g : PF} {r : R2} {F : O → O → Option O} (p : Prim2 K r F) (σ : L2.St) (H : Hp) (Q : VK) (h : liftE K R (op2 F f g) σ H Q) : tOp r (liftP K R f) (liftP K R g) σ H Q := by
  obtain ⟨pins, G, ρ, As, s, k⟩ := h
  refine ⟨pins, G, ρ, As, s, ?_⟩
  refine Kont.bind (T := []) (Q := Q) s.nd (fun a z => nomatch z) k fun q ρ1 G1 H1 As1 v Bs e1 nd1 r1 s1 k1 => ⟨pins, G1, ρ1, As1, s1, ?_⟩
  have nd1' : (Bs ++ As1).Nodup := by simpa using nd1
  refine Kont.bind (T := Bs) (Q := Q) nd1' (RepP.there r1) (by simpa using k1) fun q2 ρ2 G2 H2 As2 v2 Bs2 e2 nd2 r2 s2 k2 => ?_
  have k2 : KontE K R pins σ G2 H2 (Bs ++ (Bs2 ++ As2)) Q (fin2 F (q.get ρ2) (q2.get ρ2) ρ2) := k2
  have r1' := RepP.ext r1 e2 (nd_disj nd1')
  unfold fin2 at k2
  split at k2
  · rename_i a b ha hb
    split at k2
    · rename_i o ho
      obtain ⟨Cs, rc⟩ := RepP.get r1' s2 ha
      obtain ⟨Ds, rd⟩ := RepP.get r2 s2 hb
      exact p G2 H2 v v2 a b o Cs Ds Q s2.sub rc rd ho fun G3 H3 w Es g re => KontE.grow s2 (T := Bs ++ Bs2) (by simpa using k2) g re
    · exact k2.elim
  · exact k2.elim
theorem op2_ok {X : Cx} {e : Expr} {f g : PF} {r : R2} {F : O → O → Option O} (h : PE X e (tOp r (liftP K R f) (liftP K R g))) (p : Prim2 K r F) : PE X e (liftE K R (op2 F f g)) := PE.weak h (op2_le p)
/-- either of two rules -/
theorem lift_or {X : Cx} {e : Expr} {f f1 f2 : EF} (h1 : PE X e (liftE K R f1)) (h2 : PE X e (liftE K R f2)) (h : ∀ ρ, f ρ = f1 ρ ∨ f ρ = f2 ρ) : PE X e (liftE K R f) := by
  refine ⟨fun pins s σ H Q I ⟨pn, G, ρ, As, st, k⟩ => ?_⟩
  rcases h ρ with q | q
  · exact h1.run pins s σ H Q I ⟨pn, G, ρ, As, st, by rw [← q]; exact k⟩
  · exact h2.run pins s σ H Q I ⟨pn, G, ρ, As, st, by rw [← q]; exact k⟩
end
end Vs

namespace Vs
open PySem PySem.Spec PyProof.Rows L2 Ww

/-! ### what stands behind a value -/
section
variable {K : PySem.W.Frag} {R : RK} {G H G' H' : Hp} {v : V} {o : O} {B : List Addr}
theorem RepO.dp0 {d : PyData} (r : RepO K G H v (.dat d) B) : Dp K G v d := by cases r; assumption
theorem dat_int {i : Int} (r : RepO K G H v (.dat (.int i)) B) : v = .int i := by cases r.dp0; rfl
theorem dat_bool {i : Bool} (r : RepO K G H v (.dat (.bool i)) B) : v = .bl i := by cases r.dp0; rfl
theorem dat_str {i : Str} (r : RepO K G H v (.dat (.str i)) B) : v = .str i := by cases r.dp0; rfl
theorem dat_none (r : RepO K G H v (.dat .none) B) : v = .non := by cases r.dp0; rfl
theorem dat_tup {ds : List PyData} (r : RepO K G H v (.dat (.tuple ds)) B) : ∃ a vs, v = .ref a ∧ SqT K G a vs ∧ DpAll K G vs ds := by
  cases r.dp0 with
  | tup h1 h2 => exact ⟨_, _, rfl, h1, h2⟩
theorem dat_list {ds : List PyData} (r : RepO K G H v (.dat (.list ds)) B) : ∃ a vs, v = .ref a ∧ SqL K G a vs ∧ DpAll K G vs ds := by
  cases r.dp0 with
  | lst h1 h2 => exact ⟨_, _, rfl, h1, h2⟩
theorem Sub.seq {a : Addr} {xs : List V} (e : Sub G H) (h : SqL K G a xs) : SqL K H a xs := Same.seq (H := G) (H' := H) e h
theorem Sub.sqt {a : Addr} {xs : List V} (e : Sub G H) (h : SqT K G a xs) : SqT K H a xs := Evl.ex_t (H := G) (H' := H) e h
/-- a list's items -/
def O.lv : O → Option (List PyData)
  | .dat (.list ds) => some ds
  | .ls ds => some ds
  | _ => none
theorem RepEls.dps {vs : List V} {es : List El} {Bs : List Addr} (r : RepEls K G H vs es Bs) (s : Sub G H) : DpAll K H vs (es.map El.dv) := by
  induction r with
  | nil => exact .nil
  | d q _ ih => exact .cons (dp_same s q) ih
  | l h1 h2 h3 _ ih => exact .cons (.lst (SqL.of h2) (dps_same s h3)) ih
theorem RepO.lv {ds : List PyData} (r : RepO K G H v o B) (s : Sub G H) (h : o.lv = some ds) : ∃ a vs, v = .ref a ∧ SqL K H a vs ∧ DpAll K G vs ds := by
  cases r with
  | @dat v d q =>
    cases d with
    | list xs =>
      cases (Option.some.inj h : xs = ds)
      cases q with
      | lst h1 h2 => exact ⟨_, _, rfl, s.seq h1, h2⟩
    | _ => cases h
  | ls h1 h2 h3 =>
    cases (Option.some.inj h : _ = ds)
    exact ⟨_, _, rfl, SqL.of h2, h3⟩
  | dk _ _ _ => cases h
  | tp _ _ _ => cases h
  | lt _ _ _ => cases h
  | ll _ _ _ => cases h
/-- as data of the heap as it stands -/
theorem RepO.dp {d : PyData} (r : RepO K G H v o B) (s : Sub G H) (h : o.dv = some d) : Dp K H v d := by
  cases r with
  | dat q =>
    cases (Option.some.inj h : _ = d)
    exact dp_same s q
  | ls h1 h2 h3 =>
    cases (Option.some.inj h : _ = d)
    exact .lst (SqL.of h2) (dps_same s h3)
  | dk _ _ _ => cases h
  | tp h1 h2 h3 =>
    cases (Option.some.inj h : _ = d)
    exact .tup (SqT.of h2) (h3.dps s)
  | lt _ _ _ => cases h
  | ll h1 h2 h3 =>
    cases (Option.some.inj h : _ = d)
    exact .lst (SqL.of h2) (h3.dps s)
theorem dps_len2 : ∀ {ds : List PyData} {vs : List V}, DpAll K H vs ds → vs.length = ds.length := fun h => dps_len h
theorem DpAll.app : ∀ {ds es : List PyData} {vs ws : List V}, DpAll K H vs ds → DpAll K H ws es → DpAll K H (vs ++ ws) (ds ++ es)
  | [], _, _, _, .nil, h => h
  | _ :: _, _, _, _, .cons a r, h => .cons a (DpAll.app r h)
theorem DpAll.take : ∀ (n : Nat) {ds : List PyData} {vs : List V}, DpAll K H vs ds → DpAll K H (vs.take n) (ds.take n)
  | 0, _, _, _ => by simp only [List.take_zero]; exact .nil
  | n + 1, [], _, .nil => .nil
  | n + 1, _ :: _, _, .cons a r => .cons a (DpAll.take n r)
theorem DpAll.drop : ∀ (n : Nat) {ds : List PyData} {vs : List V}, DpAll K H vs ds → DpAll K H (vs.drop n) (ds.drop n)
  | 0, _, _, h => h
  | n + 1, [], _, .nil => .nil
  | n + 1, _ :: _, _, .cons a r => DpAll.drop n r
theorem DpAll.rev : ∀ {ds : List PyData} {vs : List V}, DpAll K H vs ds → DpAll K H vs.reverse ds.reverse
  | [], _, .nil => .nil
  | _ :: _, _, .cons a r => by
    rw [List.reverse_cons, List.reverse_cons]
    exact DpAll.app (DpAll.rev r) (.cons a .nil)
theorem DpAll.get : ∀ {ds : List PyData} {vs : List V} {i : Nat} {d : PyData}, DpAll K H vs ds → ds[i]? = some d → ∃ v, vs[i]? = some v ∧ Dp K H v d
  | [], _, i, _, .nil, h => by simp at h
  | _ :: _, _, 0, _, .cons a r, h => by
    simp only [List.getElem?_cons_zero, Option.some.injEq] at h
    subst h
    exact ⟨_, rfl, a⟩
  | _ :: _, _, i + 1, _, .cons a r, h => by
    simp only [List.getElem?_cons_succ] at h
    obtain ⟨v, h1, h2⟩ := DpAll.get r h
    exact ⟨v, by simpa using h1, h2⟩
theorem DpAll.set {x : V} {e : PyData} (q : Dp K H x e) : ∀ (i : Nat) {ds : List PyData} {vs : List V}, DpAll K H vs ds → DpAll K H (vs.set i x) (ds.set i e)
  | _, [], _, .nil => .nil
  | 0, _ :: _, _, .cons a r => .cons q r
  | i + 1, _ :: _, _, .cons a r => .cons a (DpAll.set q i r)
theorem DpAll.erase : ∀ (i : Nat) {ds : List PyData} {vs : List V}, DpAll K H vs ds → DpAll K H (vs.eraseIdx i) (ds.eraseIdx i)
  | _, [], _, .nil => by simp only [List.eraseIdx_nil]; exact .nil
  | 0, _ :: _, _, .cons a r => r
  | i + 1, _ :: _, _, .cons a r => .cons a (DpAll.erase i r)
theorem DpAll.dropLast {ds : List PyData} {vs : List V} (h : DpAll K H vs ds) : DpAll K H vs.dropLast ds.dropLast := by
  rw [List.dropLast_eq_take, List.dropLast_eq_take, dps_len h]
  exact DpAll.take _ h
mutual
theorem dp_plain : ∀ {d : PyData} {v : V}, Dp K H v d → d.plain = true
  | .none, _, _ => rfl
  | .bool _, _, _ => rfl
  | .int _, _, _ => rfl
  | .str _, _, _ => rfl
  | .list ds, _, h => by
    cases h with
    | lst _ h2 =>
      show PyData.plainAll ds = true
      exact dps_plain h2
  | .tuple ds, _, h => by
    cases h with
    | tup _ h2 =>
      show PyData.plainAll ds = true
      exact dps_plain h2
  | .dict _, _, h => by cases h
theorem dps_plain : ∀ {ds : List PyData} {vs : List V}, DpAll K H vs ds → PyData.plainAll ds = true
  | [], _, _ => rfl
  | d :: ds, _, h => by
    cases h with
    | cons h1 h2 =>
      show (d.plain && PyData.plainAll ds) = true
      rw [dp_plain h1, dps_plain h2]
      rfl
end

/-! ### something new -/
theorem grow_new {p : Addr} {u : HO} (s : Sub G H) (n : H p = none) : Grow G H G (upd H p u) [p] := by
  have k : ∀ a x, H a = some x → upd H p u a = some x := fun a x h => by rw [upd_ne (ne_of_none h n)]; exact h
  exact ⟨⟨Sub.refl G, fun a x h _ => k a x h, fun _ h _ _ => h, fun a h => .inr (by rw [List.mem_singleton.mp h]; exact n)⟩, fun a x h => k a x (s a x h), by simp⟩
theorem Sub.free {p : Addr} (s : Sub G H) (n : H p = none) : G p = none := Same.free (H := G) (H' := H) s n
theorem grow_ls {p : Addr} {vs : List V} {ds : List PyData} (s : Sub G H) (n : H p = none) (d : DpAll K G vs ds) : RepO K G (upd H p (.lst vs)) (.ref p) (.ls ds) [p] := .ls (s.free n) upd_same d
theorem grow_dk {p : Addr} {es : List (L2.Key × V)} {kvs : List (L2.Key × PyData)} (s : Sub G H) (n : H p = none) (d : DKs K G es kvs) : RepO K G (upd H p (.dK es)) (.ref p) (.dk kvs) [p] := .dk (s.free n) upd_same d
/-- shared at once: a tuple, a list -/
theorem grow_sh {p : Addr} {u : HO} (s : Sub G H) (n : H p = none) : Grow G H (upd G p u) (upd H p u) [] := by
  have gn := s.free n
  refine ⟨⟨fun a x h => by rw [upd_ne (ne_of_none h gn)]; exact h, fun a x h _ => by rw [upd_ne (ne_of_none h n)]; exact h, fun a h h2 _ => ?_, fun a h => nomatch h⟩, fun a x h => ?_, .nil⟩
  · by_cases e : a = p
    · subst e
      exact absurd n h2
    · rw [upd_ne e]
      exact h
  · by_cases e : a = p
    · subst e
      rw [upd_same] at h ⊢
      exact h
    · rw [upd_ne e] at h ⊢
      exact s a x h
theorem sh_tup {p : Addr} {vs : List V} {ds : List PyData} (s : Sub G H) (n : H p = none) (d : DpAll K G vs ds) : RepO K (upd G p (.tup vs)) (upd H p (.tup vs)) (.ref p) (.dat (.tuple ds)) [] :=
  .dat (.tup (SqT.of upd_same) (dps_same (same_new (s.free n) _) d))
theorem Grow.dat {d : PyData} {Q : VK} (s : Sub G H) (h : Dp K G v d) (k : ∀ G' H' w Bs, Grow G H G' H' Bs → RepO K G' H' w (.dat d) Bs → Q w H') : Q v H := k G H v [] (Grow.same s) (.dat h)
end

/-! ### two operands -/
def CatL (a b : O) : Option O := match a.lv, b.lv with
  | some xs, some ys => if xs.length + ys.length ≤ sizeLine then some (.ls (xs ++ ys)) else none
  | _, _ => none
def addO : O → O → Option O
  | .dat (.int i), .dat (.int j) => some (.dat (.int (i + j)))
  | .dat (.str x), .dat (.str y) => if x.length + y.length ≤ sizeLine then some (.dat (.str (x ++ y))) else none
  | .dat (.tuple xs), .dat (.tuple ys) => if xs ≠ [] ∧ xs.length + ys.length ≤ sizeLine then some (.dat (.tuple (xs ++ ys))) else none
  | a, b => CatL a b
def subO : O → O → Option O
  | .dat (.int i), .dat (.int j) => some (.dat (.int (i - j)))
  | _, _ => none
/-- numbers far below a million bits -/
def Wid (i : Int) : Prop := i.natAbs < 2 ^ 4000
instance (i : Int) : Decidable (Wid i) := inferInstanceAs (Decidable (_ < _))
/-- of at most 64 bits -/
def nar (i : Int) : Bool := decide (-(2 ^ 64) < i ∧ i < 2 ^ 64)
def mulO : O → O → Option O
  | .dat (.int i), .dat (.int j) => if (Wid i ∧ Wid j) ∨ nar i = true ∨ nar j = true then some (.dat (.int (i * j))) else none
  | a, .dat (.int k) => match a.lv with
    | some xs => if -(2 ^ 63) ≤ k ∧ k < 2 ^ 63 ∧ xs.length * k.toNat ≤ sizeLine then some (.ls (List.replicate k.toNat xs).flatten) else none
    | none => none
  | _, _ => none
def fdivO : O → O → Option O
  | .dat (.int i), .dat (.int j) => if 0 < j ∧ Wid j then some (.dat (.int (i / j))) else none
  | _, _ => none
def modO : O → O → Option O
  | .dat (.int i), .dat (.int j) => if 0 < j then some (.dat (.int (i % j))) else none
  | _, _ => none
def powOk (i j : Int) : Bool := decide (0 ≤ j ∧ j ≤ 1000000 ∧ i.natAbs < 2 ^ 64) || decide (0 ≤ j ∧ j ≤ 64 ∧ i.natAbs < 2 ^ 1024)
def powO : O → O → Option O
  | .dat (.int i), .dat (.int j) => if powOk i j = true then some (.dat (.int (i ^ j.toNat))) else none
  | _, _ => none
def bo (b : Bool) : Option O := some (.dat (.bool b))
def eqO (a b : O) : Option O := match a.dv, b.dv with
  | some d, some e => if min d.depth e.depth ≤ 64 then bo (PyData.eqv d e) else none
  | _, _ => none
def neO (a b : O) : Option O := match a.dv, b.dv with
  | some d, some e => if min d.depth e.depth ≤ 64 then bo (!PyData.eqv d e) else none
  | _, _ => none
def ltO : O → O → Option O
  | .dat (.int i), .dat (.int j) => bo (decide (i < j))
  | .dat (.str i), .dat (.str j) => bo (decide (i.cps.toList < j.cps.toList))
  | _, _ => none
def leO : O → O → Option O
  | .dat (.int i), .dat (.int j) => bo (decide (i ≤ j))
  | _, _ => none
def gtO : O → O → Option O
  | .dat (.int i), .dat (.int j) => bo (decide (j < i))
  | _, _ => none
def geO : O → O → Option O
  | .dat (.int i), .dat (.int j) => bo (decide (j ≤ i))
  | _, _ => none
def negO : O → Option O
  | .dat (.int i) => some (.dat (.int (-i)))
  | _ => none

section
variable {X : Cx}
def rCatS (K : PySem.W.Frag) : R2 := fun x y H Q => ∃ l b xs zs, x = .ref l ∧ y = .ref b ∧ SqL K H l xs ∧ SqL K H b zs ∧ xs.length + zs.length ≤ sizeLine ∧ ∀ p, H p = none → Q (.ref p) (upd H p (.lst (xs ++ zs)))
theorem op_catS : OpR X (binaryOp .Add) (rCatS X.K) := by
  intro pins s σ H x y v u Q I rx ry h
  obtain ⟨l, b, xs, zs, rfl, rfl, hH, hB, hz, q⟩ := h
  cases rx
  cases ry
  obtain ⟨its, r, ⟨⟨oc, od, odt, osl⟩, n, e, o1, o2, o3⟩, hl⟩ := I.list hH
  obtain ⟨its2, r2, ⟨⟨pc, pd, pdt, psl⟩, n2, e2, p1, p2, p3⟩, hl2⟩ := I.list hB
  simp only at o1 o2 o3 p1 p2 p3
  subst o1 o2 o3 p1 p2 p3
  have y1 := r.length
  have y2 := r2.length
  have ea : its.toArray ++ its2.toArray = (its ++ its2).toArray := by simp
  refine concat_meets ⟨_, e, rfl⟩ ⟨_, e2, rfl⟩ noFill_list_add seq_list_add PySem.F.slot_list_add PySem.F.entry_list_add (PySem.F.args_list_add_2 _ _) (list_addW l b its.toArray its2.toArray n n2 none none osl psl (by rw [List.size_toArray, List.size_toArray]; omega)) ⟨e, e2, ?_⟩
  rw [ea]
  exact ⟨.ref _, _, I.lnew (t' := s.toks) (r.append r2) (by rw [List.length_append]; omega), rfl, q _ I.fresh⟩
def rAddA (K : PySem.W.Frag) : R2 := fun x y H Q => rI0 (fun i j => .int (i + j)) x y H Q ∨ (∃ i j, x = .str i ∧ y = .str j ∧ i.length + j.length ≤ sizeLine ∧ Q (.str (i ++ j)) H) ∨ rCatT K x y H Q ∨ rCatS K x y H Q
theorem op_addA : OpR X (binaryOp .Add) (rAddA X.K) := op_add.or (op_add_str.or (op_catT.or op_catS))
end
end Vs

namespace Vs
open PySem PySem.Spec PyProof.Rows L2 Ww

section
variable {K : PySem.W.Frag}
theorem prim_add : Prim2 K (rAddA K) addO := by
  intro G H x y a b o B C Q s ra rb h k
  unfold addO at h
  split at h
  · cases Option.some.inj h
    cases dat_int ra
    cases dat_int rb
    exact .inl ⟨_, _, rfl, rfl, Grow.dat s (.int _) k⟩
  · split at h
    · rename_i hz
      cases Option.some.inj h
      cases dat_str ra
      cases dat_str rb
      exact .inr (.inl ⟨_, _, rfl, rfl, hz, Grow.dat s (.str _) k⟩)
    · cases h
  · split at h
    · rename_i xs ys hz
      cases Option.some.inj h
      obtain ⟨p, vs, rfl, hp, dp⟩ := dat_tup ra
      obtain ⟨q, ws, rfl, hq, dq⟩ := dat_tup rb
      have l1 := dps_len dp
      have l2 := dps_len dq
      refine .inr (.inr (.inl ⟨p, q, vs, ws, rfl, rfl, s.sqt hp, s.sqt hq, fun z => hz.1 (List.eq_nil_of_length_eq_zero (by rw [← l1, z]; rfl)), by omega, fun z => ?_, fun z p' np => ?_⟩))
      · subst z
        have e : ys = [] := List.eq_nil_of_length_eq_zero (by rw [← l2]; rfl)
        subst e
        exact Grow.dat s (by rw [List.append_nil]; exact .tup hp dp) k
      · exact k _ _ _ _ (grow_sh s np) (sh_tup s np (DpAll.app dp dq))
    · cases h
  · unfold CatL at h
    split at h
    · rename_i xs ys hx hy
      split at h
      · rename_i hz
        cases Option.some.inj h
        obtain ⟨p, vs, rfl, hp, dp⟩ := ra.lv s hx
        obtain ⟨q, ws, rfl, hq, dq⟩ := rb.lv s hy
        have l1 := dps_len dp
        have l2 := dps_len dq
        exact .inr (.inr (.inr ⟨p, q, vs, ws, rfl, rfl, hp, hq, by omega, fun p' np => k _ _ _ _ (grow_new s np) (grow_ls s np (DpAll.app dp dq))⟩))
      · cases h
    · cases h

theorem prim_sub : Prim2 K (rI0 fun i j => .int (i - j)) subO := by
  intro G H x y a b o B C Q s ra rb h k
  unfold subO at h
  split at h
  · cases Option.some.inj h
    cases dat_int ra
    cases dat_int rb
    exact ⟨_, _, rfl, rfl, Grow.dat s (.int _) k⟩
  · cases h
theorem wid_mul {i j : Int} (hi : Wid i) (hj : Wid j) : CMulW i j := wide_mul (a := 4000) (b := 4000) hi hj (by decide) (by decide) (by decide)
def rRepS (K : PySem.W.Frag) : R2 := fun x y H Q => ∃ l k xs, x = .ref l ∧ y = .int k ∧ SqL K H l xs ∧ -(2 ^ 63) ≤ k ∧ k < 2 ^ 63 ∧ xs.length * k.toNat ≤ sizeLine ∧
  ∀ p, H p = none → Q (.ref p) (upd H p (.lst (List.replicate k.toNat xs).flatten))
theorem op_repS {X : Cx} : OpR X (binaryOp .Mult) (rRepS X.K) := by
  intro pins s σ H x y v u Q I rx ry h
  obtain ⟨l, k, xs, rfl, rfl, hH, h1, h2, hz, q⟩ := h
  cases rx
  obtain ⟨t, rfl⟩ := ry
  obtain ⟨its, r, ⟨⟨oc, od, odt, osl⟩, n, e, o1, o2, o3⟩, hl⟩ := I.list hH
  simp only at o1 o2 o3
  subst o1 o2 o3
  have y1 := r.length
  have es : (sizeLine : Nat) = 2 ^ 24 := by decide
  have hsz : its.toArray.size * k.toNat ≤ 2 ^ 24 := by rw [List.size_toArray, ← y1]; omega
  have hs1 : its.toArray.size ≤ sizeLine := by rw [List.size_toArray]; omega
  refine wpAny_binaryOp_repeat_ref (T := "list") (U := "int") (by decide) ⟨_, e, rfl⟩ (fun s' => typeIs_int s' k t) noFill_list_mul F.fills_int_mul F.slot_int_rmul repeat_list F.slot_int_index.lookup
    (call_meets F.slot_int_rmul (typeIs_int s k t) F.entry_int_rmul (F.args_int_rmul_2 _ _) (lm_int_rmul_list_any k t l its.toArray n none osl)
      ⟨e, rfl, ⟨_, e, rfl⟩, call_meets F.slot_list_mul ⟨_, e, rfl⟩ F.entry_list_mul (F.args_list_mul_2 _ _)
        (lm_list_mul_any l its.toArray n none osl k t (by rw [fitsIndex_both h1 h2]; exact Bool.false_ne_true) (by omega) (by rw [notLongL (by omega)]; exact Bool.false_ne_true))
        ⟨e, ?_⟩⟩)
  have ea : List.foldl (fun x1 x2 => x1 ++ x2) #[] (List.replicate (if its.toArray.isEmpty = true then 0 else k.toNat) its.toArray) = (List.replicate k.toNat its).flatten.toArray := listMul_foldl_if its.toArray k.toNat
  rw [ea]
  refine ⟨.ref _, _, I.lnew (t' := s.toks) (r.rep k.toNat) ?_, rfl, q _ I.fresh⟩
  rw [PyProof.Rows.lm_len_rep_flat, Nat.mul_comm]
  exact hz
theorem DpAll.rep {H : Hp} {ds : List PyData} {vs : List V} (h : DpAll K H vs ds) : ∀ n : Nat, DpAll K H (List.replicate n vs).flatten (List.replicate n ds).flatten
  | 0 => .nil
  | n + 1 => by
    rw [List.replicate_succ, List.replicate_succ, List.flatten_cons, List.flatten_cons]
    exact DpAll.app h (DpAll.rep h n)
theorem prim_mul : Prim2 K (fun x y H Q => (rI CMulW (fun i j => .int (i * j)) x y H Q ∨ rI CMul (fun i j => .int (i * j)) x y H Q) ∨ rRepS K x y H Q) mulO := by
  intro G H x y a b o B C Q s ra rb h k
  unfold mulO at h
  split at h
  · split at h
    · rename_i hw
      cases Option.some.inj h
      cases dat_int ra
      cases dat_int rb
      rcases hw with hw | hw | hw
      · exact .inl (.inl ⟨_, _, rfl, rfl, wid_mul hw.1 hw.2, Grow.dat s (.int _) k⟩)
      · exact .inl (.inr ⟨_, _, rfl, rfl, .inl (of_decide_eq_true hw), Grow.dat s (.int _) k⟩)
      · exact .inl (.inr ⟨_, _, rfl, rfl, .inr (of_decide_eq_true hw), Grow.dat s (.int _) k⟩)
    · cases h
  · split at h
    · rename_i xs hx
      split at h
      · rename_i hz
        cases Option.some.inj h
        cases dat_int rb
        obtain ⟨p, vs, rfl, hp, dp⟩ := ra.lv s hx
        have l1 := dps_len dp
        exact .inr ⟨p, _, vs, rfl, rfl, hp, hz.1, hz.2.1, by rw [l1]; exact hz.2.2, fun p' np => k _ _ _ _ (grow_new s np) (grow_ls s np (DpAll.rep dp _))⟩
      · cases h
    · cases h
  · cases h
theorem prim_fdiv : Prim2 K (rI CDivW fun i j => .int (i / j)) fdivO := by
  intro G H x y a b o B C Q s ra rb h k
  unfold fdivO at h
  split at h
  · split at h
    · rename_i hw
      cases Option.some.inj h
      cases dat_int ra
      cases dat_int rb
      exact ⟨_, _, rfl, rfl, wide_div hw.1 hw.2 (by decide) (by decide), Grow.dat s (.int _) k⟩
    · cases h
  · cases h
theorem prim_mod : Prim2 K (rI (fun _ j => 0 < j) fun i j => .int (i % j)) modO := by
  intro G H x y a b o B C Q s ra rb h k
  unfold modO at h
  split at h
  · split at h
    · rename_i hw
      cases Option.some.inj h
      cases dat_int ra
      cases dat_int rb
      exact ⟨_, _, rfl, rfl, hw, Grow.dat s (.int _) k⟩
    · cases h
  · cases h
theorem bits_le {a : Int} {k : Nat} (h : a.natAbs < 2 ^ k) : Builtin.Int.intBits a ≤ k := by
  unfold Builtin.Int.intBits
  split
  · exact Nat.zero_le _
  · rename_i hz
    have h0 : a.natAbs ≠ 0 := fun z => hz (by simpa using z)
    exact (Nat.log2_lt h0).mpr h
theorem powOk_bits {i j : Int} (h : powOk i j = true) : 0 ≤ j ∧ (Builtin.Int.intBits i : Int) * j ≤ 2 ^ 27 := by
  unfold powOk at h
  rw [Bool.or_eq_true, decide_eq_true_eq, decide_eq_true_eq] at h
  have key : ∀ (n m : Nat), n * m ≤ 2 ^ 27 → Builtin.Int.intBits i ≤ n → 0 ≤ j → j ≤ m → (Builtin.Int.intBits i : Int) * j ≤ 2 ^ 27 := by
    intro n m hnm hb h0 h1
    have e1 : (Builtin.Int.intBits i : Int) * j ≤ (n : Int) * m := Int.mul_le_mul (Int.ofNat_le.mpr hb) h1 h0 (Int.natCast_nonneg _)
    have e2 : (n : Int) * m ≤ 2 ^ 27 := by exact_mod_cast hnm
    exact Int.le_trans e1 e2
  rcases h with ⟨h0, h1, h2⟩ | ⟨h0, h1, h2⟩
  · exact ⟨h0, key 64 1000000 (by decide) (bits_le h2) h0 h1⟩
  · exact ⟨h0, key 1024 64 (by decide) (bits_le h2) h0 h1⟩
def CPowB (i j : Int) : Prop := powOk i j = true
theorem op_powB {X : Cx} : OpR X (binaryOp .Pow) (rI CPowB fun i j => .int (i ^ j.toNat)) := opI fun _ _ _ _ _ _ _ hc q => PyProof.Rows.pow_int (powOk_bits hc).1 (powOk_bits hc).2 q
theorem prim_pow : Prim2 K (rI CPowB fun i j => .int (i ^ j.toNat)) powO := by
  intro G H x y a b o B C Q s ra rb h k
  unfold powO at h
  split at h
  · split at h
    · rename_i hw
      cases Option.some.inj h
      cases dat_int ra
      cases dat_int rb
      exact ⟨_, _, rfl, rfl, hw, Grow.dat s (.int _) k⟩
    · cases h
  · cases h
theorem prim_neg : Prim1 K (rU fun i => .int (-i)) negO := by
  intro G H x a o B Q s ra h k
  unfold negO at h
  split at h
  · cases Option.some.inj h
    cases dat_int ra
    exact ⟨_, rfl, Grow.dat s (.int _) k⟩
  · cases h

/-! ### comparisons -/
def rEqP (K : PySem.W.Frag) (n : Bool) : R2 := fun x y H Q => ∃ d e, Dp K H x d ∧ Dp K H y e ∧ min d.depth e.depth ≤ 64 ∧ Q (.bl (if n then !PyData.eqv d e else PyData.eqv d e)) H
theorem op_eqP {X : Cx} (hu : X.A.units + 64 < cLine) : OpR X (compareOp .Eq) (rEqP X.K false) := by
  intro pins s σ H x y v u Q I rx ry h
  obtain ⟨d, e, hd, he, hz, q⟩ := h
  obtain ⟨as, r1⟩ := Dp.reads I d x v hd rx
  obtain ⟨bs, r2⟩ := Dp.reads I e y u he ry
  exact PySem.SeqAt.eq_plain r1 r2 (dp_plain hd) (dp_plain he) (by omega) ⟨.bl _, H, I, rfl, q⟩
theorem op_neP {X : Cx} (hu : X.A.units + 64 < cLine) : OpR X (compareOp .NotEq) (rEqP X.K true) := by
  intro pins s σ H x y v u Q I rx ry h
  obtain ⟨d, e, hd, he, hz, q⟩ := h
  obtain ⟨as, r1⟩ := Dp.reads I d x v hd rx
  obtain ⟨bs, r2⟩ := Dp.reads I e y u he ry
  exact PySem.SeqAt.ne_plain r1 r2 (dp_plain hd) (dp_plain he) (by omega) ⟨.bl _, H, I, rfl, q⟩
theorem prim_eq : Prim2 K (rEqP K false) eqO := by
  intro G H x y a b o B C Q s ra rb h k
  unfold eqO at h
  split at h
  · rename_i d e hd he
    split at h
    · rename_i hz
      cases Option.some.inj h
      exact ⟨d, e, ra.dp s hd, rb.dp s he, hz, Grow.dat s (.bl _) k⟩
    · cases h
  · cases h
theorem prim_ne : Prim2 K (rEqP K true) neO := by
  intro G H x y a b o B C Q s ra rb h k
  unfold neO at h
  split at h
  · rename_i d e hd he
    split at h
    · rename_i hz
      cases Option.some.inj h
      exact ⟨d, e, ra.dp s hd, rb.dp s he, hz, Grow.dat s (.bl _) k⟩
    · cases h
  · cases h
theorem prim_lt : Prim2 K (fun x y H Q => rI0 (fun i j => .bl (decide (i < j))) x y H Q ∨ ∃ i j, x = .str i ∧ y = .str j ∧ Q (.bl (decide (i.cps.toList < j.cps.toList))) H) ltO := by
  intro G H x y a b o B C Q s ra rb h k
  unfold ltO at h
  split at h
  · cases Option.some.inj h
    cases dat_int ra
    cases dat_int rb
    exact .inl ⟨_, _, rfl, rfl, Grow.dat s (.bl _) k⟩
  · cases Option.some.inj h
    cases dat_str ra
    cases dat_str rb
    exact .inr ⟨_, _, rfl, rfl, Grow.dat s (.bl _) k⟩
  · cases h
theorem prim_le : Prim2 K (rI0 fun i j => .bl (decide (i ≤ j))) leO := by
  intro G H x y a b o B C Q s ra rb h k
  unfold leO at h
  split at h
  · cases Option.some.inj h
    cases dat_int ra
    cases dat_int rb
    exact ⟨_, _, rfl, rfl, Grow.dat s (.bl _) k⟩
  · cases h
theorem prim_gt : Prim2 K (rI0 fun i j => .bl (decide (j < i))) gtO := by
  intro G H x y a b o B C Q s ra rb h k
  unfold gtO at h
  split at h
  · cases Option.some.inj h
    cases dat_int ra
    cases dat_int rb
    exact ⟨_, _, rfl, rfl, Grow.dat s (.bl _) k⟩
  · cases h
theorem prim_ge : Prim2 K (rI0 fun i j => .bl (decide (j ≤ i))) geO := by
  intro G H x y a b o B C Q s ra rb h k
  unfold geO at h
  split at h
  · cases Option.some.inj h
    cases dat_int ra
    cases dat_int rb
    exact ⟨_, _, rfl, rfl, Grow.dat s (.bl _) k⟩
  · cases h

/-! ### a container asked -/
/-- a list's or a tuple's items -/
def O.sv : O → Option (List PyData)
  | .dat (.list ds) => some ds
  | .dat (.tuple ds) => some ds
  | .ls ds => some ds
  | _ => none
theorem RepO.sv {G H : Hp} {v : V} {o : O} {B : List Addr} {ds : List PyData} (r : RepO K G H v o B) (s : Sub G H) (h : o.sv = some ds) : ∃ a vs, v = .ref a ∧ (SqL K H a vs ∨ SqT K H a vs) ∧ DpAll K G vs ds := by
  cases r with
  | @dat v d q =>
    cases d with
    | list xs =>
      cases (Option.some.inj h : xs = ds)
      cases q with
      | lst h1 h2 => exact ⟨_, _, rfl, .inl (s.seq h1), h2⟩
    | tuple xs =>
      cases (Option.some.inj h : xs = ds)
      cases q with
      | tup h1 h2 => exact ⟨_, _, rfl, .inr (s.sqt h1), h2⟩
    | _ => cases h
  | ls h1 h2 h3 =>
    cases (Option.some.inj h : _ = ds)
    exact ⟨_, _, rfl, .inl (SqL.of h2), h3⟩
  | dk _ _ _ => cases h
  | tp _ _ _ => cases h
  | lt _ _ _ => cases h
  | ll _ _ _ => cases h
def strIn (i j : Str) : Bool := !(Builtin.Str.occurrences j i 0 j.length 1).isEmpty
def inO : O → O → Option O
  | .dat (.str i), .dat (.str j) => bo (strIn i j)
  | a, b => match a.dv, b.sv with
    | some d, some xs => if min (PyData.depthAll xs) d.depth ≤ 60 then bo (xs.any fun y => PyData.eqv y d) else none
    | _, _ => none
def ninO : O → O → Option O
  | .dat (.str i), .dat (.str j) => bo (!strIn i j)
  | a, b => match a.dv, b.sv with
    | some d, some xs => if min (PyData.depthAll xs) d.depth ≤ 60 then bo (!xs.any fun y => PyData.eqv y d) else none
    | _, _ => none
def rInP (K : PySem.W.Frag) (n : Bool) : R2 := fun x y H Q => ∃ d a vs xs, Dp K H x d ∧ y = .ref a ∧ (SqL K H a vs ∨ SqT K H a vs) ∧ DpAll K H vs xs ∧ min (PyData.depthAll xs) d.depth ≤ 60 ∧ Q (.bl (if n then !xs.any fun y => PyData.eqv y d else xs.any fun y => PyData.eqv y d)) H
theorem op_inP {X : Cx} (hu : X.A.units + 64 < cLine) : OpR X (compareOp .In) (rInP X.K false) := by
  intro pins s σ H x y v u Q I rx ry h
  obtain ⟨d, a, vs, xs, hd, rfl, hs, hx, hz, q⟩ := h
  obtain ⟨as, r1⟩ := Dp.reads I d x v hd rx
  have f : ∀ b, EP X pins σ Q (.bool b) s ↔ EP X pins σ Q (.bool b) s := fun _ => Iff.rfl
  rcases hs with hs | hs
  · obtain ⟨bs, r2⟩ := Dp.reads I (.list xs) _ u (.lst hs hx) ry
    exact PySem.SeqAt.in_list_data r2 r1 (dps_plain hx) (dp_plain hd) (by omega) ⟨.bl _, H, I, rfl, q⟩
  · obtain ⟨bs, r2⟩ := Dp.reads I (.tuple xs) _ u (.tup hs hx) ry
    exact PySem.SeqAt.in_tuple_data r2 r1 (dps_plain hx) (dp_plain hd) (by omega) ⟨.bl _, H, I, rfl, q⟩
theorem op_ninP {X : Cx} (hu : X.A.units + 64 < cLine) : OpR X (compareOp .NotIn) (rInP X.K true) := by
  intro pins s σ H x y v u Q I rx ry h
  obtain ⟨d, a, vs, xs, hd, rfl, hs, hx, hz, q⟩ := h
  obtain ⟨as, r1⟩ := Dp.reads I d x v hd rx
  rcases hs with hs | hs
  · obtain ⟨bs, r2⟩ := Dp.reads I (.list xs) _ u (.lst hs hx) ry
    exact PySem.SeqAt.notIn_list_data r2 r1 (dps_plain hx) (dp_plain hd) (by omega) ⟨.bl _, H, I, rfl, q⟩
  · obtain ⟨bs, r2⟩ := Dp.reads I (.tuple xs) _ u (.tup hs hx) ry
    exact PySem.SeqAt.notIn_tuple_data r2 r1 (dps_plain hx) (dp_plain hd) (by omega) ⟨.bl _, H, I, rfl, q⟩
theorem prim_in : Prim2 K (fun x y H Q => (∃ i j, x = .str i ∧ y = .str j ∧ Q (.bl (strIn i j)) H) ∨ rInP K false x y H Q) inO := by
  intro G H x y a b o B C Q s ra rb h k
  unfold inO at h
  split at h
  · cases Option.some.inj h
    cases dat_str ra
    cases dat_str rb
    exact .inl ⟨_, _, rfl, rfl, Grow.dat s (.bl _) k⟩
  · split at h
    · rename_i d xs hd hx
      split at h
      · rename_i hz
        cases Option.some.inj h
        obtain ⟨p, vs, rfl, hp, dp⟩ := rb.sv s hx
        exact .inr ⟨d, p, vs, xs, ra.dp s hd, rfl, hp, dps_same s dp, hz, Grow.dat s (.bl _) k⟩
      · cases h
    · cases h
theorem prim_nin : Prim2 K (fun x y H Q => (∃ i j, x = .str i ∧ y = .str j ∧ Q (.bl (!strIn i j)) H) ∨ rInP K true x y H Q) ninO := by
  intro G H x y a b o B C Q s ra rb h k
  unfold ninO at h
  split at h
  · cases Option.some.inj h
    cases dat_str ra
    cases dat_str rb
    exact .inl ⟨_, _, rfl, rfl, Grow.dat s (.bl _) k⟩
  · split at h
    · rename_i d xs hd hx
      split at h
      · rename_i hz
        cases Option.some.inj h
        obtain ⟨p, vs, rfl, hp, dp⟩ := rb.sv s hx
        exact .inr ⟨d, p, vs, xs, ra.dp s hd, rfl, hp, dps_same s dp, hz, Grow.dat s (.bl _) k⟩
      · cases h
    · cases h
/-! ### items, slices, length -/
def ixO : O → O → Option O
  | .dat (.str z), .dat (.int i) => if z.length ≤ sizeLine then (atI z.cps.toList i).map fun c => .dat (.str ⟨#[c]⟩) else none
  | a, .dat (.int i) => a.sv.bind fun ds => (atI ds i).map .dat
  | _, _ => none
theorem atI_some {α : Type} {xs : List α} {i : Int} {x : α} (h : atI xs i = some x) : ∃ j, ixN xs.length i = some j ∧ xs[j]? = some x := by
  unfold atI at h
  obtain ⟨j, h1, h2⟩ := Option.bind_eq_some_iff.mp h
  exact ⟨j, h1, h2⟩
theorem DpAll.atI {H : Hp} {ds : List PyData} {vs : List V} {i : Int} {d : PyData} (h : DpAll K H vs ds) (e : L2.atI ds i = some d) : ∃ v, L2.atI vs i = some v ∧ Dp K H v d := by
  obtain ⟨j, h1, h2⟩ := atI_some e
  obtain ⟨v, h3, h4⟩ := DpAll.get h h2
  refine ⟨v, ?_, h4⟩
  unfold L2.atI
  rw [dps_len h, h1]
  exact h3
theorem prim_ix : Prim2 K (rIx K) ixO := by
  intro G H x y a b o B C Q s ra rb h k
  unfold ixO at h
  split at h
  · split at h
    · rename_i hz
      obtain ⟨c, h1, h2⟩ := Option.map_eq_some_iff.mp h
      subst h2
      cases dat_str ra
      cases dat_int rb
      exact .inr (.inr ⟨_, _, c, rfl, rfl, hz, h1, Grow.dat s (.str _) k⟩)
    · cases h
  · obtain ⟨ds, h1, h2⟩ := Option.bind_eq_some_iff.mp h
    obtain ⟨d, h3, h4⟩ := Option.map_eq_some_iff.mp h2
    subst h4
    cases dat_int rb
    obtain ⟨p, vs, rfl, hp, dp⟩ := ra.sv s h1
    obtain ⟨v, h5, h6⟩ := DpAll.atI dp h3
    rcases hp with hp | hp
    · exact .inl ⟨p, vs, _, v, rfl, rfl, hp, h5, Grow.dat s h6 k⟩
    · exact .inr (.inl ⟨p, vs, _, v, rfl, rfl, hp, h5, Grow.dat s h6 k⟩)
  · cases h
def lenO : O → Option O
  | .dat (.str z) => if z.length ≤ sizeLine then some (.dat (.int z.length)) else none
  | a => a.sv.map fun ds => .dat (.int ds.length)
theorem prim_len : Prim1 K (fun x H Q => ∃ y n, [x] = [y] ∧ LenV K y H n ∧ Q (.int n) H) lenO := by
  intro G H x a o B Q s ra h k
  unfold lenO at h
  split at h
  · split at h
    · rename_i hz
      cases Option.some.inj h
      cases dat_str ra
      exact ⟨_, _, rfl, ⟨hz, rfl⟩, Grow.dat s (.int _) k⟩
    · cases h
  · obtain ⟨ds, h1, h2⟩ := Option.map_eq_some_iff.mp h
    subst h2
    obtain ⟨p, vs, rfl, hp, dp⟩ := ra.sv s h1
    refine ⟨_, vs.length, rfl, ?_, by rw [dps_len dp]; exact Grow.dat s (.int _) k⟩
    exact hp.imp (fun z => ⟨vs, z, rfl⟩) fun z => ⟨vs, z, rfl⟩
def isNO : O → Option O
  | .dat .none => bo true
  | _ => bo false
def notNO : O → Option O
  | .dat .none => bo false
  | _ => bo true
theorem RepO.ne_none {G H : Hp} {v : V} {o : O} {B : List Addr} (r : RepO K G H v o B) (h : o ≠ .dat .none) : v ≠ .non := by
  intro e
  subst e
  cases r with
  | dat q => cases q; exact h rfl
theorem prim_isN : Prim1 K (fun x H Q => Q (.bl (decide (x = .non))) H) isNO := by
  intro G H x a o B Q s ra h k
  unfold isNO at h
  split at h
  · cases Option.some.inj h
    cases dat_none ra
    exact Grow.dat s (.bl _) k
  · rename_i hn
    cases Option.some.inj h
    rw [decide_eq_false (ra.ne_none fun z => hn z)]
    exact Grow.dat s (.bl _) k
theorem prim_notN : Prim1 K (fun x H Q => Q (.bl (!decide (x = .non))) H) notNO := by
  intro G H x a o B Q s ra h k
  unfold notNO at h
  split at h
  · cases Option.some.inj h
    cases dat_none ra
    exact Grow.dat s (.bl _) k
  · rename_i hn
    cases Option.some.inj h
    rw [decide_eq_false (ra.ne_none fun z => hn z)]
    exact Grow.dat s (.bl _) k
def notO : O → Option O
  | .dat (.bool b) => bo (!b)
  | _ => none
theorem prim_not : Prim1 K (fun x H Q => ∃ c, x = .bl c ∧ Q (.bl (!c)) H) notO := by
  intro G H x a o B Q s ra h k
  unfold notO at h
  split at h
  · cases Option.some.inj h
    cases dat_bool ra
    exact ⟨_, rfl, Grow.dat s (.bl _) k⟩
  · cases h
end
section
variable {X : Cx} {R : RK} {a b : Expr} {f g : PF} {pos : Pos}
theorem pf_add (ha : PE X a (liftP X.K R f)) (hb : PE X b (liftP X.K R g)) : PE X (.BinOp a .Add b pos) (liftE X.K R (op2 addO f g)) := op2_ok (pe_op op_addA ha hb) prim_add
theorem pf_sub (ha : PE X a (liftP X.K R f)) (hb : PE X b (liftP X.K R g)) : PE X (.BinOp a .Sub b pos) (liftE X.K R (op2 subO f g)) := op2_ok (pe_op op_sub ha hb) prim_sub
theorem pf_mul (ha : PE X a (liftP X.K R f)) (hb : PE X b (liftP X.K R g)) : PE X (.BinOp a .Mult b pos) (liftE X.K R (op2 mulO f g)) := op2_ok (pe_op ((op_mulW.or op_mul).or op_repS) ha hb) prim_mul
theorem pf_fdiv (ha : PE X a (liftP X.K R f)) (hb : PE X b (liftP X.K R g)) : PE X (.BinOp a .FloorDiv b pos) (liftE X.K R (op2 fdivO f g)) := op2_ok (pe_op op_fdivW ha hb) prim_fdiv
theorem pf_mod (ha : PE X a (liftP X.K R f)) (hb : PE X b (liftP X.K R g)) : PE X (.BinOp a .Mod b pos) (liftE X.K R (op2 modO f g)) := op2_ok (pe_op op_mod ha hb) prim_mod
theorem pf_pow (ha : PE X a (liftP X.K R f)) (hb : PE X b (liftP X.K R g)) : PE X (.BinOp a .Pow b pos) (liftE X.K R (op2 powO f g)) := op2_ok (pe_op op_powB ha hb) prim_pow
theorem pf_neg (ha : PE X a (liftP X.K R f)) : PE X (.UnaryOp .USub a pos) (liftE X.K R (op1 negO f)) := op1_ok (pe_un un_neg ha) prim_neg
theorem pf_eq (hu : X.A.units + 64 < cLine) (ha : PE X a (liftP X.K R f)) (hb : PE X b (liftP X.K R g)) : PE X (.Compare a [.Eq] [b] pos) (liftE X.K R (op2 eqO f g)) := op2_ok (pe_cmpR (op_eqP hu) ha hb (nomark _)) prim_eq
theorem pf_ne (hu : X.A.units + 64 < cLine) (ha : PE X a (liftP X.K R f)) (hb : PE X b (liftP X.K R g)) : PE X (.Compare a [.NotEq] [b] pos) (liftE X.K R (op2 neO f g)) := op2_ok (pe_cmpR (op_neP hu) ha hb (nomark _)) prim_ne
theorem pf_lt (ha : PE X a (liftP X.K R f)) (hb : PE X b (liftP X.K R g)) : PE X (.Compare a [.Lt] [b] pos) (liftE X.K R (op2 ltO f g)) := op2_ok (pe_cmpR (op_lt.or op_lt_str) ha hb (nomark _)) prim_lt
theorem pf_le (ha : PE X a (liftP X.K R f)) (hb : PE X b (liftP X.K R g)) : PE X (.Compare a [.LtE] [b] pos) (liftE X.K R (op2 leO f g)) := op2_ok (pe_cmpR op_le ha hb (nomark _)) prim_le
theorem pf_gt (ha : PE X a (liftP X.K R f)) (hb : PE X b (liftP X.K R g)) : PE X (.Compare a [.Gt] [b] pos) (liftE X.K R (op2 gtO f g)) := op2_ok (pe_cmpR op_gt ha hb (nomark _)) prim_gt
theorem pf_ge (ha : PE X a (liftP X.K R f)) (hb : PE X b (liftP X.K R g)) : PE X (.Compare a [.GtE] [b] pos) (liftE X.K R (op2 geO f g)) := op2_ok (pe_cmpR op_ge ha hb (nomark _)) prim_ge
theorem pf_in (hu : X.A.units + 64 < cLine) (ha : PE X a (liftP X.K R f)) (hb : PE X b (liftP X.K R g)) (hm : behindInMarks .In b = false := by rfl) : PE X (.Compare a [.In] [b] pos) (liftE X.K R (op2 inO f g)) := op2_ok (pe_cmpR (OpR.or op_in_str (op_inP hu)) ha hb hm) prim_in
theorem pf_nin (hu : X.A.units + 64 < cLine) (ha : PE X a (liftP X.K R f)) (hb : PE X b (liftP X.K R g)) (hm : behindInMarks .NotIn b = false := by rfl) : PE X (.Compare a [.NotIn] [b] pos) (liftE X.K R (op2 ninO f g)) := op2_ok (pe_cmpR (OpR.or op_notin_str (op_ninP hu)) ha hb hm) prim_nin
theorem pf_isN {j pos'} (ha : PE X a (liftP X.K R f)) : PE X (.Compare a [.Is] [.Constant .none j pos'] pos) (liftE X.K R (op1 isNO f)) := op1_ok (pe_cmp (pc_isN ha)) prim_isN
theorem pf_notN {j pos'} (ha : PE X a (liftP X.K R f)) : PE X (.Compare a [.IsNot] [.Constant .none j pos'] pos) (liftE X.K R (op1 notNO f)) := op1_ok (pe_cmp (pc_notN ha)) prim_notN
theorem pf_not (ha : PE X a (liftP X.K R f)) : PE X (.UnaryOp .Not a pos) (liftE X.K R (op1 notO f)) := op1_ok (pe_not ha) prim_not
theorem pf_ix (ha : PE X a (liftP X.K R f)) (hb : PE X b (liftP X.K R g)) (hs : PlainIx b := by intro _ _; rfl) : PE X (.Subscript a b pos) (liftE X.K R (op2 ixO f g)) := op2_ok (pe_ix ix_seq ha hb hs) prim_ix
end
end Vs

namespace Vs
open PySem PySem.Spec PyProof.Rows L2 Ww

/-! ### names and constants -/
def slotF (i : Nat) : PF := fun ρ => match getS ρ i with
  | some _ => .ok (.slot i) ρ
  | none => .stuck
def tmpF (f : EF) : PF := fun ρ => (f ρ).bind fun o ρ1 => .ok (.tmp o) ρ1
def cF (d : PyData) : EF := fun ρ => .ok (.dat d) ρ
/-- a name as a value: a list of one's own is shared from now on -/
def varF (i : Nat) : EF := fun ρ => match ρ[i]? with
  | some (.val (.dat d)) => .ok (.dat d) ρ
  | some (.val (.ls ds)) => .ok (.dat (.list ds)) (ρ.set i (.val (.dat (.list ds))))
  | some (.bor (.dat d)) => .ok (.dat d) ρ
  | _ => .stuck
/-- a name whose value is handed on, and is not looked at again -/
def movF (i : Nat) : EF := fun ρ => match ρ[i]? with
  | some (.val o) => .ok o (ρ.set i .no)
  | some (.bor (.dat d)) => .ok (.dat d) ρ
  | _ => .stuck

section
variable {K : PySem.W.Frag} {R : RK} {pins σ : L2.St} {G H G' H' : Hp} {As Bs Cs T : List Addr} {Q : VK} {ρ : En}
theorem Slots.has {o : O} : ∀ {σ : L2.St} {ρ : En} {As : List Addr} {i : Nat}, Slots K G H σ ρ As → getS ρ i = some o → ∃ v, σ[i]? = some (some v)
  | _, _, _, i, .nil, g => by simp [getS] at g
  | _, _, _, 0, .no r, g => nomatch g
  | _, _, _, i + 1, .no r, g => by simpa using Slots.has (i := i) r (by simpa [getS] using g)
  | _, _, _, 0, .lent r, g => nomatch g
  | _, _, _, i + 1, .lent r, g => by simpa using Slots.has (i := i) r (by simpa [getS] using g)
  | _, _, _, 0, .val q r, g => ⟨_, rfl⟩
  | _, _, _, i + 1, .val q r, g => by simpa using Slots.has (i := i) r (by simpa [getS] using g)
  | _, _, _, 0, .bor q r, g => ⟨_, rfl⟩
  | _, _, _, i + 1, .bor q r, g => by simpa using Slots.has (i := i) r (by simpa [getS] using g)
def Sl.gap : Sl → Prop
  | .no => True
  | .lent => True
  | _ => False
theorem Slots.mkGap {y : Sl} {x : Option V} {σ : L2.St} {ρ : En} {As : List Addr} (hy : y.gap) (r : Slots K G H σ ρ As) : Slots K G H (x :: σ) (y :: ρ) As := by
  cases y with
  | no => exact .no r
  | lent => exact .lent r
  | val _ => exact hy.elim
  | bor _ => exact hy.elim
theorem Slots.mkFull {z : Sl} {o : O} {v : V} {σ : L2.St} {ρ : En} {B As : List Addr} (hz : z.get = some o) (q : RepO K G H v o B) (r : Slots K G H σ ρ As) : Slots K G H (some v :: σ) (z :: ρ) (B ++ As) := by
  cases z with
  | no => cases hz
  | lent => cases hz
  | val x => cases (Option.some.inj hz : x = o); exact .val q r
  | bor x => cases (Option.some.inj hz : x = o); exact .bor q r
theorem Slots.inv {x : Option V} {y : Sl} {σ : L2.St} {ρ : En} {As : List Addr} (r : Slots K G H (x :: σ) (y :: ρ) As) : (y.gap ∧ Slots K G H σ ρ As) ∨ ∃ v o B Cs, x = some v ∧ y.get = some o ∧ As = B ++ Cs ∧ RepO K G H v o B ∧ Slots K G H σ ρ Cs := by
  cases r with
  | no r => exact .inl ⟨trivial, r⟩
  | lent r => exact .inl ⟨trivial, r⟩
  | val q r => exact .inr ⟨_, _, _, _, rfl, rfl, rfl, q, r⟩
  | bor q r => exact .inr ⟨_, _, _, _, rfl, rfl, rfl, q, r⟩
theorem app_swap {A B C : List Addr} (a : Addr) : a ∈ A ++ (B ++ C) ↔ a ∈ B ++ (A ++ C) := by
  simp only [List.mem_append]
  exact ⟨fun z => z.elim (fun z => .inr (.inl z)) (fun z => z.elim .inl fun z => .inr (.inr z)), fun z => z.elim (fun z => .inr (.inl z)) (fun z => z.elim .inl fun z => .inr (.inr z))⟩
theorem nd_swap {A B C : List Addr} (h : (A ++ (B ++ C)).Nodup) : (B ++ (A ++ C)).Nodup := by
  obtain ⟨n1, n2, n3⟩ := List.nodup_append.mp h
  obtain ⟨m1, m2, m3⟩ := List.nodup_append.mp n2
  refine List.nodup_append.mpr ⟨m1, List.nodup_append.mpr ⟨n1, m2, fun a ha b hb => n3 a ha b (List.mem_append_right _ hb)⟩, fun a ha b hb z => ?_⟩
  subst z
  rcases List.mem_append.mp hb with w | w
  · exact n3 a w a (List.mem_append_left _ ha) rfl
  · exact m3 a ha a w rfl
theorem nd_same {D E F : List Addr} (h : (D ++ E).Nodup) (e : ∀ a, a ∈ F ↔ a ∈ E) (n : F.Nodup) : (D ++ F).Nodup := by
  obtain ⟨n1, n2, n3⟩ := List.nodup_append.mp h
  exact List.nodup_append.mpr ⟨n1, n, fun a ha b hb => n3 a ha b ((e b).1 hb)⟩
theorem mem_same {D E F : List Addr} (e : ∀ a, a ∈ F ↔ a ∈ E) (a : Addr) : a ∈ D ++ F ↔ a ∈ D ++ E := by
  simp only [List.mem_append, e a]
/-- the slot's value taken out -/
theorem Slots.out {o : O} {y : Sl} (hy : y.gap) : ∀ {σ : L2.St} {ρ : En} {As : List Addr} {i : Nat}, Slots K G H σ ρ As → getS ρ i = some o → ∃ v B Cs, σ[i]? = some (some v) ∧ RepO K G H v o B ∧ (∀ a, a ∈ As ↔ a ∈ B ++ Cs) ∧ (As.Nodup → (B ++ Cs).Nodup) ∧
    Slots K G H σ (ρ.set i y) Cs
  | [], [], _, i, _, g => by simp [getS] at g
  | [], _ :: _, _, i, r, g => by cases r
  | _ :: _, [], _, i, r, g => by cases r
  | x :: σ, z :: ρ, As, 0, r, g => by
    have g' : z.get = some o := g
    rcases r.inv with ⟨h, _⟩ | ⟨v, o', B, Cs, rfl, h2, rfl, q, r⟩
    · cases z <;> first | exact h.elim | cases g'
    · rw [g'] at h2
      cases (Option.some.inj h2)
      exact ⟨v, B, Cs, rfl, q, fun a => Iff.rfl, id, .mkGap hy r⟩
  | x :: σ, z :: ρ, As, i + 1, r, g => by
    have g' : getS ρ i = some o := by simpa [getS] using g
    rcases r.inv with ⟨h, r⟩ | ⟨v, o', D, E, rfl, hz, rfl, q, r⟩
    · obtain ⟨v, B, Cs, h1, h2, h3, h4, h5⟩ := Slots.out hy r g'
      exact ⟨v, B, Cs, by simpa using h1, h2, h3, h4, .mkGap h h5⟩
    · obtain ⟨w, B, Cs, h1, h2, h3, h4, h5⟩ := Slots.out hy r g'
      refine ⟨w, B, D ++ Cs, by simpa using h1, h2, fun a => ?_, fun nd => ?_, .mkFull hz q h5⟩
      · rw [mem_same h3 a]
        exact app_swap a
      · exact nd_swap (nd_same nd (fun a => (h3 a).symm) (h4 (List.nodup_append.mp nd).2.1))
/-- a value put into a slot of which nothing is known (its place holds v) -/
theorem Slots.into {v : V} {o : O} {z : Sl} {B : List Addr} (hz : z.get = some o) (q : RepO K G H v o B) : ∀ {σ : L2.St} {ρ : En} {As : List Addr} {i : Nat} {y : Sl}, Slots K G H σ ρ As → ρ[i]? = some y → y.gap → σ[i]? = some (some v) →
    ∃ Cs, Slots K G H σ (ρ.set i z) Cs ∧ (∀ a, a ∈ Cs ↔ a ∈ B ++ As) ∧ ((B ++ As).Nodup → Cs.Nodup)
  | [], [], _, i, _, _, g, _, _ => by simp at g
  | [], _ :: _, _, i, _, r, _, _, _ => by cases r
  | _ :: _, [], _, i, _, r, _, _, _ => by cases r
  | x :: σ, u :: ρ, As, 0, y, r, g, hy, h => by
    simp only [List.getElem?_cons_zero, Option.some.injEq] at g h
    subst g h
    rcases r.inv with ⟨_, r⟩ | ⟨v', o', D, E, _, h2, _, _, _⟩
    · exact ⟨_, .mkFull hz q r, fun a => Iff.rfl, id⟩
    · cases u <;> first | exact hy.elim | cases h2
  | x :: σ, u :: ρ, As, i + 1, y, r, g, hy, h => by
    have g' : ρ[i]? = some y := by simpa using g
    have h' : σ[i]? = some (some v) := by simpa using h
    rcases r.inv with ⟨hg, r⟩ | ⟨v', o', D, E, rfl, hu, rfl, q2, r⟩
    · obtain ⟨Cs, h1, h2, h3⟩ := Slots.into hz q r g' hy h'
      exact ⟨Cs, .mkGap hg h1, h2, h3⟩
    · obtain ⟨Cs, h1, h2, h3⟩ := Slots.into hz q r g' hy h'
      refine ⟨D ++ Cs, .mkFull hu q2 h1, fun a => ?_, fun nd => ?_⟩
      · rw [mem_same h2 a]
        exact app_swap a
      · exact nd_same (nd_swap nd) h2 (h3 (List.nodup_append.mp (nd_swap nd)).2.1)
end
end Vs

namespace Vs
open PySem PySem.Spec PyProof.Rows L2 Ww
section
variable {K : PySem.W.Frag} {R : RK} {pins σ : L2.St} {G H G' H' : Hp} {As Bs Cs T : List Addr} {Q : VK} {ρ : En}
def Sl.free : Sl → Prop
  | .no => True
  | .val _ => True
  | _ => False
theorem Pin.set {i : Nat} {x : Sl} (p : Pin pins σ ρ) (h : x.free) : Pin pins σ (ρ.set i x) := by
  refine ⟨p.1, fun j hj => p.2 j ?_⟩
  by_cases e : i = j
  · subst e
    by_cases hl : i < ρ.length
    · rw [List.getElem?_set_self hl] at hj
      rcases hj with z | ⟨o, z⟩
      · rw [Option.some.inj z] at h; exact h.elim
      · rw [Option.some.inj z] at h; exact h.elim
    · rw [List.getElem?_eq_none (by rw [List.length_set]; omega)] at hj
      rcases hj with z | ⟨o, z⟩ <;> cases z
  · rw [List.getElem?_set_ne e] at hj
    exact hj
theorem getS_val {i : Nat} {o : O} (h : ρ[i]? = some (.val o)) : getS ρ i = some o := by unfold getS; rw [h]; rfl
theorem getS_bor {i : Nat} {o : O} (h : ρ[i]? = some (.bor o)) : getS ρ i = some o := by unfold getS; rw [h]; rfl
theorem Kont.now {α β : Type} {rel : Hp → Hp → β → α → List Addr → Prop} {Q : β → Hp → Prop} {a : α} {v : β} (k : Kont rel K R pins σ G H As Q (.ok a ρ)) (s : Ste K pins G H σ ρ Cs) (e : ∀ a, a ∈ Bs ++ Cs → a ∈ As) (nd : (Bs ++ Cs).Nodup) (r : rel G H v a Bs) : Q v H :=
  k G H Cs v Bs (Ext.refl.less e) nd r s
/-- a list of one's own is shared -/
theorem Ste.share {i : Nat} {ds : List PyData} (s : Ste K pins G H σ ρ As) (h : ρ[i]? = some (.val (.ls ds))) : ∃ v G' Cs, σ[i]? = some (some v) ∧ Ext G H As G' H Cs ∧ Dp K G' v (.list ds) ∧ Ste K pins G' H σ (ρ.set i (.val (.dat (.list ds)))) Cs := by
  obtain ⟨v, B, Cs, h1, h2, h3, h4, h5⟩ := Slots.out (y := .no) trivial s.slots (getS_val h)
  cases h2 with
  | @ls a vs _ g1 g2 g3 =>
    have nd := h4 s.nd
    have na : a ∉ Cs := fun z => nd_disj nd a List.mem_cons_self z
    have e : Ext G H [a] (upd G a (.lst vs)) H [] := ⟨fun b x q => by rw [upd_ne (ne_of_none q g1)]; exact q, fun _ _ q _ => q, fun b q _ n => by
      rw [upd_ne fun z => n (by rw [z]; exact List.mem_cons_self)]; exact q, fun _ z => nomatch z⟩
    have h6 := h5.ext e fun b hb z => by rw [List.mem_singleton.mp z] at hb; exact na hb
    have sub : Sub (upd G a (.lst vs)) H := fun b x q => by
      by_cases z : b = a
      · subst z
        rw [upd_same] at q
        rw [g2, q]
      · rw [upd_ne z] at q
        exact s.sub b x q
    have dp : Dp K (upd G a (.lst vs)) (.ref a) (.list ds) := .lst (SqL.of upd_same) (dps_same e.sub g3)
    have hi : i < ρ.length := (List.getElem?_eq_some_iff.mp h).1
    obtain ⟨Ds, w1, w2, w3⟩ := Slots.into (i := i) (B := []) (z := .val (.dat (.list ds))) rfl (.dat dp) h6 (List.getElem?_set_self hi) trivial h1
    rw [List.set_set] at w1
    have e2 : Ext G H As (upd G a (.lst vs)) H Ds := (e.frame Cs).perm (fun b => by rw [h3 b]; simp only [List.mem_append]; exact Or.comm) fun b hb => by
      rw [List.append_nil]
      exact (w2 b).1 hb
    exact ⟨.ref a, _, Ds, h1, e2, dp, ⟨w1, w3 (List.nodup_append.mp nd).2.1, sub, s.pin.set trivial⟩⟩
theorem var_ok {X : Cx} {e : Expr} {i : Nat} (h : PE X e (tVar i)) : PE X e (liftE X.K R (varF i)) := by
  refine PE.weak h fun σ H Q ⟨pins, G, ρ, As, s, k⟩ => ?_
  unfold varF at k
  split at k
  · rename_i d hd
    obtain ⟨v, hv⟩ := s.slots.has (getS_val hd)
    obtain ⟨Bs, r, _⟩ := s.slots.at hv (getS_val hd)
    exact ⟨v, hv, Kont.now k s (Bs := []) (fun a z => z) s.nd (.dat r.dp0)⟩
  · rename_i ds hd
    obtain ⟨v, G', Cs, h1, h2, h3, h4⟩ := s.share hd
    exact ⟨v, h1, k G' H Cs v [] h2 h4.nd (.dat h3) h4⟩
  · rename_i d hd
    obtain ⟨v, hv⟩ := s.slots.has (getS_bor hd)
    obtain ⟨Bs, r, _⟩ := s.slots.at hv (getS_bor hd)
    exact ⟨v, hv, Kont.now k s (Bs := []) (fun a z => z) s.nd (.dat r.dp0)⟩
  · exact k.elim
theorem mov_ok {X : Cx} {e : Expr} {i : Nat} (h : PE X e (tVar i)) : PE X e (liftE X.K R (movF i)) := by
  refine PE.weak h fun σ H Q ⟨pins, G, ρ, As, s, k⟩ => ?_
  unfold movF at k
  split at k
  · rename_i o ho
    obtain ⟨v, B, Cs, h1, h2, h3, h4, h5⟩ := Slots.out (y := .no) trivial s.slots (getS_val ho)
    exact ⟨v, h1, Kont.now k (Cs := Cs) ⟨h5, (List.nodup_append.mp (h4 s.nd)).2.1, s.sub, s.pin.set trivial⟩ (fun a z => (h3 a).2 z) (h4 s.nd) h2⟩
  · rename_i d hd
    obtain ⟨v, hv⟩ := s.slots.has (getS_bor hd)
    obtain ⟨Bs, r, _⟩ := s.slots.at hv (getS_bor hd)
    exact ⟨v, hv, Kont.now k s (Bs := []) (fun a z => z) s.nd (.dat r.dp0)⟩
  · exact k.elim
theorem slot_ok {X : Cx} {e : Expr} {i : Nat} (h : PE X e (tVar i)) : PE X e (liftP X.K R (slotF i)) := by
  refine PE.weak h fun σ H Q ⟨pins, G, ρ, As, s, k⟩ => ?_
  unfold slotF at k
  split at k
  · rename_i o ho
    obtain ⟨v, hv⟩ := s.slots.has ho
    exact ⟨v, hv, Kont.now k s (Bs := []) (fun a z => z) s.nd (.slot hv)⟩
  · exact k.elim
theorem tmp_ok {X : Cx} {e : Expr} {f : EF} (h : PE X e (liftE X.K R f)) : PE X e (liftP X.K R (tmpF f)) := by
  refine PE.weak h fun σ H Q ⟨pins, G, ρ, As, s, k⟩ => ⟨pins, G, ρ, As, s, ?_⟩
  refine Kont.bind (T := []) (Q := Q) s.nd (fun a z => nomatch z) k fun o ρ1 G1 H1 As1 v Bs e1 nd1 r1 s1 k1 => ?_
  exact Kont.now k1 s1 (Bs := Bs) (fun a z => by simpa using z) (by simpa using nd1) (.tmp r1)
theorem c_ok {X : Cx} {e : Expr} {v : V} {d : PyData} (h : PE X e (tC v)) (hd : ∀ G, Dp X.K G v d) : PE X e (liftE X.K R (cF d)) := by
  refine PE.weak h fun σ H Q ⟨pins, G, ρ, As, s, k⟩ => ?_
  exact Kont.now k s (Bs := []) (fun a z => z) s.nd (.dat (hd G))
end

/-! ### tests -/
def tstF (f : EF) : TF := fun ρ => (f ρ).bind fun o ρ1 => match o with
  | .dat (.bool b) => .ok b ρ1
  | _ => .stuck
def trO : O → Option Bool
  | .dat .none => some false
  | .dat (.bool b) => some b
  | .dat (.int i) => some (i != 0)
  | .dat (.str z) => if z.length ≤ sizeLine then some ((z.length : Int) != 0) else none
  | .dk kvs => some (!kvs.isEmpty)
  | o => o.sv.map fun ds => !ds.isEmpty
/-- a value's truth -/
def truF (f : PF) : TF := fun ρ => (f ρ).bind fun p ρ1 => match p.get ρ1 with
  | some o => match trO o with
    | some b => .ok b ρ1
    | none => .stuck
  | none => .stuck
def notT (f : TF) : TF := fun ρ => (f ρ).bind fun b ρ1 => .ok (!b) ρ1
def andT (f g : TF) : TF := fun ρ => (f ρ).bind fun b ρ1 => if b = true then g ρ1 else .ok false ρ1
def orT (f g : TF) : TF := fun ρ => (f ρ).bind fun b ρ1 => if b = true then .ok true ρ1 else g ρ1
def ifE (t : TF) (f g : EF) : EF := fun ρ => (t ρ).bind fun b ρ1 => if b = true then f ρ1 else g ρ1
section
variable {K : PySem.W.Frag} {R : RK} {pins σ : L2.St} {G H G' H' : Hp} {As Bs Cs T : List Addr} {Q : VK} {ρ : En} {X : Cx}
theorem tst_le {f : EF} {t : TE} (h : ∀ σ H Q, liftE K R f σ H Q → t σ H Q) (σ : L2.St) (H : Hp) (Q : Bool → Hp → Prop) (hw : liftT K R (tstF f) σ H Q) : tTest t σ H Q := by
  obtain ⟨pins, G, ρ, As, s, k⟩ := hw
  refine h σ H _ ⟨pins, G, ρ, As, s, ?_⟩
  refine Kont.bind (T := []) (Q := Q) s.nd (fun a z => nomatch z) k fun o ρ1 G1 H1 As1 v Bs e1 nd1 r1 s1 k1 => ?_
  split at k1
  · rename_i b
    cases dat_bool r1
    exact ⟨b, rfl, Kont.now k1 s1 (Bs := []) (fun a z => List.mem_append_right _ (List.mem_append_right _ z)) s1.nd ⟨rfl, rfl⟩⟩
  · exact k1.elim
theorem tst_ok {e : Expr} {f : EF} {t : TE} (h : PT X e (tTest t)) (l : ∀ σ H Q, liftE X.K R f σ H Q → t σ H Q) : PT X e (liftT X.K R (tstF f)) := PT.weak h (tst_le l)
theorem tru_le {o : O} {v : V} {b : Bool} {B : List Addr} (s : Sub G H) (r : RepO K G H v o B) (h : trO o = some b) : TruV K v H b := by
  unfold trO at h
  split at h
  · cases Option.some.inj h; cases dat_none r; rfl
  · cases Option.some.inj h; cases dat_bool r; rfl
  · cases Option.some.inj h; cases dat_int r; rfl
  · split at h
    · rename_i hz
      cases Option.some.inj h; cases dat_str r; exact ⟨hz, rfl⟩
    · cases h
  · rename_i kvs
    cases Option.some.inj h
    cases r with
    | @dk a es _ h1 h2 h3 =>
      refine .inr (.inr ⟨es, h2, ?_⟩)
      have := All2.len h3
      cases es <;> cases kvs <;> first | rfl | cases this
  · obtain ⟨ds, h1, h2⟩ := Option.map_eq_some_iff.mp h
    subst h2
    obtain ⟨p, vs, rfl, hp, dp⟩ := r.sv s h1
    have e : (!ds.isEmpty) = !vs.isEmpty := by
      cases dp <;> rfl
    rcases hp with hp | hp
    · exact .inl ⟨vs, hp, e⟩
    · exact .inr (.inl ⟨vs, hp, e⟩)
theorem tru_ok' {a : Expr} {f : PF} (ha : PE X a (liftP X.K R f)) (he : ∀ whole, isTrue a X.env whole = (do let v ← whole; standAt a.pos; holding [v] (truthy v)) := by intro _; rfl) : PT X a (liftT X.K R (truF f)) := by
  refine PT.weak (pt_truth ha he) fun σ H Q ⟨pins, G, ρ, As, s, k⟩ => ⟨pins, G, ρ, As, s, ?_⟩
  refine Kont.bind (T := []) (Q := Q) s.nd (fun a z => nomatch z) k fun q ρ1 G1 H1 As1 v Bs e1 nd1 r1 s1 k1 => ?_
  split at k1
  · rename_i o ho
    split at k1
    · rename_i b hb
      obtain ⟨Cs, rc⟩ := RepP.get r1 s1 ho
      exact ⟨b, tru_le s1.sub rc hb, Kont.now k1 s1 (Bs := []) (fun a z => List.mem_append_right _ (List.mem_append_right _ z)) s1.nd ⟨rfl, rfl⟩⟩
    · exact k1.elim
  · exact k1.elim
theorem bnil {b c : Bool} (h : relB σ G H b c Bs) : b = c ∧ Bs = [] := h
theorem pt_notF {a : Expr} {f : TF} {pos : Pos} (ha : PT X a (liftT X.K R f)) : PT X (.UnaryOp .Not a pos) (liftT X.K R (notT f)) := by
  refine PT.weak (pt_not ha) fun σ H Q ⟨pins, G, ρ, As, s, k⟩ => ⟨pins, G, ρ, As, s, ?_⟩
  refine Kont.bind (T := []) (Q := Q) s.nd (fun a z => nomatch z) k fun q ρ1 G1 H1 As1 v Bs e1 nd1 r1 s1 k1 => ?_
  obtain ⟨rfl, rfl⟩ := r1
  exact Kont.now k1 s1 (Bs := []) (fun a z => by simpa using z) s1.nd ⟨rfl, rfl⟩
variable {a b : Expr} {rest : List Expr} {f g : TF} {pos : Pos}
theorem pw_andF1 (ha : PT X a (liftT X.K R f)) : PW X (.BoolOp .And [a] pos) (liftT X.K R f) := pw_and1 ha
theorem pw_orF1 (ha : PT X a (liftT X.K R f)) : PW X (.BoolOp .Or [a] pos) (liftT X.K R f) := pw_or1 ha
theorem and_le (σ : L2.St) (H : Hp) (Q : Bool → Hp → Prop) (hw : liftT K R (andT f g) σ H Q) : tAnd (liftT K R f) (liftT K R g) σ H Q := by
  obtain ⟨pins, G, ρ, As, s, k⟩ := hw
  refine ⟨pins, G, ρ, As, s, ?_⟩
  refine Kont.bind (T := []) (Q := Q) s.nd (fun a z => nomatch z) k fun q ρ1 G1 H1 As1 v Bs e1 nd1 r1 s1 k1 => ?_
  obtain ⟨rfl, rfl⟩ := r1
  by_cases c : v = true
  · rw [if_pos c] at k1 ⊢
    exact ⟨pins, G1, ρ1, As1, s1, by simpa using k1⟩
  · rw [if_neg c] at k1 ⊢
    exact Kont.now k1 s1 (Bs := []) (fun a z => by simpa using z) s1.nd ⟨rfl, rfl⟩
theorem or_le (σ : L2.St) (H : Hp) (Q : Bool → Hp → Prop) (hw : liftT K R (orT f g) σ H Q) : tOr (liftT K R f) (liftT K R g) σ H Q := by
  obtain ⟨pins, G, ρ, As, s, k⟩ := hw
  refine ⟨pins, G, ρ, As, s, ?_⟩
  refine Kont.bind (T := []) (Q := Q) s.nd (fun a z => nomatch z) k fun q ρ1 G1 H1 As1 v Bs e1 nd1 r1 s1 k1 => ?_
  obtain ⟨rfl, rfl⟩ := r1
  by_cases c : v = true
  · rw [if_pos c] at k1 ⊢
    exact Kont.now k1 s1 (Bs := []) (fun a z => by simpa using z) s1.nd ⟨rfl, rfl⟩
  · rw [if_neg c] at k1 ⊢
    exact ⟨pins, G1, ρ1, As1, s1, by simpa using k1⟩
theorem pw_andF (ha : PT X a (liftT X.K R f)) (hb : PW X (.BoolOp .And (b :: rest) pos) (liftT X.K R g)) : PW X (.BoolOp .And (a :: b :: rest) pos) (liftT X.K R (andT f g)) :=
  let h := pw_and ha hb
  ⟨fun wh pins s σ H Q I q => h.run wh pins s σ H Q I (and_le σ H Q q)⟩
theorem pw_orF (ha : PT X a (liftT X.K R f)) (hb : PW X (.BoolOp .Or (b :: rest) pos) (liftT X.K R g)) : PW X (.BoolOp .Or (a :: b :: rest) pos) (liftT X.K R (orT f g)) :=
  let h := pw_or ha hb
  ⟨fun wh pins s σ H Q I q => h.run wh pins s σ H Q I (or_le σ H Q q)⟩
theorem pf_if {c : Expr} {t : TF} {x y : EF} (hc : PT X c (liftT X.K R t)) (ha : PE X a (liftE X.K R x)) (hb : PE X b (liftE X.K R y)) : PE X (.IfExp c a b pos) (liftE X.K R (ifE t x y)) := by
  refine PE.weak (pe_ifExp hc ha hb) fun σ H Q ⟨pins, G, ρ, As, s, k⟩ => ⟨pins, G, ρ, As, s, ?_⟩
  refine Kont.bind (T := []) (Q := Q) s.nd (fun a z => nomatch z) k fun q ρ1 G1 H1 As1 v Bs e1 nd1 r1 s1 k1 => ?_
  obtain ⟨rfl, rfl⟩ := r1
  by_cases c : v = true
  · rw [if_pos c] at k1 ⊢
    exact ⟨pins, G1, ρ1, As1, s1, by simpa using k1⟩
  · rw [if_neg c] at k1 ⊢
    exact ⟨pins, G1, ρ1, As1, s1, by simpa using k1⟩
/-! #### and, or as values -/
def andE (f g : EF) : EF := fun ρ => (f ρ).bind fun o ρ1 => match o with
  | .dat (.bool true) => g ρ1
  | .dat (.bool false) => .ok (.dat (.bool false)) ρ1
  | _ => .stuck
def orE (f g : EF) : EF := fun ρ => (f ρ).bind fun o ρ1 => match o with
  | .dat (.bool true) => .ok (.dat (.bool true)) ρ1
  | .dat (.bool false) => g ρ1
  | _ => .stuck
theorem pf_one {op} {x : EF} (h : PE X a (liftE X.K R x)) : PE X (.BoolOp op [a] pos) (liftE X.K R x) := pe_one h
theorem pf_and {x y : EF} (ha : PE X a (liftE X.K R x)) (hb : PE X (.BoolOp .And (b :: rest) pos) (liftE X.K R y)) : PE X (.BoolOp .And (a :: b :: rest) pos) (liftE X.K R (andE x y)) := by
  refine PE.weak (pe_and ha hb) fun σ H Q ⟨pins, G, ρ, As, s, k⟩ => ⟨pins, G, ρ, As, s, ?_⟩
  refine Kont.bind (T := []) (Q := Q) s.nd (fun a z => nomatch z) k fun q ρ1 G1 H1 As1 v Bs e1 nd1 r1 s1 k1 => ?_
  split at k1
  · cases dat_bool r1
    cases r1
    exact ⟨true, rfl, pins, G1, ρ1, As1, s1, by simpa using k1⟩
  · cases dat_bool r1
    exact ⟨false, rfl, Kont.now k1 s1 (Bs := []) (fun a z => List.mem_append_right _ (List.mem_append_right _ z)) s1.nd (.dat (.bl _))⟩
  · exact k1.elim
theorem pf_or {x y : EF} (ha : PE X a (liftE X.K R x)) (hb : PE X (.BoolOp .Or (b :: rest) pos) (liftE X.K R y)) : PE X (.BoolOp .Or (a :: b :: rest) pos) (liftE X.K R (orE x y)) := by
  refine PE.weak (pe_or ha hb) fun σ H Q ⟨pins, G, ρ, As, s, k⟩ => ⟨pins, G, ρ, As, s, ?_⟩
  refine Kont.bind (T := []) (Q := Q) s.nd (fun a z => nomatch z) k fun q ρ1 G1 H1 As1 v Bs e1 nd1 r1 s1 k1 => ?_
  split at k1
  · cases dat_bool r1
    exact ⟨true, rfl, Kont.now k1 s1 (Bs := []) (fun a z => List.mem_append_right _ (List.mem_append_right _ z)) s1.nd (.dat (.bl _))⟩
  · cases dat_bool r1
    cases r1
    exact ⟨false, rfl, pins, G1, ρ1, As1, s1, by simpa using k1⟩
  · exact k1.elim
end
end Vs

namespace Vs
open PySem PySem.Spec PyProof.Rows L2 Ww

/-! ### displays -/
def nilA : AF := fun ρ => .ok [] ρ
def consA (f : EF) (g : AF) : AF := fun ρ => (f ρ).bind fun o ρ1 => (g ρ1).bind fun os ρ2 => .ok (o :: os) ρ2
def dvs : List O → Option (List PyData)
  | [] => some []
  | o :: os => match o.dv, dvs os with
    | some d, some ds => some (d :: ds)
    | _, _ => none
def tupF (g : AF) : EF := fun ρ => (g ρ).bind fun os ρ1 => match dvs os with
  | some ds => if ds.length ≤ sizeLine then .ok (.dat (.tuple ds)) ρ1 else .stuck
  | none => .stuck
def lstF (g : AF) : EF := fun ρ => (g ρ).bind fun os ρ1 => match dvs os with
  | some ds => if ds.length ≤ sizeLine then .ok (.ls ds) ρ1 else .stuck
  | none => .stuck
section
variable {K : PySem.W.Frag} {R : RK} {pins σ : L2.St} {G H G' H' : Hp} {As Bs Cs T : List Addr} {Q : VK} {ρ : En} {X : Cx}
/-- one cell shared -/
theorem share_cell {a : Addr} {u : HO} (s : Sub G H) (g1 : G a = none) (g2 : H a = some u) : Ext G H [a] (upd G a u) H [] ∧ Sub (upd G a u) H := by
  refine ⟨⟨fun b x q => by rw [upd_ne (ne_of_none q g1)]; exact q, fun _ _ q _ => q, fun b q _ n => by
      rw [upd_ne fun z => n (by rw [z]; exact List.mem_cons_self)]; exact q, fun _ z => nomatch z⟩, fun b x q => ?_⟩
  by_cases z : b = a
  · subst z
    rw [upd_same] at q
    rw [g2, q]
  · rw [upd_ne z] at q
    exact s b x q
theorem RepEls.share {vs : List V} {es : List El} {Bs : List Addr} (r : RepEls K G H vs es Bs) : Bs.Nodup → Sub G H → ∃ G', Ext G H Bs G' H [] ∧ Sub G' H ∧ DpAll K G' vs (es.map El.dv) := by
  induction r with
  | nil => exact fun _ s => ⟨G, Ext.refl, s, .nil⟩
  | d q _ ih =>
    intro nd s
    obtain ⟨G2, e2, s2, d2⟩ := ih nd s
    exact ⟨G2, e2, s2, .cons (dp_same e2.sub q) d2⟩
  | @l a us xs vs es Bs h1 h2 h3 _ ih =>
    intro nd s
    obtain ⟨n1, n2⟩ := List.nodup_cons.mp nd
    obtain ⟨G2, e2, s2, d2⟩ := ih n2 s
    have g1 : G2 a = none := e2.frz a h1 (by rw [h2]; exact fun z => nomatch z) n1
    obtain ⟨e3, s3⟩ := share_cell s2 g1 h2
    refine ⟨_, ?_, s3, .cons (.lst (SqL.of upd_same) (dps_same (e2.sub.trans e3.sub) h3)) (dps_same e3.sub d2)⟩
    exact (e2.frame [a]).trans (e3.perm (fun a => by simp) fun a z => nomatch z)
/-- shared from now on -/
theorem RepO.share {v : V} {o : O} {B : List Addr} {d : PyData} (r : RepO K G H v o B) (nd : B.Nodup) (s : Sub G H) (h : o.dv = some d) : ∃ G', Ext G H B G' H [] ∧ Sub G' H ∧ Dp K G' v d := by
  cases r with
  | dat q =>
    cases (Option.some.inj h : _ = d)
    exact ⟨G, Ext.refl, s, q⟩
  | @ls a vs ds g1 g2 g3 =>
    cases (Option.some.inj h : _ = d)
    have e : Ext G H [a] (upd G a (.lst vs)) H [] := ⟨fun b x q => by rw [upd_ne (ne_of_none q g1)]; exact q, fun _ _ q _ => q, fun b q _ n => by
      rw [upd_ne fun z => n (by rw [z]; exact List.mem_cons_self)]; exact q, fun _ z => nomatch z⟩
    refine ⟨_, e, fun b x q => ?_, .lst (SqL.of upd_same) (dps_same e.sub g3)⟩
    by_cases z : b = a
    · subst z
      rw [upd_same] at q
      rw [g2, q]
    · rw [upd_ne z] at q
      exact s b x q
  | dk _ _ _ => cases h
  | @tp a vs es Bs g1 g2 g3 =>
    cases (Option.some.inj h : _ = d)
    obtain ⟨n1, n2⟩ := List.nodup_cons.mp nd
    obtain ⟨G2, e2, s2, d2⟩ := g3.share n2 s
    have h1 : G2 a = none := e2.frz a g1 (by rw [g2]; exact fun z => nomatch z) n1
    obtain ⟨e3, s3⟩ := share_cell s2 h1 g2
    refine ⟨_, ?_, s3, .tup (SqT.of upd_same) (dps_same e3.sub d2)⟩
    exact (e2.frame [a]).trans (e3.perm (fun a => by simp) fun a z => nomatch z)
  | lt _ _ _ => cases h
  | @ll a vs es Bs g1 g2 g3 =>
    cases (Option.some.inj h : _ = d)
    obtain ⟨n1, n2⟩ := List.nodup_cons.mp nd
    obtain ⟨G2, e2, s2, d2⟩ := g3.share n2 s
    have h1 : G2 a = none := e2.frz a g1 (by rw [g2]; exact fun z => nomatch z) n1
    obtain ⟨e3, s3⟩ := share_cell s2 h1 g2
    refine ⟨_, ?_, s3, .lst (SqL.of upd_same) (dps_same e3.sub d2)⟩
    exact (e2.frame [a]).trans (e3.perm (fun a => by simp) fun a z => nomatch z)
theorem RepOs.share {vs : List V} {os : List O} {Bs : List Addr} (r : RepOs K G H vs os Bs) : ∀ {ds : List PyData}, Bs.Nodup → Sub G H → dvs os = some ds → ∃ G', Ext G H Bs G' H [] ∧ Sub G' H ∧ DpAll K G' vs ds := by
  induction r with
  | nil =>
    intro ds _ s h
    cases (Option.some.inj h : [] = ds)
    exact ⟨G, Ext.refl, s, .nil⟩
  | @cons v vs o os B Bs r rs ih =>
    intro ds nd s h
    unfold dvs at h
    split at h
    · rename_i d ds' h1 h2
      cases (Option.some.inj h : _ = ds)
      obtain ⟨n1, n2, n3⟩ := List.nodup_append.mp nd
      obtain ⟨G2, e2, s2, d2⟩ := ih n2 s h2
      have r' := r.ext e2 fun a ha hb => n3 a ha a hb rfl
      obtain ⟨G3, e3, s3, d3⟩ := r'.share n1 s2 h1
      refine ⟨G3, ?_, s3, .cons d3 (dps_same e3.sub d2)⟩
      exact ((e2.frame B).trans ((e3.perm (fun a => by simp) fun a z => nomatch z)))
    · cases h
theorem pa_nilF : PA X [] (liftA X.K R nilA) := by
  refine PA.weak pa_nil fun σ H Q ⟨pins, G, ρ, As, s, k⟩ => ?_
  exact Kont.now k s (Bs := []) (fun a z => z) s.nd .nil
theorem pa_consF {e : Expr} {es : List Expr} {f : EF} {g : AF} (h1 : PE X e (liftE X.K R f)) (h2 : PA X es (liftA X.K R g)) (hs : starEach (e :: es) X.env = (false, eval e X.env) :: starEach es X.env := by rfl) : PA X (e :: es) (liftA X.K R (consA f g)) := by
  refine PA.weak (pa_cons h1 h2 hs) fun σ H Q ⟨pins, G, ρ, As, s, k⟩ => ⟨pins, G, ρ, As, s, ?_⟩
  refine Kont.bind (T := []) (Q := Q) s.nd (fun a z => nomatch z) k fun o ρ1 G1 H1 As1 v Bs e1 nd1 r1 s1 k1 => ⟨pins, G1, ρ1, As1, s1, ?_⟩
  have nd1' : (Bs ++ As1).Nodup := by simpa using nd1
  refine Kont.bind (T := Bs) (Q := Q) nd1' (fun a h => (RepO.there r1 a h).1) (by simpa using k1) fun os ρ2 G2 H2 As2 vs Cs e2 nd2 r2 s2 k2 => ?_
  have r1' := RepO.ext r1 e2 (nd_disj nd1')
  exact Kont.now (Bs := Bs ++ Cs) k2 s2 (fun a z => by simpa using z) (by simpa using nd2) (.cons r1' r2)
/-- behind a display: all items shared -/
theorem Kont.shared {os : List O} {ds : List PyData} {vs : List V} {Q1 : VK} {p : Addr} {u : HO} {o : O} (s : Ste K pins G H σ ρ As) (r : RepOs K G H vs os Bs) (nd : (Bs ++ As).Nodup) (hd : dvs os = some ds) (k : KontE K R pins σ G H (Bs ++ As) Q (.ok o ρ))
    (np : H p = none) (hn : ∀ G', Sub G' H → DpAll K G' vs ds → ∃ G2 H2 v Ds, Grow G' H G2 H2 Ds ∧ RepO K G2 H2 v o Ds ∧ Q1 v H2 = Q v H2 ∧ v = .ref p ∧ H2 = upd H p u) : Q (.ref p) (upd H p u) := by
  obtain ⟨G1, e1, s1, d1⟩ := r.share (List.nodup_append.mp nd).1 s.sub hd
  obtain ⟨G2, H2, v, Ds, g, r2, _, rfl, rfl⟩ := hn G1 s1 d1
  have st1 := s.ext e1 (fun a ha hb => nd_disj nd a hb ha) s1
  have e2 : Ext G H (Bs ++ As) G1 H As := by
    have := e1.frame As
    exact this.perm (fun a => by simp only [List.mem_append]; exact Or.comm) fun a ha => by simpa using ha
  exact KontE.grow st1 (T := []) (Kont.re k e2) g r2
theorem pf_tup {es : List Expr} {g : AF} {x1 pos} (h : PA X es (liftA X.K R g)) : PE X (.Tuple es x1 pos) (liftE X.K R (tupF g)) := by
  refine PE.weak (pe_tup h) fun σ H Q ⟨pins, G, ρ, As, s, k⟩ => ⟨pins, G, ρ, As, s, ?_⟩
  refine Kont.bind (T := []) (Q := Q) s.nd (fun a z => nomatch z) k fun os ρ1 G1 H1 As1 vs Bs e1 nd1 r1 s1 k1 => ?_
  split at k1
  · rename_i ds hd
    split at k1
    · rename_i hz
      have nd1' : (Bs ++ As1).Nodup := by simpa using nd1
      obtain ⟨G2, e2, s2, d2⟩ := RepOs.share r1 (List.nodup_append.mp nd1').1 s1.sub hd
      refine ⟨by rw [dps_len d2]; exact hz, fun p np => ?_⟩
      exact Kont.shared (Q1 := Q) s1 r1 nd1' hd (by simpa using k1) np fun G3 s3 d3 => ⟨_, _, _, _, grow_sh s3 np, sh_tup s3 np d3, rfl, rfl, rfl⟩
    · exact k1.elim
  · exact k1.elim
theorem pf_lst {es : List Expr} {g : AF} {pos} (h : PA X es (liftA X.K R g)) : PE X (.List es pos) (liftE X.K R (lstF g)) := by
  refine PE.weak (pe_lst h) fun σ H Q ⟨pins, G, ρ, As, s, k⟩ => ⟨pins, G, ρ, As, s, ?_⟩
  refine Kont.bind (T := []) (Q := Q) s.nd (fun a z => nomatch z) k fun os ρ1 G1 H1 As1 vs Bs e1 nd1 r1 s1 k1 => ?_
  split at k1
  · rename_i ds hd
    split at k1
    · rename_i hz
      have nd1' : (Bs ++ As1).Nodup := by simpa using nd1
      obtain ⟨G2, e2, s2, d2⟩ := RepOs.share r1 (List.nodup_append.mp nd1').1 s1.sub hd
      refine ⟨by rw [dps_len d2]; exact hz, fun p np => ?_⟩
      exact Kont.shared (Q1 := Q) s1 r1 nd1' hd (by simpa using k1) np fun G3 s3 d3 => ⟨_, _, _, _, grow_new s3 np, grow_ls s3 np d3, rfl, rfl, rfl⟩
    · exact k1.elim
  · exact k1.elim
end

/-! ### calls -/
/-- an argument: a value, or what stands in a slot, lent for the call -/
inductive AO where
  | vl (x : O)
  | ln (i : Nat) (x : O)
def AO.val : AO → O
  | .vl x => x
  | .ln _ x => x
inductive FRs where
  | ok (o : O) (ss : List Sl)
  | er (c : Str) (o : O) (ss : List Sl)
  | stuck
abbrev FF := List O → FRs
inductive RepC (K : PySem.W.Frag) (G H : Hp) (σ : L2.St) : List V → List AO → List Addr → Prop
  | nil : RepC K G H σ [] [] []
  | o {v : V} {vs : List V} {o : O} {os : List AO} {B Bs : List Addr} : RepO K G H v o B → RepC K G H σ vs os Bs → RepC K G H σ (v :: vs) (.vl o :: os) (B ++ Bs)
  | b {v : V} {vs : List V} {i : Nat} {o : O} {os : List AO} {B Bs : List Addr} : σ[i]? = some (some v) → RepO K G H v o B → RepC K G H σ vs os Bs → RepC K G H σ (v :: vs) (.ln i o :: os) (B ++ Bs)
inductive RepC1 (K : PySem.W.Frag) (G H : Hp) (σ : L2.St) : V → AO → List Addr → Prop
  | o {v : V} {o : O} {B : List Addr} : RepO K G H v o B → RepC1 K G H σ v (.vl o) B
  | b {v : V} {i : Nat} {o : O} {B : List Addr} : σ[i]? = some (some v) → RepO K G H v o B → RepC1 K G H σ v (.ln i o) B
abbrev C1F := En → Rs AO
abbrev CF := En → Rs (List AO)
abbrev liftC1 (K : PySem.W.Frag) (R : RK) (f : C1F) : TE := lift (fun σ G H => RepC1 K G H σ) K R f
abbrev liftC (K : PySem.W.Frag) (R : RK) (f : CF) : TA := lift (fun σ G H => RepC K G H σ) K R f
/-- an argument that is shared -/
def aD (f : EF) : C1F := fun ρ => (f ρ).bind fun o ρ1 => match o.dv with
  | some d => .ok (.vl (.dat d)) ρ1
  | none => .stuck
/-- one's own, handed over for the call -/
def aT (f : EF) : C1F := fun ρ => (f ρ).bind fun o ρ1 => .ok (.vl o) ρ1
/-- lent -/
def aB (i : Nat) : C1F := fun ρ => match ρ[i]? with
  | some (.val o) => .ok (.ln i o) (ρ.set i .no)
  | some (.bor o) => .ok (.ln i o) (ρ.set i .lent)
  | _ => .stuck
def nilC : CF := fun ρ => .ok [] ρ
def consC (f : C1F) (g : CF) : CF := fun ρ => (f ρ).bind fun o ρ1 => (g ρ1).bind fun os ρ2 => .ok (o :: os) ρ2
def putB (i : Nat) (o : O) (ρ : En) : En := match ρ[i]? with
  | some .no => ρ.set i (.val o)
  | some .lent => ρ.set i (.bor o)
  | _ => ρ
def backF : List AO → List Sl → En → En
  | .ln i _ :: r, .bor o :: ss, ρ => backF r ss (putB i o ρ)
  | _ :: r, _ :: ss, ρ => backF r ss ρ
  | _, _, ρ => ρ
def callF (F : FF) (g : CF) : EF := fun ρ => (g ρ).bind fun os ρ1 => match F (os.map AO.val) with
  | .ok o ss => .ok o (backF os ss ρ1)
  | .er c o ss => .er c o (backF os ss ρ1)
  | .stuck => .stuck
/-- a def's promise -/
def spF (K : PySem.W.Frag) (cl : Str → Option Addr) (F : FF) : Sp := fun vs H Q E => ∃ G os As, RepOs K G H vs os As ∧ As.Nodup ∧ Sub G H ∧ match F os with
  | .ok o ss => ∀ G' H' v Bs As', Ext G H As G' H' (Bs ++ As') → (Bs ++ As').Nodup → RepO K G' H' v o Bs → Sub G' H' → Slots K G' H' (vs.map some) ss As' → Q v H'
  | .er c o ss => ∀ G' H' v Bs As' d, Ext G H As G' H' (Bs ++ As') → (Bs ++ As').Nodup → RepO K G' H' v o Bs → Sub G' H' → Slots K G' H' (vs.map some) ss As' → H' d = some (.xd [("value", v)]) → ∃ C, cl c = some C ∧ E (.ref C) (some d) H'
  | .stuck => False
/-- nothing is raised -/
def R0 : RK := fun _ _ _ _ => False
section
variable {K : PySem.W.Frag} {R : RK} {pins σ : L2.St} {G H G' H' : Hp} {As Bs Cs T : List Addr} {Q : VK} {ρ : En} {X : Cx}
theorem RepC1.there {v : V} {o : AO} {B : List Addr} (r : RepC1 K G H σ v o B) : ∀ a ∈ B, H a ≠ none := by
  cases r with
  | o r => exact fun a h => (r.there a h).1
  | b _ r => exact fun a h => (r.there a h).1
theorem RepC1.ext {v : V} {o : AO} {B : List Addr} (r : RepC1 K G H σ v o B) (e : Ext G H As G' H' Cs) (d : ∀ a ∈ B, a ∉ As) : RepC1 K G' H' σ v o B := by
  cases r with
  | o r => exact .o (r.ext e d)
  | b h r => exact .b h (r.ext e d)
theorem RepC.os {vs : List V} {os : List AO} {Bs : List Addr} (r : RepC K G H σ vs os Bs) : RepOs K G H vs (os.map AO.val) Bs := by
  induction r with
  | nil => exact .nil
  | o r _ ih => exact .cons r ih
  | b _ r _ ih => exact .cons r ih
theorem aD_ok {e : Expr} {f : EF} (h : PE X e (liftE X.K R f)) : PE X e (liftC1 X.K R (aD f)) := by
  refine PE.weak h fun σ H Q ⟨pins, G, ρ, As, s, k⟩ => ⟨pins, G, ρ, As, s, ?_⟩
  refine Kont.bind (T := []) (Q := Q) s.nd (fun a z => nomatch z) k fun o ρ1 G1 H1 As1 v Bs e1 nd1 r1 s1 k1 => ?_
  split at k1
  · rename_i d hd
    have nd1' : (Bs ++ As1).Nodup := by simpa using nd1
    obtain ⟨G2, e2, s2, d2⟩ := RepO.share r1 (List.nodup_append.mp nd1').1 s1.sub hd
    have st := s1.ext e2 (fun a ha hb => nd_disj nd1' a hb ha) s2
    have e3 : Ext G1 H1 ([] ++ (Bs ++ As1)) G2 H1 ([] ++ As1) := (e2.frame As1).perm (fun a => by simp only [List.mem_append, List.nil_append]; exact Or.comm) fun a ha => by simpa using ha
    exact k1 G2 H1 As1 v [] e3 st.nd (.o (.dat d2)) st
  · exact k1.elim
theorem aT_ok {e : Expr} {f : EF} (h : PE X e (liftE X.K R f)) : PE X e (liftC1 X.K R (aT f)) := by
  refine PE.weak h fun σ H Q ⟨pins, G, ρ, As, s, k⟩ => ⟨pins, G, ρ, As, s, ?_⟩
  refine Kont.bind (T := []) (Q := Q) s.nd (fun a z => nomatch z) k fun o ρ1 G1 H1 As1 v Bs e1 nd1 r1 s1 k1 => ?_
  exact Kont.now k1 s1 (Bs := Bs) (fun a z => by simpa using z) (by simpa using nd1) (.o r1)
theorem Pin.lent {i : Nat} (p : Pin pins σ ρ) {o : O} (h : ρ[i]? = some (.bor o)) : Pin pins σ (ρ.set i .lent) := by
  refine ⟨p.1, fun j hj => p.2 j ?_⟩
  by_cases e : i = j
  · subst e
    exact .inr ⟨o, h⟩
  · rw [List.getElem?_set_ne e] at hj
    exact hj
theorem Pin.back {i : Nat} (p : Pin pins σ ρ) (h : ρ[i]? = some .lent) (x : Sl) : Pin pins σ (ρ.set i x) := by
  refine ⟨p.1, fun j hj => p.2 j ?_⟩
  by_cases e : i = j
  · subst e
    exact .inl h
  · rw [List.getElem?_set_ne e] at hj
    exact hj
theorem aB_ok {e : Expr} {i : Nat} (h : PE X e (tVar i)) : PE X e (liftC1 X.K R (aB i)) := by
  refine PE.weak h fun σ H Q ⟨pins, G, ρ, As, s, k⟩ => ?_
  unfold aB at k
  split at k
  · rename_i o ho
    obtain ⟨v, B, Cs, h1, h2, h3, h4, h5⟩ := Slots.out (y := .no) trivial s.slots (getS_val ho)
    exact ⟨v, h1, Kont.now k (Cs := Cs) ⟨h5, (List.nodup_append.mp (h4 s.nd)).2.1, s.sub, s.pin.set trivial⟩ (fun a z => (h3 a).2 z) (h4 s.nd) (.b h1 h2)⟩
  · rename_i o ho
    obtain ⟨v, B, Cs, h1, h2, h3, h4, h5⟩ := Slots.out (y := .lent) trivial s.slots (getS_bor ho)
    exact ⟨v, h1, Kont.now k (Cs := Cs) ⟨h5, (List.nodup_append.mp (h4 s.nd)).2.1, s.sub, s.pin.lent ho⟩ (fun a z => (h3 a).2 z) (h4 s.nd) (.b h1 h2)⟩
  · exact k.elim
theorem pa_nilC : PA X [] (liftC X.K R nilC) := by
  refine PA.weak pa_nil fun σ H Q ⟨pins, G, ρ, As, s, k⟩ => ?_
  exact Kont.now k s (Bs := []) (fun a z => z) s.nd .nil
theorem pa_consC {e : Expr} {es : List Expr} {f : C1F} {g : CF} (h1 : PE X e (liftC1 X.K R f)) (h2 : PA X es (liftC X.K R g)) (hs : starEach (e :: es) X.env = (false, eval e X.env) :: starEach es X.env := by rfl) : PA X (e :: es) (liftC X.K R (consC f g)) := by
  refine PA.weak (pa_cons h1 h2 hs) fun σ H Q ⟨pins, G, ρ, As, s, k⟩ => ⟨pins, G, ρ, As, s, ?_⟩
  refine Kont.bind (T := []) (Q := Q) s.nd (fun a z => nomatch z) k fun o ρ1 G1 H1 As1 v Bs e1 nd1 r1 s1 k1 => ⟨pins, G1, ρ1, As1, s1, ?_⟩
  have nd1' : (Bs ++ As1).Nodup := by simpa using nd1
  refine Kont.bind (T := Bs) (Q := Q) nd1' (RepC1.there r1) (by simpa using k1) fun os ρ2 G2 H2 As2 vs Cs e2 nd2 r2 s2 k2 => ?_
  have r1' := RepC1.ext r1 e2 (nd_disj nd1')
  refine Kont.now (Bs := Bs ++ Cs) k2 s2 (fun a z => by simpa using z) (by simpa using nd2) ?_
  cases r1' with
  | o r => exact .o r r2
  | b h r => exact .b h r r2
/-- what was lent comes back -/
theorem Ste.back {vs : List V} {os : List AO} {Ds : List Addr} (r : RepC K G H σ vs os Ds) : ∀ {ρ : En} {ss : List Sl} {G' H' : Hp} {As Bs : List Addr}, Ste K pins G' H' σ ρ As → Slots K G' H' (vs.map some) ss Bs → (Bs ++ As).Nodup →
    ∃ Cs, Ste K pins G' H' σ (backF os ss ρ) Cs ∧ ∀ a ∈ Cs, a ∈ Bs ++ As := by
  induction r with
  | nil =>
    intro ρ ss G' H' As Bs s p nd
    have e : backF [] ss ρ = ρ := by cases ss <;> rfl
    rw [e]
    exact ⟨As, s, fun a z => List.mem_append_right _ z⟩
  | @o v vs o os B Bs' q _ ih =>
    intro ρ ss G' H' As Bs s p nd
    cases ss with
    | nil => cases p
    | cons y ss =>
      have e : backF (.vl o :: os) (y :: ss) ρ = backF os ss ρ := by cases y <;> rfl
      rw [e]
      rcases Slots.inv p with ⟨_, p⟩ | ⟨_, _, D, E, _, _, rfl, _, p⟩
      · exact ih s p nd
      · obtain ⟨Cs, h1, h2⟩ := ih s p (by rw [List.append_assoc] at nd; exact (List.nodup_append.mp nd).2.1)
        exact ⟨Cs, h1, fun a z => by rw [List.append_assoc]; exact List.mem_append_right _ (h2 a z)⟩
  | @b v vs i o os B Bs' hv q _ ih =>
    intro ρ ss G' H' As Bs s p nd
    cases ss with
    | nil => cases p
    | cons y ss =>
      by_cases hy : ∃ x, y = .bor x
      · obtain ⟨x, rfl⟩ := hy
        have e : backF (.ln i o :: os) (.bor x :: ss) ρ = backF os ss (putB i x ρ) := rfl
        rw [e]
        rcases Slots.inv p with ⟨h, _⟩ | ⟨v', x', D, E, e1, e2, rfl, q', p⟩
        · exact h.elim
        · cases (Option.some.inj e1 : v = v')
          cases (Option.some.inj e2 : x = x')
          have nd' : (E ++ (D ++ As)).Nodup := nd_swap (by rw [List.append_assoc] at nd; exact nd)
          have hD : (D ++ As).Nodup := (List.nodup_append.mp nd').2.1
          have key : ∃ Cs, Ste K pins G' H' σ (putB i x ρ) Cs ∧ ∀ a ∈ Cs, a ∈ D ++ As := by
            unfold putB
            split
            · rename_i hi
              obtain ⟨Cs, w1, w2, w3⟩ := Slots.into (z := .val x) rfl q' s.slots hi trivial hv
              exact ⟨Cs, ⟨w1, w3 hD, s.sub, s.pin.set trivial⟩, fun a z => (w2 a).1 z⟩
            · rename_i hi
              obtain ⟨Cs, w1, w2, w3⟩ := Slots.into (z := .bor x) rfl q' s.slots hi trivial hv
              exact ⟨Cs, ⟨w1, w3 hD, s.sub, s.pin.back hi _⟩, fun a z => (w2 a).1 z⟩
            · exact ⟨As, s, fun a z => List.mem_append_right _ z⟩
          obtain ⟨Cs, w1, w2⟩ := key
          have nd2 : (E ++ Cs).Nodup := List.nodup_append.mpr ⟨(List.nodup_append.mp nd').1, w1.nd, fun a ha b hb z => (List.nodup_append.mp nd').2.2 a ha b (w2 b hb) z⟩
          obtain ⟨Fs, u1, u2⟩ := ih w1 p nd2
          refine ⟨Fs, u1, fun a z => ?_⟩
          rw [List.append_assoc]
          rcases List.mem_append.mp (u2 a z) with w | w
          · exact List.mem_append_right _ (List.mem_append_left _ w)
          · exact (app_swap (B := E) (A := D) (C := As) a).2 (List.mem_append_right _ (w2 a w))
      · have e : backF (.ln i o :: os) (y :: ss) ρ = backF os ss ρ := by
          cases y with
          | bor x => exact absurd ⟨x, rfl⟩ hy
          | _ => rfl
        rw [e]
        rcases Slots.inv p with ⟨_, p⟩ | ⟨_, _, D, E, _, _, rfl, _, p⟩
        · exact ih s p nd
        · obtain ⟨Cs, h1, h2⟩ := ih s p (by rw [List.append_assoc] at nd; exact (List.nodup_append.mp nd).2.1)
          exact ⟨Cs, h1, fun a z => by rw [List.append_assoc]; exact List.mem_append_right _ (h2 a z)⟩
theorem call_le {F : FF} {g : CF} {cl : Str → Option Addr} {E : XK} (hE : ∀ σ c d H, R c d σ H → ∃ C, cl c = some C ∧ E (.ref C) (some d) H) (σ : L2.St) (H : Hp) (Q : VK) (h : liftE K R (callF F g) σ H Q) : tCall (spF K cl F) [] E (liftC K R g) σ H Q := by
  obtain ⟨pins, G, ρ, As, s, k⟩ := h
  refine ⟨pins, G, ρ, As, s, ?_⟩
  refine Kont.bind (T := []) (Q := Q) s.nd (fun a z => nomatch z) k fun os ρ1 G1 H1 As1 vs Bs e1 nd1 r1 s1 k1 => ?_
  have nd1' : (Bs ++ As1).Nodup := by simpa using nd1
  rw [List.append_nil]
  have k1 : KontE K R pins σ G1 H1 ([] ++ (Bs ++ As1)) Q (match F (os.map AO.val) with
    | .ok o ss => .ok o (backF os ss ρ1)
    | .er c o ss => .er c o (backF os ss ρ1)
    | .stuck => .stuck) := k1
  refine ⟨G1, os.map AO.val, Bs, RepC.os r1, (List.nodup_append.mp nd1').1, s1.sub, ?_⟩
  have stay : ∀ {G' H' : Hp} {Ds As' : List Addr}, Ext G1 H1 Bs G' H' (Ds ++ As') → (Ds ++ As').Nodup → Sub G' H' → ∀ {ss : List Sl}, Slots K G' H' (vs.map some) ss As' → ∃ Cs, Ste K pins G' H' σ (backF os ss ρ1) Cs ∧ (Ds ++ Cs).Nodup ∧ Ext G1 H1 ([] ++ (Bs ++ As1)) G' H' (Ds ++ Cs) := by
    intro G' H' Ds As' e nd sub ss p
    have dj : ∀ a ∈ As1, a ∉ Bs := fun a ha hb => nd_disj nd1' a hb ha
    have s2 := s1.ext e dj sub
    have hA : ∀ a ∈ As1, H1 a ≠ none := fun a m => (s1.slots.there a m).1
    have out : ∀ a ∈ As1, a ∉ Ds ++ As' := fun a ha hb => by
      rcases e.own a hb with w | w
      · exact dj a ha w
      · exact hA a ha w
    have nd2 : (As' ++ As1).Nodup := List.nodup_append.mpr ⟨(List.nodup_append.mp nd).2.1, s1.nd, fun a ha b hb z => by subst z; exact out a hb (List.mem_append_right _ ha)⟩
    obtain ⟨Cs, w1, w2⟩ := Ste.back r1 s2 p nd2
    refine ⟨Cs, w1, List.nodup_append.mpr ⟨(List.nodup_append.mp nd).1, w1.nd, fun a ha b hb z => ?_⟩, ?_⟩
    · subst z
      rcases List.mem_append.mp (w2 a hb) with w | w
      · exact nd_disj nd a ha w
      · exact out a w (List.mem_append_left _ ha)
    · refine ((e.frame As1).perm (fun a => by simp only [List.nil_append, List.mem_append]; exact Or.comm) fun a ha => ?_)
      rcases List.mem_append.mp ha with w | w
      · exact List.mem_append_right _ (List.mem_append_left _ w)
      · rcases List.mem_append.mp (w2 a w) with w | w
        · exact List.mem_append_right _ (List.mem_append_right _ w)
        · exact List.mem_append_left _ w
  cases hF : F (os.map AO.val) with
  | ok o ss =>
    rw [hF] at k1
    intro G' H' v Ds As' e nd r sub p
    obtain ⟨Cs, w1, w2, w3⟩ := stay e nd sub p
    exact k1 G' H' Cs v Ds w3 w2 r w1
  | er c o ss =>
    rw [hF] at k1
    intro G' H' v Ds As' d e nd r sub p hd
    obtain ⟨Cs, w1, w2, w3⟩ := stay e nd sub p
    exact hE σ c d H' (k1 σ G' H' Cs v Ds d w3 w2 r w1 hd)
  | stuck =>
    rw [hF] at k1
    exact k1
theorem pf_call {CX : CXT} {n : Nat} {f : Addr} {fd : FuncData} {ps : List Str} {F : FF} {g : CF} {cl : Str → Option Addr} {x : Str} {p pos : Pos} {e : Expr} {es : List Expr} (Fn : FnOk X.prog X.w X.K X.mg X.base CX n f fd ps (spF X.K cl F)) (hr : Room n X.A) (hg : Gl X x) (hm : X.mg x = some (.ref f)) (hk : PySem.W.keepIn X.K (.ref f) = true) (hb : Binds X.K fd ps [])
    (hx : Passes CX X (fun _ _ _ => False)) (ha : PA X (e :: es) (liftC X.K R0 g)) (hdb : (x == ("__debug__" : Str)) = false := by decide) (he : starEach (e :: es) X.env = (false, eval e X.env) :: starEach es X.env := by rfl) (hpl : (backTo pos (starEach es X.env)).any (·.1) = false := by rfl) :
    PE X (.Call (.Name x p) (e :: es) [] pos) (liftE X.K R0 (callF F g)) := PE.weak (pe_call Fn hr hg hm hk hb .nil hx ha hdb he hpl) (call_le fun _ _ _ _ z => z.elim)
theorem pf_call0 {CX : CXT} {n : Nat} {f : Addr} {fd : FuncData} {ps : List Str} {F : FF} {cl : Str → Option Addr} {x : Str} {p pos : Pos} (Fn : FnOk X.prog X.w X.K X.mg X.base CX n f fd ps (spF X.K cl F)) (hr : Room n X.A) (hg : Gl X x) (hm : X.mg x = some (.ref f)) (hk : PySem.W.keepIn X.K (.ref f) = true) (hb : Binds X.K fd ps [])
    (hx : Passes CX X (fun _ _ _ => False)) (hdb : (x == ("__debug__" : Str)) = false := by decide) :
    PE X (.Call (.Name x p) [] [] pos) (liftE X.K R0 (callF F nilC)) := by
  refine PE.weak (pe_call0 Fn hr hg hm hk hb .nil hx hdb) fun σ H Q h => ?_
  obtain ⟨pins, G, ρ, As, s, k⟩ := call_le (cl := cl) (E := fun _ _ _ => False) (fun _ _ _ _ z => z.elim) σ H Q h
  exact Kont.now k s (Bs := []) (fun a z => z) s.nd .nil
end
end Vs

namespace Vs
open PySem PySem.Spec PyProof.Rows L2 Ww

/-! ### statements -/
inductive Out where
  | nx (ρ : En)
  | rt (o : O) (ρ : En)
  | bk (ρ : En)
  | ct (ρ : En)
  | er (c : Str) (o : O) (ρ : En)
  | stuck
abbrev SF := En → Out
def Rs.bindS {α : Type} (r : Rs α) (k : α → En → Out) : Out := match r with
  | .ok o ρ => k o ρ
  | .er c o ρ => .er c o ρ
  | .stuck => .stuck
def Out.seq (r : Out) (k : En → Out) : Out := match r with
  | .nx ρ => k ρ
  | r => r
def KontS (K : PySem.W.Frag) (R : RK) (pins : L2.St) (G H : Hp) (As : List Addr) (D : Ends) : Out → Prop
  | .nx ρ' => ∀ σ' G' H' As', Ext G H As G' H' As' → Ste K pins G' H' σ' ρ' As' → D.nx σ' H'
  | .rt o ρ' => ∀ σ' G' H' As' v Bs, Ext G H As G' H' (Bs ++ As') → (Bs ++ As').Nodup → RepO K G' H' v o Bs → Ste K pins G' H' σ' ρ' As' → D.rt v H'
  | .bk ρ' => ∀ σ' G' H' As', Ext G H As G' H' As' → Ste K pins G' H' σ' ρ' As' → D.bk σ' H'
  | .ct ρ' => ∀ σ' G' H' As', Ext G H As G' H' As' → Ste K pins G' H' σ' ρ' As' → D.ct σ' H'
  | .er c o ρ' => ErOk K R pins G H As c o ρ'
  | .stuck => False
def liftS (K : PySem.W.Frag) (R : RK) (f : SF) : TS := fun D σ H => ∃ pins G ρ As, Ste K pins G H σ ρ As ∧ KontS K R pins G H As D (f ρ)
def seqS (f g : SF) : SF := fun ρ => (f ρ).seq g
def nxS : SF := fun ρ => .nx ρ
def bkS : SF := fun ρ => .bk ρ
def ctS : SF := fun ρ => .ct ρ
def noS : SF := fun _ => .stuck
def retS (f : EF) : SF := fun ρ => (f ρ).bindS fun o ρ1 => .rt o ρ1
def retN : SF := fun ρ => .rt (.dat .none) ρ
def exS (f : EF) : SF := fun ρ => (f ρ).bindS fun _ ρ1 => .nx ρ1
def ifS (t : TF) (f g : SF) : SF := fun ρ => (t ρ).bindS fun b ρ1 => if b = true then f ρ1 else g ρ1
/-- a slot stored -/
def stO (i : Nat) (o : O) (ρ : En) : Option En := match ρ[i]? with
  | some .no => some (ρ.set i (.val o))
  | some (.val _) => some (ρ.set i (.val o))
  | _ => none
def setS (i : Nat) (f : EF) : SF := fun ρ => (f ρ).bindS fun o ρ1 => match stO i o ρ1 with
  | some ρ2 => .nx ρ2
  | none => .stuck
section
variable {K : PySem.W.Frag} {R : RK} {pins σ : L2.St} {G H G' H' : Hp} {As Bs Cs T : List Addr} {Q : VK} {ρ : En} {X : Cx} {D : Ends}
theorem KontS.re {r : Out} (k : KontS K R pins G H As D r) (e : Ext G H As G' H' Cs) : KontS K R pins G' H' Cs D r := by
  cases r with
  | nx ρ => exact fun σ2 G2 H2 As2 e2 st => k σ2 G2 H2 As2 (e.trans e2) st
  | rt o ρ => exact fun σ2 G2 H2 As2 v Bs e2 nd r st => k σ2 G2 H2 As2 v Bs (e.trans e2) nd r st
  | bk ρ => exact fun σ2 G2 H2 As2 e2 st => k σ2 G2 H2 As2 (e.trans e2) st
  | ct ρ => exact fun σ2 G2 H2 As2 e2 st => k σ2 G2 H2 As2 (e.trans e2) st
  | er c o ρ => exact ErOk.re k e
  | stuck => exact k
theorem Kont.bindS {α β : Type} {rel : Hp → Hp → β → α → List Addr → Prop} {r : Rs α} {k : α → En → Out} {Q1 : β → Hp → Prop} (h : KontS K R pins G H As D (r.bindS k))
    (step : ∀ o ρ G' H' As' v Bs, Ext G H As G' H' (Bs ++ As') → (Bs ++ As').Nodup → rel G' H' v o Bs → Ste K pins G' H' σ ρ As' → KontS K R pins G' H' (Bs ++ As') D (k o ρ) → Q1 v H') : Kont rel K R pins σ G H As Q1 r := by
  cases r with
  | ok o ρ => exact fun G2 H2 As2 v Bs e2 nd2 r2 st2 => step o ρ G2 H2 As2 v Bs e2 nd2 r2 st2 (KontS.re h e2)
  | er c o ρ => exact h
  | stuck => exact h
theorem KontS.now (k : KontS K R pins G H As D (.nx ρ)) (s : Ste K pins G H σ ρ Cs) (e : ∀ a ∈ Cs, a ∈ As) : D.nx σ H := k σ G H Cs (Ext.refl.less e) s
/-- a statement's continuation by a statement -/
theorem KontS.seq {r : Out} {g : SF} (h : KontS K R pins G H As D (r.seq g)) : KontS K R pins G H As { D with nx := liftS K R g D } r := by
  cases r with
  | nx ρ => exact fun σ2 G2 H2 As2 e2 st => ⟨pins, G2, ρ, As2, st, KontS.re h e2⟩
  | rt o ρ => exact h
  | bk ρ => exact h
  | ct ρ => exact h
  | er c o ρ => exact h
  | stuck => exact h
variable {st : Stmt} {rest : List Stmt} {f g : SF} {e a b : Expr} {x y : EF} {pos : Pos}
theorem ss_nil : PSs X [] (liftS X.K R nxS) := PSs.weak pss_nil fun D σ H ⟨pins, G, ρ, As, s, k⟩ => KontS.now k s fun _ z => z
theorem ss_cons (h1 : PS X st (liftS X.K R f)) (h2 : PSs X rest (liftS X.K R g)) : PSs X (st :: rest) (liftS X.K R (seqS f g)) :=
  PSs.weak (pss_cons h1 h2) fun D σ H ⟨pins, G, ρ, As, s, k⟩ => ⟨pins, G, ρ, As, s, KontS.seq k⟩
theorem ss_one (h1 : PS X st (liftS X.K R f)) : PSs X [st] (liftS X.K R f) := pss_one h1
theorem s_pass : PS X (.Pass pos) (liftS X.K R nxS) := PS.weak ps_pass fun D σ H ⟨pins, G, ρ, As, s, k⟩ => KontS.now k s fun _ z => z
theorem s_break : PS X (.Break pos) (liftS X.K R bkS) := PS.weak ps_break fun D σ H ⟨pins, G, ρ, As, s, k⟩ => (show KontS X.K R pins G H As D (.bk ρ) from k) σ G H As Ext.refl s
theorem s_cont : PS X (.Continue pos) (liftS X.K R ctS) := PS.weak ps_continue fun D σ H ⟨pins, G, ρ, As, s, k⟩ => (show KontS X.K R pins G H As D (.ct ρ) from k) σ G H As Ext.refl s
theorem s_doc {z j pos pos'} : PS X (.Expr (.Constant (.str z) j pos) pos') (liftS X.K R nxS) := PS.weak ps_doc fun D σ H ⟨pins, G, ρ, As, s, k⟩ => KontS.now k s fun _ z => z
theorem s_never : PS X st (liftS X.K R noS) := PS.weak ps_never fun D σ H ⟨pins, G, ρ, As, s, k⟩ => k
theorem ss_never {sts : List Stmt} : PSs X sts (liftS X.K R noS) := PSs.weak pss_never fun D σ H ⟨pins, G, ρ, As, s, k⟩ => k
theorem s_expr (he : PE X e (liftE X.K R x)) (hs : swapsWith e none pos.line X.env = pure false := by rfl) : PS X (.Expr e pos) (liftS X.K R (exS x)) := by
  refine PS.weak (ps_expr he hs) fun D σ H ⟨pins, G, ρ, As, s, k⟩ => ⟨pins, G, ρ, As, s, ?_⟩
  refine Kont.bindS k fun o ρ1 G1 H1 As1 v Bs e1 nd1 r1 s1 k1 => ?_
  exact KontS.now k1 s1 fun a z => List.mem_append_right _ z
theorem s_ret (he : PE X e (liftE X.K R x)) : PS X (.Return (some e) pos) (liftS X.K R (retS x)) := by
  refine PS.weak (ps_ret he) fun D σ H ⟨pins, G, ρ, As, s, k⟩ => ⟨pins, G, ρ, As, s, ?_⟩
  refine Kont.bindS k fun o ρ1 G1 H1 As1 v Bs e1 nd1 r1 s1 k1 => ?_
  exact (show KontS X.K R pins G1 H1 (Bs ++ As1) D (.rt o ρ1) from k1) σ G1 H1 As1 v Bs Ext.refl nd1 r1 s1
theorem s_retN : PS X (.Return none pos) (liftS X.K R retN) :=
  PS.weak ps_retN fun D σ H ⟨pins, G, ρ, As, s, k⟩ => (show KontS X.K R pins G H As D (.rt (.dat .none) ρ) from k) σ G H As .non [] Ext.refl s.nd (.dat .non) s
theorem s_if {t : TF} {c : Expr} {p q : List Stmt} (hc : PT X c (liftT X.K R t)) (ha : PSs X p (liftS X.K R f)) (hb : PSs X q (liftS X.K R g)) : PS X (.If c p q pos) (liftS X.K R (ifS t f g)) := by
  refine PS.weak (ps_if hc ha hb) fun D σ H ⟨pins, G, ρ, As, s, k⟩ => ⟨pins, G, ρ, As, s, ?_⟩
  refine Kont.bindS k fun o ρ1 G1 H1 As1 v Bs e1 nd1 r1 s1 k1 => ?_
  obtain ⟨rfl, rfl⟩ := r1
  by_cases c : v = true
  · rw [if_pos c] at k1 ⊢
    exact ⟨pins, G1, ρ1, As1, s1, by simpa using k1⟩
  · rw [if_neg c] at k1 ⊢
    exact ⟨pins, G1, ρ1, As1, s1, by simpa using k1⟩
/-- a slot is stored -/
theorem Slots.put {v : V} {o : O} {B : List Addr} (q : RepO K G H v o B) : ∀ {σ : L2.St} {ρ : En} {As : List Addr} {i : Nat}, Slots K G H σ ρ As → i < ρ.length → (B ++ As).Nodup → ∃ Cs, Slots K G H (σ.set i (some v)) (ρ.set i (.val o)) Cs ∧ (∀ a ∈ Cs, a ∈ B ++ As) ∧ Cs.Nodup
  | [], [], _, i, _, h, _ => by simp at h
  | [], _ :: _, _, i, r, _, _ => by cases r
  | _ :: _, [], _, i, r, _, _ => by cases r
  | x :: σ, u :: ρ, As, 0, r, _, nd => by
    rcases r.inv with ⟨_, r⟩ | ⟨v', o', D, E, rfl, _, rfl, _, r⟩
    · exact ⟨_, .val q r, fun a z => z, nd⟩
    · refine ⟨_, .val q r, fun a z => ?_, ?_⟩
      · rcases List.mem_append.mp z with w | w
        · exact List.mem_append_left _ w
        · exact List.mem_append_right _ (List.mem_append_right _ w)
      · exact (List.nodup_append.mp (nd_swap nd)).2.1
  | x :: σ, u :: ρ, As, i + 1, r, h, nd => by
    have h' : i < ρ.length := by simpa using h
    rcases r.inv with ⟨hg, r⟩ | ⟨v', o', D, E, rfl, hu, rfl, q2, r⟩
    · obtain ⟨Cs, h1, h2, h3⟩ := Slots.put q r h' nd
      exact ⟨Cs, .mkGap hg h1, h2, h3⟩
    · have nd2 := nd_swap nd
      obtain ⟨Cs, h1, h2, h3⟩ := Slots.put q r h' (List.nodup_append.mp nd2).2.1
      refine ⟨D ++ Cs, .mkFull hu q2 h1, fun a z => ?_, ?_⟩
      · rw [app_swap a]
        rcases List.mem_append.mp z with w | w
        · exact List.mem_append_left _ w
        · exact List.mem_append_right _ (h2 a w)
      · exact List.nodup_append.mpr ⟨(List.nodup_append.mp nd2).1, h3, fun a ha b hb z => (List.nodup_append.mp nd2).2.2 a ha b (h2 b hb) z⟩
theorem Pin.put {i : Nat} {v : Option V} {x : Sl} {y : Sl} (p : Pin pins σ ρ) (h : ρ[i]? = some y) (hy : y.free) (hx : x.free) : Pin pins (σ.set i v) (ρ.set i x) := by
  refine ⟨by rw [List.length_set]; exact p.1, fun j hj => ?_⟩
  by_cases e : i = j
  · subst e
    rw [List.getElem?_set_self (List.getElem?_eq_some_iff.mp h).1] at hj
    rcases hj with z | ⟨o, z⟩
    · rw [Option.some.inj z] at hx; exact hx.elim
    · rw [Option.some.inj z] at hx; exact hx.elim
  · rw [List.getElem?_set_ne e] at hj ⊢
    exact p.2 j hj
theorem Ste.put {i : Nat} {v : V} {o : O} {B : List Addr} {ρ' : En} (s : Ste K pins G H σ ρ As) (q : RepO K G H v o B) (nd : (B ++ As).Nodup) (h : stO i o ρ = some ρ') : ∃ Cs, Ste K pins G H (σ.set i (some v)) ρ' Cs ∧ ∀ a ∈ Cs, a ∈ B ++ As := by
  unfold stO at h
  split at h
  · rename_i hi
    cases Option.some.inj h
    obtain ⟨Cs, h1, h2, h3⟩ := Slots.put q s.slots (List.getElem?_eq_some_iff.mp hi).1 nd
    exact ⟨Cs, ⟨h1, h3, s.sub, s.pin.put hi trivial trivial⟩, h2⟩
  · rename_i hi
    cases Option.some.inj h
    obtain ⟨Cs, h1, h2, h3⟩ := Slots.put q s.slots (List.getElem?_eq_some_iff.mp hi).1 nd
    exact ⟨Cs, ⟨h1, h3, s.sub, s.pin.put hi trivial trivial⟩, h2⟩
  · cases h
theorem s_set {i : Nat} (h : PS X st (tAsg (liftE X.K R x) (gName i))) : PS X st (liftS X.K R (setS i x)) := by
  refine PS.weak h fun D σ H ⟨pins, G, ρ, As, s, k⟩ => ⟨pins, G, ρ, As, s, ?_⟩
  refine Kont.bindS k fun o ρ1 G1 H1 As1 v Bs e1 nd1 r1 s1 k1 => ?_
  split at k1
  · rename_i ρ2 h2
    obtain ⟨Cs, w1, w2⟩ := s1.put r1 nd1 h2
    exact KontS.now k1 w1 w2
  · exact k1.elim
end

/-! ### targets -/
structure Tg where
  f : PyData → En → Option En
  ws : List Nat
def liftG (K : PySem.W.Frag) (t : Tg) : TG := fun v σ H Q => ∃ pins G ρ As d ρ', Ste K pins G H σ ρ As ∧ Dp K G v d ∧ t.f d ρ = some ρ' ∧ ∀ σ' As', Ste K pins G H σ' ρ' As' → (∀ a ∈ As', a ∈ As) → σ'.length = σ.length → (∀ j, j ∉ t.ws → σ'[j]? = σ[j]?) → Q σ' H
structure Tgs where
  f : List PyData → En → Option En
  ws : List Nat
def liftGs (K : PySem.W.Frag) (t : Tgs) : TGs := fun vs σ H Q => ∃ pins G ρ As ds ρ', Ste K pins G H σ ρ As ∧ DpAll K G vs ds ∧ t.f ds ρ = some ρ' ∧ ∀ σ' As', Ste K pins G H σ' ρ' As' → (∀ a ∈ As', a ∈ As) → σ'.length = σ.length → (∀ j, j ∉ t.ws → σ'[j]? = σ[j]?) → Q σ' H
def nmT (i : Nat) : Tg := ⟨fun d ρ => stO i (.dat d) ρ, [i]⟩
def nilTs : Tgs := ⟨fun ds ρ => match ds with
  | [] => some ρ
  | _ => none, []⟩
def consTs (t : Tg) (u : Tgs) : Tgs := ⟨fun ds ρ => match ds with
  | d :: ds => (t.f d ρ).bind fun ρ1 => u.f ds ρ1
  | [] => none, t.ws ++ u.ws⟩
def tupT (n : Nat) (t : Tgs) : Tg := ⟨fun d ρ => match d with
  | .tuple ds => if ds.length = n then t.f ds ρ else none
  | .list ds => if ds.length = n then t.f ds ρ else none
  | _ => none, t.ws⟩
def asgS (t : Tg) (f : EF) : SF := fun ρ => (f ρ).bindS fun o ρ1 => match o.dv with
  | some d => match t.f d ρ1 with
    | some ρ2 => .nx ρ2
    | none => .stuck
  | none => .stuck
theorem PG.weak {X : Cx} {e : Expr} {t t' : TG} (h : PG X e t) (k : ∀ v σ H Q, t' v σ H Q → t v σ H Q) : PG X e t' := ⟨fun pins s σ H v u Q I r q => h.run pins s σ H v u Q I r (k v σ H Q q)⟩
theorem PGs.weak {X : Cx} {e : List Expr} {t t' : TGs} (h : PGs X e t) (k : ∀ v σ H Q, t' v σ H Q → t v σ H Q) : PGs X e t' := ⟨fun pins s σ H v u Q I r q => h.run pins s σ H v u Q I r (k v σ H Q q)⟩
section
variable {K : PySem.W.Frag} {R : RK} {pins σ : L2.St} {G H G' H' : Hp} {As Bs Cs T : List Addr} {Q : VK} {ρ : En} {X : Cx} {D : Ends}
theorem g_name {e : Expr} {i : Nat} (h : PG X e (gName i)) : PG X e (liftG X.K (nmT i)) := by
  refine PG.weak h fun v σ H Q ⟨pins, G, ρ, As, d, ρ', s, hd, ht, q⟩ => ?_
  obtain ⟨Cs, w1, w2⟩ := Ste.put (B := []) s (.dat hd) s.nd ht
  exact q _ Cs w1 w2 (List.length_set ..) fun j hj => List.getElem?_set_ne fun z => hj (by rw [z]; exact List.mem_cons_self)
theorem gs_nil : PGs X [] (liftGs X.K nilTs) := by
  refine PGs.weak pgs_nil fun vs σ H Q ⟨pins, G, ρ, As, ds, ρ', s, hd, ht, q⟩ => ?_
  cases ds with
  | nil =>
    cases hd
    cases (Option.some.inj ht : ρ = ρ')
    exact ⟨rfl, q σ As s (fun _ z => z) rfl fun _ _ => rfl⟩
  | cons _ _ => cases ht
theorem gs_cons {e : Expr} {es : List Expr} {t : Tg} {u : Tgs} (h1 : PG X e (liftG X.K t)) (h2 : PGs X es (liftGs X.K u)) (hs : (assignEach (e :: es) X.env).map (·.2) = assign e X.env :: (assignEach es X.env).map (·.2) := by rfl) : PGs X (e :: es) (liftGs X.K (consTs t u)) := by
  refine PGs.weak (pgs_cons h1 h2 hs) fun vs σ H Q ⟨pins, G, ρ, As, ds, ρ', s, hd, ht, q⟩ => ?_
  cases ds with
  | nil => cases ht
  | cons d ds =>
    cases hd with
    | @cons v vr _ _ a r =>
      obtain ⟨ρ1, t1, t2⟩ := Option.bind_eq_some_iff.mp ht
      refine ⟨v, vr, rfl, pins, G, ρ, As, d, ρ1, s, a, t1, fun σ1 As1 s1 l1 n1 w1 => ?_⟩
      exact ⟨pins, G, ρ1, As1, ds, ρ', s1, r, t2, fun σ2 As2 s2 l2 n2 w2 => q σ2 As2 s2 (fun a z => l1 a (l2 a z)) (n2.trans n1) fun j hj =>
        (w2 j fun z => hj (List.mem_append_right _ z)).trans (w1 j fun z => hj (List.mem_append_left _ z))⟩
theorem g_tup {es : List Expr} {k : Nat} {t : Tgs} {n : Nat} {pos : Pos} (hc : X.calm = true) (h : PGs X es (liftGs X.K t)) (hn : (assignEach es X.env).length = n := by rfl) (hst : (assignEach es X.env).findIdx? (·.1) = none := by rfl) : PG X (.Tuple es k pos) (liftG X.K (tupT n t)) := by
  refine ⟨fun pins0 s0 σ H v u Q I r w => ?_⟩
  obtain ⟨pins, G, ρ, As, d, ρ', s, hd, ht, q⟩ := w
  cases d with
  | tuple ds =>
    have ht : (if ds.length = n then t.f ds ρ else none) = some ρ' := ht
    split at ht
    · rename_i hl
      cases hd with
      | @tup a xs _ h1 h2 => exact (pg_tup hc h hn hst).run pins0 s0 σ H _ u Q I r ⟨a, xs, rfl, s.sub.sqt h1, (dps_len h2).trans hl, pins, G, ρ, As, ds, ρ', s, h2, ht, q⟩
    · cases ht
  | list ds =>
    have ht : (if ds.length = n then t.f ds ρ else none) = some ρ' := ht
    split at ht
    · rename_i hl
      cases hd with
      | @lst a xs _ h1 h2 => exact (pg_lst hc h hn hst).run pins0 s0 σ H _ u Q I r ⟨a, xs, rfl, s.sub.seq h1, (dps_len h2).trans hl, pins, G, ρ, As, ds, ρ', s, h2, ht, q⟩
    · cases ht
  | _ => cases ht
theorem s_asg {st : Stmt} {x : EF} {t : Tg} (h : PS X st (tAsg (liftE X.K R x) (liftG X.K t))) : PS X st (liftS X.K R (asgS t x)) := by
  refine PS.weak h fun D σ H ⟨pins, G, ρ, As, s, k⟩ => ⟨pins, G, ρ, As, s, ?_⟩
  refine Kont.bindS k fun o ρ1 G1 H1 As1 v Bs e1 nd1 r1 s1 k1 => ?_
  split at k1
  · rename_i d hd
    split at k1
    · rename_i ρ2 h2
      obtain ⟨G2, e2, sb2, d2⟩ := RepO.share r1 (List.nodup_append.mp nd1).1 s1.sub hd
      have st2 := s1.ext e2 (fun a ha hb => nd_disj nd1 a hb ha) sb2
      refine ⟨pins, G2, ρ1, As1, d, ρ2, st2, d2, h2, fun σ' As' s' l' _ _ => ?_⟩
      have e3 : Ext G1 H1 (Bs ++ As1) G2 H1 As' := (e2.frame As1).perm (fun a => by simp only [List.mem_append]; exact Or.comm) fun a ha => by
        rw [List.append_nil]; exact l' a ha
      exact k1 σ' G2 H1 As' e3 s'
    · exact k1.elim
  · exact k1.elim
end
end Vs

namespace Vs
open PySem PySem.Spec PyProof.Rows L2 Ww

/-! ### what a loop walks: so many data, in their order -/
def WalkF (K : PySem.W.Frag) (G : Hp) (J : It) (ds : List PyData) : Prop := ∀ G' H', Sub G G' → Sub G' H' →
  (∀ i d, ds[i]? = some d → J.go i H' ∧ ∀ x H2, J.yld i H' x H2 → ∃ G2, Grow G' H' G2 H2 [] ∧ Dp K G2 x d) ∧ ∀ i, ds.length ≤ i → J.stop i H'
abbrev IF := En → Rs (List PyData)
abbrev relI (K : PySem.W.Frag) : L2.St → Hp → Hp → It → List PyData → List Addr → Prop := fun _ G _ J ds Bs => Bs = [] ∧ WalkF K G J ds
abbrev liftI (K : PySem.W.Frag) (R : RK) (f : IF) : TI := lift (relI K) K R f
/-- a list, a tuple -/
def itL (f : EF) : IF := fun ρ => (f ρ).bind fun o ρ1 => match o.lv with
  | some ds => .ok ds ρ1
  | none => .stuck
def itT (f : EF) : IF := fun ρ => (f ρ).bind fun o ρ1 => match o with
  | .dat (.tuple ds) => .ok ds ρ1
  | _ => .stuck
def itR (f : EF) : IF := fun ρ => (f ρ).bind fun o ρ1 => match o with
  | .dat (.int n) => if n < 2 ^ 62 then .ok ((List.range n.toNat).map fun i : Nat => .int ((i : Nat) : Int)) ρ1 else .stuck
  | _ => .stuck
def loopF (t : Tg) (body : SF) : List PyData → SF
  | [] => fun ρ => .nx ρ
  | d :: ds => fun ρ => match t.f d ρ with
    | none => .stuck
    | some ρ1 => match body ρ1 with
      | .nx ρ2 => loopF t body ds ρ2
      | .ct ρ2 => loopF t body ds ρ2
      | .bk ρ2 => .nx ρ2
      | .rt o ρ2 => .rt o ρ2
      | .er c o ρ2 => .er c o ρ2
      | .stuck => .stuck
def forS (it : IF) (t : Tg) (body : SF) : SF := fun ρ => (it ρ).bindS fun ds ρ1 => loopF t body ds ρ1
def whileN (t : TF) (body : SF) : Nat → SF
  | 0 => fun _ => .stuck
  | n + 1 => fun ρ => (t ρ).bindS fun b ρ1 => if b = true then (match body ρ1 with
      | .nx ρ2 => whileN t body n ρ2
      | .ct ρ2 => whileN t body n ρ2
      | .bk ρ2 => .nx ρ2
      | .rt o ρ2 => .rt o ρ2
      | .er c o ρ2 => .er c o ρ2
      | .stuck => .stuck) else .nx ρ1
open Classical in
noncomputable def whileS (t : TF) (body : SF) : SF := fun ρ => if h : ∃ n, whileN t body n ρ ≠ .stuck then whileN t body h.choose ρ else .stuck
theorem whileN_more {t : TF} {body : SF} : ∀ {n : Nat} {ρ : En}, whileN t body n ρ ≠ .stuck → whileN t body (n + 1) ρ = whileN t body n ρ
  | 0, ρ, h => absurd rfl h
  | n + 1, ρ, h => by
    have u : ∀ m, whileN t body (m + 1) ρ = (t ρ).bindS fun b ρ1 => if b = true then (match body ρ1 with
      | .nx ρ2 => whileN t body m ρ2
      | .ct ρ2 => whileN t body m ρ2
      | .bk ρ2 => .nx ρ2
      | .rt o ρ2 => .rt o ρ2
      | .er c o ρ2 => .er c o ρ2
      | .stuck => .stuck) else .nx ρ1 := fun m => rfl
    rw [u (n + 1), u n]
    rw [u n] at h
    cases ht : t ρ with
    | er c o ρ' => rfl
    | stuck => rfl
    | ok b ρ1 =>
      rw [ht] at h
      cases b with
      | false => rfl
      | true =>
        show (match body ρ1 with
          | .nx ρ2 => whileN t body (n + 1) ρ2
          | .ct ρ2 => whileN t body (n + 1) ρ2
          | .bk ρ2 => .nx ρ2
          | .rt o ρ2 => .rt o ρ2
          | .er c o ρ2 => .er c o ρ2
          | .stuck => .stuck) = (match body ρ1 with
          | .nx ρ2 => whileN t body n ρ2
          | .ct ρ2 => whileN t body n ρ2
          | .bk ρ2 => .nx ρ2
          | .rt o ρ2 => .rt o ρ2
          | .er c o ρ2 => .er c o ρ2
          | .stuck => .stuck)
        have h : (match body ρ1 with
          | .nx ρ2 => whileN t body n ρ2
          | .ct ρ2 => whileN t body n ρ2
          | .bk ρ2 => .nx ρ2
          | .rt o ρ2 => .rt o ρ2
          | .er c o ρ2 => .er c o ρ2
          | .stuck => .stuck) ≠ .stuck := h
        cases hb : body ρ1 with
        | nx ρ2 =>
          rw [hb] at h
          exact whileN_more h
        | ct ρ2 =>
          rw [hb] at h
          exact whileN_more h
        | _ => rfl
theorem whileN_le {t : TF} {body : SF} {n : Nat} {ρ : En} (h : whileN t body n ρ ≠ .stuck) : ∀ k, whileN t body (n + k) ρ = whileN t body n ρ
  | 0 => rfl
  | k + 1 => by
    have e := whileN_le h k
    rw [← Nat.add_assoc, whileN_more (by rw [e]; exact h), e]
theorem whileS_of {t : TF} {body : SF} {n : Nat} {ρ : En} (h : whileN t body n ρ ≠ .stuck) : whileS t body ρ = whileN t body n ρ := by
  have hx : ∃ n, whileN t body n ρ ≠ .stuck := ⟨n, h⟩
  have e1 : whileS t body ρ = whileN t body hx.choose ρ := by
    unfold whileS
    rw [dif_pos hx]
  rw [e1, ← whileN_le hx.choose_spec n, ← whileN_le h hx.choose, Nat.add_comm]
/-- how the while goes on -/
theorem whileS_next {t : TF} {body : SF} {ρ ρ1 ρ2 : En} {r : Out} (ht : t ρ = .ok true ρ1) (hb : body ρ1 = .nx ρ2) (hr : whileS t body ρ2 = r) (hn : r ≠ .stuck) : whileS t body ρ = r := by
  subst hr
  have hx : ∃ n, whileN t body n ρ2 ≠ .stuck := by
    by_cases c : ∃ n, whileN t body n ρ2 ≠ .stuck
    · exact c
    · unfold whileS at hn
      rw [dif_neg c] at hn
      exact absurd rfl hn
  obtain ⟨n, hn'⟩ := hx
  have e : whileN t body (n + 1) ρ = whileN t body n ρ2 := by
    show (t ρ).bindS _ = _
    rw [ht]
    show (match body ρ1 with
      | .nx ρ2 => whileN t body n ρ2
      | .ct ρ2 => whileN t body n ρ2
      | .bk ρ2 => .nx ρ2
      | .rt o ρ2 => .rt o ρ2
      | .er c o ρ2 => .er c o ρ2
      | .stuck => .stuck) = _
    rw [hb]
  rw [whileS_of (n := n + 1) (by rw [e]; exact hn'), e, whileS_of hn']
/-- how it ends -/
theorem whileS_done {t : TF} {body : SF} {ρ ρ1 : En} (ht : t ρ = .ok false ρ1) : whileS t body ρ = .nx ρ1 := by
  have e : whileN t body 1 ρ = .nx ρ1 := by
    show (t ρ).bindS _ = _
    rw [ht]
    rfl
  rw [whileS_of (n := 1) (by rw [e]; exact fun z => nomatch z), e]
theorem whileS_ret {t : TF} {body : SF} {ρ ρ1 ρ2 : En} {o : O} (ht : t ρ = .ok true ρ1) (hb : body ρ1 = .rt o ρ2) : whileS t body ρ = .rt o ρ2 := by
  have e : whileN t body 1 ρ = .rt o ρ2 := by
    show (t ρ).bindS _ = _
    rw [ht]
    show (match body ρ1 with
      | .nx ρ2 => whileN t body 0 ρ2
      | .ct ρ2 => whileN t body 0 ρ2
      | .bk ρ2 => .nx ρ2
      | .rt o ρ2 => .rt o ρ2
      | .er c o ρ2 => .er c o ρ2
      | .stuck => .stuck) = _
    rw [hb]
  rw [whileS_of (n := 1) (by rw [e]; exact fun z => nomatch z), e]
theorem whileS_bk {t : TF} {body : SF} {ρ ρ1 ρ2 : En} (ht : t ρ = .ok true ρ1) (hb : body ρ1 = .bk ρ2) : whileS t body ρ = .nx ρ2 := by
  have e : whileN t body 1 ρ = .nx ρ2 := by
    show (t ρ).bindS _ = _
    rw [ht]
    show (match body ρ1 with
      | .nx ρ2 => whileN t body 0 ρ2
      | .ct ρ2 => whileN t body 0 ρ2
      | .bk ρ2 => .nx ρ2
      | .rt o ρ2 => .rt o ρ2
      | .er c o ρ2 => .er c o ρ2
      | .stuck => .stuck) = _
    rw [hb]
  rw [whileS_of (n := 1) (by rw [e]; exact fun z => nomatch z), e]
section
variable {K : PySem.W.Frag} {R : RK} {pins σ : L2.St} {G H G' H' : Hp} {As Bs Cs T : List Addr} {Q : VK} {ρ : En} {X : Cx} {D : Ends}
theorem walk_list {a : Addr} {vs : List V} {ds : List PyData} (h : SqL K G a vs) (hd : DpAll K G vs ds) : WalkF K G (Itl K a) ds := by
  intro G' H' s1 s2
  have hH : SqL K H' a vs := s2.seq (s1.seq h)
  refine ⟨fun i d hi => ?_, fun i hi => ⟨vs, hH, by rw [dps_len hd]; exact hi⟩⟩
  obtain ⟨v, hv, dv⟩ := DpAll.get hd hi
  refine ⟨⟨vs, v, hH, hv⟩, fun x H2 ⟨e, y⟩ => ?_⟩
  subst e
  have e2 := y vs hH
  rw [hv] at e2
  cases Option.some.inj e2
  exact ⟨G', Grow.same s2, dp_same s1 dv⟩
theorem walk_tup {a : Addr} {vs : List V} {ds : List PyData} (h : SqT K G a vs) (hd : DpAll K G vs ds) : WalkF K G (Itt K a) ds := by
  intro G' H' s1 s2
  have hH : SqT K H' a vs := s2.sqt (s1.sqt h)
  refine ⟨fun i d hi => ?_, fun i hi => ⟨vs, hH, by rw [dps_len hd]; exact hi⟩⟩
  obtain ⟨v, hv, dv⟩ := DpAll.get hd hi
  refine ⟨⟨vs, v, hH, hv⟩, fun x H2 ⟨e, y⟩ => ?_⟩
  subst e
  have e2 := y vs hH
  rw [hv] at e2
  cases Option.some.inj e2
  exact ⟨G', Grow.same s2, dp_same s1 dv⟩
theorem walk_range {lo : Int} {n : Nat} : WalkF K G (Itr lo n) ((List.range n).map fun i : Nat => .int (lo + (i : Int))) := by
  intro G' H' s1 s2
  refine ⟨fun i d hi => ?_, fun i hi => ?_⟩
  · by_cases c : i < n
    · rw [List.getElem?_map, List.getElem?_range c] at hi
      cases (Option.some.inj hi : PyData.int (lo + (i : Int)) = d)
      exact ⟨c, fun x H2 ⟨e, y⟩ => by subst e; subst y; exact ⟨G', Grow.same s2, .int _⟩⟩
    · rw [List.getElem?_map, List.getElem?_eq_none (by simpa using c)] at hi
      cases hi
  · show n ≤ i
    simpa using hi
theorem i_list {tg e : Expr} {f : EF} (h : PE X e (liftE X.K R f)) : PI X tg e (liftI X.K R (itL f)) := by
  have w := pi_list (tg := tg) h
  refine ⟨fun pins s σ H Rr I ⟨pn, G, ρ, As, st, k⟩ => w.run pins s σ H Rr I ⟨pn, G, ρ, As, st, ?_⟩⟩
  refine Kont.bind (T := []) (Q := Rr) st.nd (fun a z => nomatch z) k fun o ρ1 G1 H1 As1 v Bs e1 nd1 r1 s1 k1 => ?_
  split at k1
  · rename_i ds hd
    have nd1' : (Bs ++ As1).Nodup := by simpa using nd1
    have hd2 : o.dv = some (.list ds) := by
      unfold O.lv at hd
      split at hd
      · cases Option.some.inj hd; rfl
      · cases Option.some.inj hd; rfl
      · cases hd
    obtain ⟨G2, e2, sb2, d2⟩ := RepO.share r1 (List.nodup_append.mp nd1').1 s1.sub hd2
    have st2 := s1.ext e2 (fun a ha hb => nd_disj nd1' a hb ha) sb2
    cases d2 with
    | @lst a vs _ h1 h2 =>
      refine ⟨a, rfl, ⟨vs, sb2.seq h1⟩, ?_⟩
      have e3 : Ext G1 H1 ([] ++ (Bs ++ As1)) G2 H1 ([] ++ As1) := (e2.frame As1).perm (fun a => by simp only [List.mem_append, List.nil_append]; exact Or.comm) fun a ha => by simpa using ha
      exact k1 G2 H1 As1 _ [] e3 st2.nd ⟨rfl, walk_list h1 h2⟩ st2
  · exact k1.elim
theorem i_tup {tg e : Expr} {f : EF} (h : PE X e (liftE X.K R f)) : PI X tg e (liftI X.K R (itT f)) := by
  have w := pi_tup (tg := tg) h
  refine ⟨fun pins s σ H Rr I ⟨pn, G, ρ, As, st, k⟩ => w.run pins s σ H Rr I ⟨pn, G, ρ, As, st, ?_⟩⟩
  refine Kont.bind (T := []) (Q := Rr) st.nd (fun a z => nomatch z) k fun o ρ1 G1 H1 As1 v Bs e1 nd1 r1 s1 k1 => ?_
  split at k1
  · rename_i ds
    obtain ⟨a, vs, rfl, h1, h2⟩ := dat_tup r1
    refine ⟨a, rfl, ⟨vs, s1.sub.sqt h1⟩, ?_⟩
    exact Kont.now k1 s1 (Bs := []) (fun a z => List.mem_append_right _ (List.mem_append_right _ z)) s1.nd ⟨rfl, walk_tup h1 h2⟩
  · exact k1.elim
theorem lift_orI {tg e : Expr} {f f1 f2 : IF} (h1 : PI X tg e (liftI X.K R f1)) (h2 : PI X tg e (liftI X.K R f2)) (h : ∀ ρ, f ρ = f1 ρ ∨ f ρ = f2 ρ) : PI X tg e (liftI X.K R f) := by
  refine ⟨fun pins s σ H Q I ⟨pn, G, ρ, As, st, k⟩ => ?_⟩
  rcases h ρ with q | q
  · exact h1.run pins s σ H Q I ⟨pn, G, ρ, As, st, by rw [← q]; exact k⟩
  · exact h2.run pins s σ H Q I ⟨pn, G, ρ, As, st, by rw [← q]; exact k⟩
/-- a list or a tuple -/
def itS (f : EF) : IF := fun ρ => (f ρ).bind fun o ρ1 => match o with
  | .dat (.list ds) => .ok ds ρ1
  | .ls ds => .ok ds ρ1
  | .dat (.tuple ds) => .ok ds ρ1
  | _ => .stuck
theorem i_seq {tg e : Expr} {f : EF} (h : PE X e (liftE X.K R f)) : PI X tg e (liftI X.K R (itS f)) := by
  refine lift_orI (i_list h) (i_tup h) fun ρ => ?_
  unfold itS itL itT
  cases f ρ with
  | er c o ρ => exact .inl rfl
  | stuck => exact .inl rfl
  | ok o ρ =>
    cases o with
    | dat d => cases d <;> first | exact .inl rfl | exact .inr rfl
    | ls ds => exact .inl rfl
    | dk _ => exact .inl rfl
    | tp _ => exact .inl rfl
    | lt _ => exact .inl rfl
    | ll _ => exact .inl rfl
theorem s_for {iter tg : Expr} {body : List Stmt} {it : IF} {t : Tg} {bd : SF} {pos : Pos} (hp : PassesOwn (model X.prog X.w) X.A X.env X.xe) (hc : X.calm = true) (hi : PI X tg iter (liftI X.K R it)) (hg : PG X tg (liftG X.K t)) (hb : PSs X body (liftS X.K R bd))
    (hs : ∀ x, foldedSetIterable iter X.env x = pure x := by intro _; rfl) : PS X (.For tg iter body [] pos) (liftS X.K R (forS it t bd)) := by
  refine PS.weak (ps_for hp hc hi hg hb hs) fun D σ H ⟨pins, G, ρ, As, s, k⟩ => ⟨pins, G, ρ, As, s, ?_⟩
  refine Kont.bindS k fun ds ρ1 G1 H1 As1 J Bs e1 nd1 r1 s1 k1 => ?_
  obtain ⟨rfl, wk⟩ := r1
  refine ⟨fun i m σ' H' => m = ds.length - i ∧ i ≤ ds.length ∧ ∃ G2 ρ2 As2, Ste X.K pins G2 H' σ' ρ2 As2 ∧ Sub G1 G2 ∧ KontS X.K R pins G2 H' As2 D (loopF t bd (ds.drop i) ρ2), ⟨_, rfl, Nat.zero_le _, G1, ρ1, As1, s1, Sub.refl _, by simpa using k1⟩, ?_⟩
  rintro i m σ' H' ⟨rfl, hi, G2, ρ2, As2, s2, sb, k2⟩
  obtain ⟨w1, w2⟩ := wk G2 H' sb s2.sub
  by_cases hlt : i < ds.length
  · have hd : ds[i]? = some ds[i] := List.getElem?_eq_getElem hlt
    obtain ⟨hgo, hy⟩ := w1 i _ hd
    have ed : ds.drop i = ds[i] :: ds.drop (i + 1) := List.drop_eq_getElem_cons hlt
    rw [ed] at k2
    generalize ds[i] = d at *
    have k2 : KontS X.K R pins G2 H' As2 D (match t.f d ρ2 with
      | none => .stuck
      | some ρ1 => match bd ρ1 with
        | .nx ρ2 => loopF t bd (ds.drop (i + 1)) ρ2
        | .ct ρ2 => loopF t bd (ds.drop (i + 1)) ρ2
        | .bk ρ2 => .nx ρ2
        | .rt o ρ2 => .rt o ρ2
        | .er c o ρ2 => .er c o ρ2
        | .stuck => .stuck) := k2
    refine .inr ⟨hgo, fun σ3 H3 => ∃ G3 ρ3 As3, Ste X.K pins G3 H3 σ3 ρ3 As3 ∧ Sub G1 G3 ∧ KontS X.K R pins G3 H3 As3 D (loopF t bd (ds.drop (i + 1)) ρ3), fun σ3 H3 h3 => ⟨ds.length - (i + 1), by omega, rfl, hlt, h3⟩, fun x H3 hx => ?_⟩
    obtain ⟨G3, g3, dx⟩ := hy x H3 hx
    have s3 := s2.ext g3.ext (fun a _ z => nomatch z) g3.sub
    have e3 : Ext G2 H' As2 G3 H3 As2 := (g3.ext.frame As2).perm (fun a => by simp) fun a ha => by simpa using ha
    split at k2
    · exact k2.elim
    · rename_i ρ4 h4
      refine ⟨pins, G3, ρ2, As2, d, ρ4, s3, dx, h4, fun σ5 As5 s5 l5 _ _ => ⟨pins, G3, ρ4, As5, s5, ?_⟩⟩
      have k3 := KontS.re k2 (e3.less l5)
      cases hb4 : bd ρ4 with
      | nx ρ6 =>
        rw [hb4] at k3
        exact fun σ7 G7 H7 As7 e7 s7 => ⟨G7, ρ6, As7, s7, (sb.trans g3.ext.sub).trans e7.sub, KontS.re k3 e7⟩
      | ct ρ6 =>
        rw [hb4] at k3
        exact fun σ7 G7 H7 As7 e7 s7 => ⟨G7, ρ6, As7, s7, (sb.trans g3.ext.sub).trans e7.sub, KontS.re k3 e7⟩
      | bk ρ6 =>
        rw [hb4] at k3
        exact k3
      | rt o ρ6 =>
        rw [hb4] at k3
        exact k3
      | er c o ρ6 =>
        rw [hb4] at k3
        exact k3
      | stuck =>
        rw [hb4] at k3
        exact k3
  · have e : ds.drop i = [] := List.drop_eq_nil_of_le (by omega)
    rw [e] at k2
    exact .inl ⟨w2 i (by omega), KontS.now k2 s2 fun _ z => z⟩
theorem s_while {c : Expr} {body : List Stmt} {t : TF} {bd : SF} {pos : Pos} (hp : PassesOwn (model X.prog X.w) X.A X.env X.xe) (hc : PT X c (liftT X.K R t)) (hb : PSs X body (liftS X.K R bd)) : PS X (.While c body [] pos) (liftS X.K R (whileS t bd)) := by
  refine PS.weak (ps_while hp hc hb) fun D σ H ⟨pins, G, ρ, As, s, k⟩ => ?_
  unfold whileS at k
  split at k
  · rename_i hx
    refine ⟨fun m σ' H' => ∃ G2 ρ2 As2, Ste X.K pins G2 H' σ' ρ2 As2 ∧ KontS X.K R pins G2 H' As2 D (whileN t bd m ρ2), ⟨_, G, ρ, As, s, k⟩, ?_⟩
    rintro m σ' H' ⟨G2, ρ2, As2, s2, k2⟩
    cases m with
    | zero => exact k2.elim
    | succ m =>
      refine ⟨pins, G2, ρ2, As2, s2, ?_⟩
      refine Kont.bindS k2 fun b ρ3 G3 H3 As3 v Bs e3 nd3 r3 s3 k3 => ?_
      obtain ⟨rfl, rfl⟩ := r3
      by_cases c : v = true
      · rw [if_pos c] at k3 ⊢
        refine ⟨fun σ4 H4 => ∃ G4 ρ4 As4, Ste X.K pins G4 H4 σ4 ρ4 As4 ∧ KontS X.K R pins G4 H4 As4 D (whileN t bd m ρ4), fun σ4 H4 h => ⟨m, by omega, h⟩, pins, G3, ρ3, As3, s3, ?_⟩
        have k3 : KontS X.K R pins G3 H3 As3 D (match bd ρ3 with
          | .nx ρ2 => whileN t bd m ρ2
          | .ct ρ2 => whileN t bd m ρ2
          | .bk ρ2 => .nx ρ2
          | .rt o ρ2 => .rt o ρ2
          | .er c o ρ2 => .er c o ρ2
          | .stuck => .stuck) := by simpa using k3
        cases hb4 : bd ρ3 with
        | nx ρ6 =>
          rw [hb4] at k3
          exact fun σ7 G7 H7 As7 e7 s7 => ⟨G7, ρ6, As7, s7, KontS.re k3 e7⟩
        | ct ρ6 =>
          rw [hb4] at k3
          exact fun σ7 G7 H7 As7 e7 s7 => ⟨G7, ρ6, As7, s7, KontS.re k3 e7⟩
        | bk ρ6 =>
          rw [hb4] at k3
          exact k3
        | rt o ρ6 =>
          rw [hb4] at k3
          exact k3
        | er c o ρ6 =>
          rw [hb4] at k3
          exact k3
        | stuck =>
          rw [hb4] at k3
          exact k3
      · rw [if_neg c] at k3 ⊢
        exact KontS.now k3 s3 fun a z => List.mem_append_right _ z
  · exact k.elim
end

/-! ### defs -/
def toSl : O → Sl
  | .dat d => .val (.dat d)
  | o => .bor o
def entry (n : Nat) (os : List O) : En := os.map toSl ++ List.replicate (n - os.length) .no
def outSl : Sl → Sl
  | .bor o => .bor o
  | _ => .no
def leave (np : Nat) (ρ : En) : List Sl := (ρ.take np).map outSl
def defF (np n : Nat) (body : SF) : FF := fun os => if os.length = np then (match body (entry n os) with
  | .rt o ρ => .ok o (leave np ρ)
  | .nx ρ => .ok (.dat .none) (leave np ρ)
  | .er c o ρ => .er c o (leave np ρ)
  | _ => .stuck) else .stuck
section
variable {K : PySem.W.Frag} {R : RK} {pins σ : L2.St} {G H G' H' : Hp} {As Bs Cs T : List Addr} {Q : VK} {ρ : En} {X : Cx} {D : Ends}
theorem toSl_get (o : O) : (toSl o).get = some o := by cases o <;> rfl
theorem slots_none : ∀ n : Nat, Slots K G H (List.replicate n none) (List.replicate n .no) []
  | 0 => .nil
  | n + 1 => .no (slots_none n)
theorem RepOs.len {vs : List V} {os : List O} (r : RepOs K G H vs os Bs) : vs.length = os.length := by
  induction r with
  | nil => rfl
  | cons _ _ ih => simp [ih]
theorem slots_start {vs : List V} {os : List O} (r : RepOs K G H vs os Bs) (n : Nat) : Slots K G H (vs.map some ++ List.replicate n none) (os.map toSl ++ List.replicate n .no) Bs := by
  induction r with
  | nil => exact slots_none n
  | cons q _ ih => exact .mkFull (toSl_get _) q ih
theorem slots_leave : ∀ (np : Nat) {σ pn : L2.St} {ρ : En} {As : List Addr}, Slots K G H σ ρ As → As.Nodup → (∀ i : Nat, (∃ o, ρ[i]? = some (.bor o)) → σ[i]? = pn[i]?) → np ≤ σ.length → np ≤ pn.length → (∀ i, i < np → ∃ v, pn[i]? = some (some v)) →
    ∃ Cs, Slots K G H (pn.take np) (leave np ρ) Cs ∧ (∀ a ∈ Cs, a ∈ As) ∧ Cs.Nodup
  | 0, σ, pn, ρ, As, r, nd, p, h1, h2, h3 => ⟨[], Slots.nil, (fun a z => nomatch z), List.nodup_nil⟩
  | np + 1, [], pn, ρ, As, r, nd, p, h1, h2, h3 => by simp at h1
  | np + 1, x :: σ, [], ρ, As, r, nd, p, h1, h2, h3 => by simp at h2
  | np + 1, x :: σ, y :: pn, [], As, r, nd, p, h1, h2, h3 => by cases r
  | np + 1, x :: σ, y :: pn, z :: ρ, As, r, nd, p, h1, h2, h3 => by
    have e : leave (np + 1) (z :: ρ) = outSl z :: leave np ρ := rfl
    have pp : ∀ i : Nat, (∃ o, ρ[i]? = some (.bor o)) → σ[i]? = pn[i]? := fun i hi => by simpa using p (i + 1) (by simpa using hi)
    have h3' : ∀ i, i < np → ∃ v, pn[i]? = some (some v) := fun i hi => by simpa using h3 (i + 1) (by omega)
    rw [e, List.take_succ_cons]
    rcases r.inv with ⟨hg, r⟩ | ⟨v, o, B, E, rfl, ho, rfl, q, r⟩
    · obtain ⟨Cs, w1, w2, w3⟩ := slots_leave np r nd pp (by simpa using h1) (by simpa using h2) h3'
      refine ⟨Cs, ?_, w2, w3⟩
      have : outSl z = .no := by cases z <;> first | rfl | exact hg.elim
      rw [this]
      exact .no w1
    · obtain ⟨n1, n2, n3⟩ := List.nodup_append.mp nd
      obtain ⟨Cs, w1, w2, w3⟩ := slots_leave np r n2 pp (by simpa using h1) (by simpa using h2) h3'
      cases z with
      | no => cases ho
      | lent => cases ho
      | val o' => exact ⟨Cs, .no w1, fun a ha => List.mem_append_right _ (w2 a ha), w3⟩
      | bor o' =>
        cases (Option.some.inj ho : o' = o)
        have e2 : some v = y := by simpa using p 0 ⟨_, rfl⟩
        subst e2
        refine ⟨B ++ Cs, .bor q w1, fun a ha => ?_, List.nodup_append.mpr ⟨n1, w3, fun a ha b hb => n3 a ha b (w2 b hb)⟩⟩
        rcases List.mem_append.mp ha with w | w
        · exact List.mem_append_left _ w
        · exact List.mem_append_right _ (w2 a w)
/-- a def's body: what its promise asks of it (nothing is raised) -/
theorem def_ok {vs : List V} {np n : Nat} {body : SF} {cl : Str → Option Addr} {E : XK} {N : List Str} (hN : N.length = n) (h : spF K cl (defF np n body) vs H Q E) (hnp : np ≤ n) (hr : ∀ σ c d H, (∃ C, cl c = some C ∧ E (.ref C) (some d) H) → R c d σ H) :
    liftS K R body { nx := fun _ H' => Q .non H', rt := Q } (start N vs) H := by
  obtain ⟨G, os, As, r, nd, sub, k⟩ := h
  unfold defF at k
  by_cases hl : os.length = np
  · rw [if_pos hl] at k
    have hv : vs.length = np := (RepOs.len r).trans hl
    have es : start N vs = vs.map some ++ List.replicate (n - os.length) none := by unfold L2.start; rw [hN, hv, hl]
    have s0 : Ste K (start N vs) G H (start N vs) (entry n os) As := by
      refine ⟨?_, nd, sub, rfl, fun i _ => rfl⟩
      rw [es]
      exact slots_start r _
    refine ⟨start N vs, G, entry n os, As, s0, ?_⟩
    have tk : (start N vs).take np = vs.map some := by
      unfold L2.start
      rw [List.take_append_of_le_length (by rw [List.length_map, hv]; exact Nat.le_refl _), List.take_of_length_le (by rw [List.length_map, hv]; exact Nat.le_refl _)]
    have ln : (start N vs).length = n := by
      unfold L2.start
      rw [List.length_append, List.length_map, List.length_replicate, hN, hv]
      omega
    have out : ∀ {σ' : L2.St} {ρ' : En} {G' H' : Hp} {Bs As' : List Addr}, Ext G H As G' H' (Bs ++ As') → (Bs ++ As').Nodup → Ste K (start N vs) G' H' σ' ρ' As' → ∃ Cs, Slots K G' H' (vs.map some) (leave np ρ') Cs ∧ (Bs ++ Cs).Nodup ∧ Ext G H As G' H' (Bs ++ Cs) := by
      intro σ' ρ' G' H' Bs As' e nd2 st
      obtain ⟨Cs, w1, w2, w3⟩ := slots_leave (pn := start N vs) np st.slots st.nd (fun i hi => st.pin.2 i (.inr hi)) (by rw [st.pin.1, ln]; exact hnp) (by rw [ln]; exact hnp) (fun i hi => by
        have : (start N vs)[i]? = (vs.map some)[i]? := by
          rw [← tk, List.getElem?_take_of_lt hi]
        rw [this, List.getElem?_map, List.getElem?_eq_getElem (by omega)]
        exact ⟨_, rfl⟩)
      rw [tk] at w1
      refine ⟨Cs, w1, List.nodup_append.mpr ⟨(List.nodup_append.mp nd2).1, w3, fun a ha b hb => (List.nodup_append.mp nd2).2.2 a ha b (w2 b hb)⟩, e.less fun a ha => ?_⟩
      rcases List.mem_append.mp ha with w | w
      · exact List.mem_append_left _ w
      · exact List.mem_append_right _ (w2 a w)
    cases hb : body (entry n os) with
    | nx ρ' =>
      rw [hb] at k
      intro σ' G' H' As' e st
      obtain ⟨Cs, w1, w2, w3⟩ := out (Bs := []) e st.nd st
      exact k G' H' .non [] Cs w3 w2 (.dat .non) st.sub w1
    | rt o ρ' =>
      rw [hb] at k
      intro σ' G' H' As' v Bs e nd2 rv st
      obtain ⟨Cs, w1, w2, w3⟩ := out e nd2 st
      exact k G' H' v Bs Cs w3 w2 rv st.sub w1
    | er c o ρ' =>
      rw [hb] at k
      intro σ' G' H' As' v Bs d e nd2 rv st hd
      obtain ⟨Cs, w1, w2, w3⟩ := out e nd2 st
      exact hr σ' c d H' (k G' H' v Bs Cs d w3 w2 rv st.sub w1 hd)
    | bk ρ' => rw [hb] at k; exact k.elim
    | ct ρ' => rw [hb] at k; exact k.elim
    | stuck => rw [hb] at k; exact k.elim
  · rw [if_neg hl] at k
    exact k.elim
end
end Vs

namespace Vs
open PySem PySem.Spec PyProof.Rows L2 Ww

/-! ### comprehensions -/
def Rs.bindX {α γ : Type} (r : Rs α) (k : α → En → Rs γ) : Rs γ := match r with
  | .ok o ρ => k o ρ
  | _ => .stuck
def wipeR (ρ : En) : List Nat → En
  | [] => ρ
  | v :: vs => (wipeR ρ vs).set v .no
def restF (ρ1 : En) : List Nat → En → En
  | [], ρ => ρ
  | i :: is, ρ => match ρ1[i]? with
    | some (.val (.dat d)) => match (restF ρ1 is ρ)[i]? with
      | some .no => (restF ρ1 is ρ).set i (.val (.dat d))
      | _ => restF ρ1 is ρ
    | _ => restF ρ1 is ρ
def yesT : TF := fun ρ => .ok true ρ
def lcL (t : Tg) (c : TF) (e : EF) (own : List Nat) : List PyData → En → Rs (List PyData)
  | [], ρ => .ok [] ρ
  | d :: ds, ρ => match t.f d ρ with
    | none => .stuck
    | some ρ1 => (c ρ1).bindX fun b ρ2 => if b = true then (e ρ2).bindX fun o ρ3 => match o.dv with
        | some x => (lcL t c e own ds (wipeR ρ3 own)).bindX fun xs ρ4 => .ok (x :: xs) ρ4
        | none => .stuck
      else lcL t c e own ds (wipeR ρ2 own)
def lcFin (own : List Nat) (ρ1 : En) (acc : List PyData) (r : Rs (List PyData)) : Res := r.bindX fun xs ρ2 => .ok (.ls (acc ++ xs)) (restF ρ1 own ρ2)
def lcF (it : IF) (t : Tg) (c : TF) (e : EF) (own : List Nat) : EF := fun ρ => (it ρ).bind fun ds ρ1 => if ds.length ≤ sizeLine then lcFin own ρ1 [] (lcL t c e own ds (wipeR ρ1 own)) else .stuck
section
variable {K : PySem.W.Frag} {R : RK} {pins σ : L2.St} {G H G' H' : Hp} {As Bs Cs T : List Addr} {Q : VK} {ρ : En} {X : Cx} {D : Ends}
theorem Slots.unset : ∀ {σ : L2.St} {ρ : En} {As : List Addr} (i : Nat), Slots K G H σ ρ As → As.Nodup → ∃ Cs, Slots K G H (σ.set i none) (ρ.set i .no) Cs ∧ (∀ a ∈ Cs, a ∈ As) ∧ Cs.Nodup
  | [], [], As, i, r, nd => ⟨As, r, fun a z => z, nd⟩
  | [], _ :: _, _, i, r, _ => by cases r
  | _ :: _, [], _, i, r, _ => by cases r
  | x :: σ, u :: ρ, As, 0, r, nd => by
    rcases r.inv with ⟨_, r⟩ | ⟨v', o', D, E, rfl, _, rfl, _, r⟩
    · exact ⟨_, .no r, fun a z => z, nd⟩
    · exact ⟨_, .no r, fun a z => List.mem_append_right _ z, (List.nodup_append.mp nd).2.1⟩
  | x :: σ, u :: ρ, As, i + 1, r, nd => by
    rcases r.inv with ⟨hg, r⟩ | ⟨v', o', D, E, rfl, hu, rfl, q2, r⟩
    · obtain ⟨Cs, h1, h2, h3⟩ := Slots.unset i r nd
      exact ⟨Cs, .mkGap hg h1, h2, h3⟩
    · obtain ⟨n1, n2, n3⟩ := List.nodup_append.mp nd
      obtain ⟨Cs, h1, h2, h3⟩ := Slots.unset i r n2
      refine ⟨D ++ Cs, .mkFull hu q2 h1, fun a z => ?_, List.nodup_append.mpr ⟨n1, h3, fun a ha b hb => n3 a ha b (h2 b hb)⟩⟩
      rcases List.mem_append.mp z with w | w
      · exact List.mem_append_left _ w
      · exact List.mem_append_right _ (h2 a w)
theorem Slots.wiped : ∀ (vs : List Nat) {σ : L2.St} {ρ : En} {As : List Addr}, Slots K G H σ ρ As → As.Nodup → ∃ Cs, Slots K G H (wipe σ vs) (wipeR ρ vs) Cs ∧ (∀ a ∈ Cs, a ∈ As) ∧ Cs.Nodup
  | [], σ, ρ, As, r, nd => ⟨As, r, fun _ z => z, nd⟩
  | v :: vs, σ, ρ, As, r, nd => by
    obtain ⟨Cs, h1, h2, h3⟩ := Slots.wiped vs r nd
    obtain ⟨Ds, w1, w2, w3⟩ := Slots.unset v h1 h3
    exact ⟨Ds, w1, fun a z => h2 a (w2 a z), w3⟩
theorem Slots.unwipe1 : ∀ {σ : L2.St} {ρ : En} {As : List Addr} (i : Nat), Slots K G H (σ.set i none) ρ As → Slots K G H σ ρ As
  | [], ρ, As, i, r => r
  | x :: σ, [], As, i, r => by cases i <;> cases r
  | x :: σ, u :: ρ, As, 0, r => by
    rcases r.inv with ⟨hg, r⟩ | ⟨v', o', D, E, h, _⟩
    · exact .mkGap hg r
    · cases h
  | x :: σ, u :: ρ, As, i + 1, r => by
    rcases Slots.inv (x := x) (σ := σ.set i none) r with ⟨hg, r⟩ | ⟨v', o', D, E, rfl, hu, rfl, q2, r⟩
    · exact .mkGap hg (Slots.unwipe1 i r)
    · exact .mkFull hu q2 (Slots.unwipe1 i r)
theorem Slots.unwipe : ∀ (vs : List Nat) {σ : L2.St} {ρ : En} {As : List Addr}, Slots K G H (wipe σ vs) ρ As → Slots K G H σ ρ As
  | [], σ, ρ, As, r => r
  | v :: vs, σ, ρ, As, r => Slots.unwipe vs (Slots.unwipe1 v r)
theorem wipeR_in {vs : List Nat} {ρ : En} {i : Nat} (h : i ∈ vs) : (wipeR ρ vs)[i]? = some .no ∨ (wipeR ρ vs)[i]? = none := by
  induction vs with
  | nil => cases h
  | cons v vs ih =>
    have u : wipeR ρ (v :: vs) = (wipeR ρ vs).set v .no := rfl
    rw [u]
    by_cases e : v = i
    · subst e
      by_cases hl : v < (wipeR ρ vs).length
      · exact .inl (List.getElem?_set_self hl)
      · exact .inr (List.getElem?_eq_none (by rw [List.length_set]; omega))
    · rw [List.getElem?_set_ne e]
      exact ih ((List.mem_cons.mp h).resolve_left fun z => e z.symm)
theorem wipeR_out {vs : List Nat} {ρ : En} {i : Nat} (h : i ∉ vs) : (wipeR ρ vs)[i]? = ρ[i]? := by
  induction vs with
  | nil => rfl
  | cons v vs ih =>
    show ((wipeR ρ vs).set v .no)[i]? = _
    rw [List.getElem?_set_ne fun e => h (by rw [e]; exact List.mem_cons_self)]
    exact ih fun z => h (List.mem_cons_of_mem _ z)
theorem wipe_out' {vs : List Nat} {σ : L2.St} {i : Nat} (h : i ∉ vs) : (wipe σ vs)[i]? = σ[i]? := wipe_out h
theorem Pin.wipe {vs : List Nat} (p : Pin pins σ ρ) : Pin pins (wipe σ vs) (wipeR ρ vs) := by
  refine ⟨by rw [wipe_length]; exact p.1, fun i hi => ?_⟩
  by_cases h : i ∈ vs
  · rcases wipeR_in (ρ := ρ) h with z | z <;> rw [z] at hi <;> rcases hi with w | ⟨o, w⟩ <;> cases w
  · rw [wipeR_out h] at hi
    rw [wipe_out' h]
    exact p.2 i hi
theorem Pin.unwipe {vs : List Nat} (p : Pin pins (L2.wipe σ vs) (wipeR ρ vs)) : Pin pins σ (wipeR ρ vs) := by
  refine ⟨by rw [← p.1, wipe_length], fun i hi => ?_⟩
  by_cases h : i ∈ vs
  · rcases wipeR_in (ρ := ρ) h with z | z <;> rw [z] at hi <;> rcases hi with w | ⟨o, w⟩ <;> cases w
  · rw [← wipe_out' h]
    exact p.2 i hi
theorem Ste.wiped (s : Ste K pins G H σ ρ As) (vs : List Nat) : ∃ Cs, Ste K pins G H (wipe σ vs) (wipeR ρ vs) Cs ∧ ∀ a ∈ Cs, a ∈ As := by
  obtain ⟨Cs, h1, h2, h3⟩ := s.slots.wiped vs s.nd
  exact ⟨Cs, ⟨h1, h3, s.sub, s.pin.wipe⟩, h2⟩
theorem Ste.rest {ρ1 : En} {G1 : Hp} {H1 : Hp} {As1 : List Addr} (s1 : Ste K pins G1 H1 σ ρ1 As1) (sb : Sub G1 G) : ∀ (is : List Nat) {ρ : En} {As : List Addr}, Ste K pins G H σ ρ As → ∃ Cs, Ste K pins G H σ (restF ρ1 is ρ) Cs ∧ ∀ a ∈ Cs, a ∈ As
  | [], ρ, As, s => ⟨As, s, fun _ z => z⟩
  | i :: is, ρ, As, s => by
    obtain ⟨Cs, h1, h2⟩ := Ste.rest s1 sb is s
    unfold restF
    split
    · rename_i d hd
      split
      · rename_i hi
        obtain ⟨v, hv⟩ := s1.slots.has (getS_val hd)
        obtain ⟨Bs, r, _⟩ := s1.slots.at hv (getS_val hd)
        obtain ⟨Ds, w1, w2, w3⟩ := Slots.into (B := []) (z := .val (.dat d)) rfl (.dat (dp_same sb r.dp0)) h1.slots hi trivial hv
        exact ⟨Ds, ⟨w1, w3 h1.nd, s.sub, h1.pin.set trivial⟩, fun a z => h2 a (by simpa using (w2 a).1 z)⟩
      · exact ⟨Cs, h1, h2⟩
    · exact ⟨Cs, h1, h2⟩
theorem wipe_eq {vs ws : List Nat} {σ σ' : L2.St} (hl : σ'.length = σ.length) (h : ∀ j, j ∉ ws → σ'[j]? = σ[j]?) (hs : ∀ i ∈ ws, i ∈ vs) : wipe σ' vs = wipe σ vs := by
  refine List.ext_getElem? fun i => ?_
  by_cases hi : i ∈ vs
  · have q : ∀ (τ : L2.St), (wipe τ vs)[i]? = if i < τ.length then some none else none := fun τ => by
      by_cases c : i < τ.length
      · rw [if_pos c]
        have hw : i < (wipe τ vs).length := by rw [wipe_length]; exact c
        cases e : (wipe τ vs)[i]? with
        | none => rw [List.getElem?_eq_none_iff] at e; omega
        | some x =>
          cases x with
          | none => rfl
          | some v => exact absurd hi (wipe_some e).2
      · rw [if_neg c]
        exact List.getElem?_eq_none (by rw [wipe_length]; omega)
    rw [q, q, hl]
  · rw [wipe_out' hi, wipe_out' hi]
    exact h i fun z => hi (hs i z)
theorem wipe_wipe {vs : List Nat} {σ : L2.St} : wipe (wipe σ vs) vs = wipe σ vs := by
  refine List.ext_getElem? fun i => ?_
  by_cases hi : i ∈ vs
  · have q : ∀ (τ : L2.St), (wipe τ vs)[i]? = if i < τ.length then some none else none := fun τ => by
      by_cases c : i < τ.length
      · rw [if_pos c]
        have hw : i < (wipe τ vs).length := by rw [wipe_length]; exact c
        cases e : (wipe τ vs)[i]? with
        | none => rw [List.getElem?_eq_none_iff] at e; omega
        | some x =>
          cases x with
          | none => rfl
          | some v => exact absurd hi (wipe_some e).2
      · rw [if_neg c]
        exact List.getElem?_eq_none (by rw [wipe_length]; omega)
    rw [q, q, wipe_length]
  · rw [wipe_out' hi]
theorem lc_le {it : IF} {t : Tg} {c : TF} {e : EF} {vs : List Nat} (hws : ∀ i ∈ t.ws, i ∈ vs) (σ : L2.St) (H : Hp) (Q : VK) (h : liftE K R (lcF it t c e vs) σ H Q) :
    tLc (liftI K R it) (liftG K t) (liftT K R0 c) (liftE K R0 e) vs σ H Q := by
  obtain ⟨pins, G, ρ, As, s, k⟩ := h
  refine ⟨pins, G, ρ, As, s, ?_⟩
  refine Kont.bind (T := []) (Q := Q) s.nd (fun a z => nomatch z) k fun ds ρ1 G1 H1 As1 J Bs e1 nd1 r1 s1 k1 => ?_
  obtain ⟨rfl, wk⟩ := r1
  intro L hL
  split at k1
  · rename_i hz
    have gL : G1 L = none := s1.sub.free hL
    have nL : L ∉ As1 := fun z => (s1.slots.there L z).1 hL
    have eN : Ext G1 H1 As1 G1 (upd H1 L (.lst [])) (L :: As1) := ⟨Sub.refl _, fun a o q _ => by rw [upd_ne (ne_of_none q hL)]; exact q, fun _ q _ _ => q, fun a q => by
      rcases List.mem_cons.mp q with z | z
      · exact .inr (by rw [z]; exact hL)
      · exact .inl z⟩
    obtain ⟨Cs1, sw, lw⟩ := s1.wiped vs
    have sN : Ste K pins G1 (upd H1 L (.lst [])) (wipe σ vs) (wipeR ρ1 vs) Cs1 := by
      refine sw.ext (As := []) (Cs := []) ⟨Sub.refl _, fun a o q _ => by rw [upd_ne (ne_of_none q hL)]; exact q, fun _ q _ _ => q, fun a q => nomatch q⟩ (fun a _ z => nomatch z) fun a o q => by
        rw [upd_ne (ne_of_none (s1.sub a o q) hL)]; exact s1.sub a o q
    refine ⟨fun i m H' => m = ds.length - i ∧ i ≤ ds.length ∧ ∃ G2 ρ2 ρ0 As2 acc xs, Ste K pins G2 H' (wipe σ vs) ρ2 As2 ∧ ρ2 = wipeR ρ0 vs ∧ Sub G1 G2 ∧ G2 L = none ∧ L ∉ As2 ∧ H' L = some (.lst acc) ∧ DpAll K G2 acc xs ∧ xs.length ≤ i ∧
      KontE K R pins σ G2 H' (L :: As2) Q (lcFin vs ρ1 xs (lcL t c e vs (ds.drop i) ρ2)), ⟨_, rfl, Nat.zero_le _, G1, _, ρ1, Cs1, [], [], sN, rfl, Sub.refl _, gL, fun z => nL (lw L z), upd_same, .nil, Nat.le_refl _, ?_⟩, ?_⟩
    · refine Kont.re (by simpa using k1) (eN.less fun a q => ?_)
      rcases List.mem_cons.mp q with z | z
      · rw [z]; exact List.mem_cons_self
      · exact List.mem_cons_of_mem _ (lw a z)
    · rintro i m H' ⟨rfl, hi, G2, ρ2, ρ0, As2, acc, xs, s2, hρ, sb, g2, n2, hL2, hx, hxi, k2⟩
      obtain ⟨w1, w2⟩ := wk G2 H' sb s2.sub
      by_cases hlt : i < ds.length
      · have hd : ds[i]? = some ds[i] := List.getElem?_eq_getElem hlt
        obtain ⟨hgo, hy⟩ := w1 i _ hd
        have ed : ds.drop i = ds[i] :: ds.drop (i + 1) := List.drop_eq_getElem_cons hlt
        rw [ed] at k2
        generalize ds[i] = d at *
        have accz : acc.length < sizeLine := by rw [dps_len hx]; omega
        refine .inr ⟨hgo, fun H3 => ∃ G2 ρ2 ρ0 As2 acc xs, Ste K pins G2 H3 (wipe σ vs) ρ2 As2 ∧ ρ2 = wipeR ρ0 vs ∧ Sub G1 G2 ∧ G2 L = none ∧ L ∉ As2 ∧ H3 L = some (.lst acc) ∧ DpAll K G2 acc xs ∧ xs.length ≤ i + 1 ∧
          KontE K R pins σ G2 H3 (L :: As2) Q (lcFin vs ρ1 xs (lcL t c e vs (ds.drop (i + 1)) ρ2)), fun H3 h3 => ⟨ds.length - (i + 1), by omega, rfl, hlt, h3⟩, fun x H3 hx3 => ?_⟩
        obtain ⟨G3, g3, dx⟩ := hy x H3 hx3
        have s3 := s2.ext g3.ext (fun a _ z => nomatch z) g3.sub
        have e3 : Ext G2 H' (L :: As2) G3 H3 (L :: As2) := (g3.ext.frame (L :: As2)).perm (fun a => by simp) fun a ha => by simpa using ha
        have hL3 := g3.ext.keep L _ hL2 (fun z => nomatch z)
        have gL3 := g3.ext.frz L g2 (by rw [hL2]; exact fun z => nomatch z) (fun z => nomatch z)
        have hxs3 := dps_same g3.ext.sub hx
        -- one turn
        have k2 : KontE K R pins σ G2 H' (L :: As2) Q (lcFin vs ρ1 xs (match t.f d ρ2 with
          | none => .stuck
          | some ρ1 => (c ρ1).bindX fun b ρ2 => if b = true then (e ρ2).bindX fun o ρ3 => match o.dv with
              | some x => (lcL t c e vs (ds.drop (i + 1)) (wipeR ρ3 vs)).bindX fun xs ρ4 => .ok (x :: xs) ρ4
              | none => .stuck
            else lcL t c e vs (ds.drop (i + 1)) (wipeR ρ2 vs))) := k2
        cases ht : t.f d ρ2 with
        | none => rw [ht] at k2; exact k2.elim
        | some ρ4 =>
          rw [ht] at k2
          refine ⟨pins, G3, ρ2, As2, d, ρ4, s3, dx, ht, fun σ5 As5 s5 l5 ln5 w5 => ⟨(wipe_eq ln5 w5 hws).trans wipe_wipe, ?_⟩⟩
          have wσ : wipe σ5 vs = wipe σ vs := (wipe_eq ln5 w5 hws).trans wipe_wipe
          have k5 : KontE K R pins σ G3 H3 (L :: As5) Q (lcFin vs ρ1 xs ((c ρ4).bindX fun b ρ2 => if b = true then (e ρ2).bindX fun o ρ3 => match o.dv with
              | some x => (lcL t c e vs (ds.drop (i + 1)) (wipeR ρ3 vs)).bindX fun xs ρ4 => .ok (x :: xs) ρ4
              | none => .stuck
            else lcL t c e vs (ds.drop (i + 1)) (wipeR ρ2 vs))) := Kont.re k2 (e3.less fun a ha => by
              rcases List.mem_cons.mp ha with z | z
              · rw [z]; exact List.mem_cons_self
              · exact List.mem_cons_of_mem _ (l5 a z))
          have nL5 : L ∉ As5 := fun z => n2 (l5 L z)
          refine ⟨pins, G3, ρ4, As5, s5, ?_⟩
          cases hc : c ρ4 with
          | er c o ρ => rw [hc] at k5; exact k5.elim
          | stuck => rw [hc] at k5; exact k5.elim
          | ok b ρ6 =>
            rw [hc] at k5
            intro G6 H6 As6 b' Bs6 e6 nd6 r6 s6
            obtain ⟨rfl, rfl⟩ := r6
            have e6 : Ext G3 H3 As5 G6 H6 As6 := e6
            have hL6 := e6.keep L _ hL3 nL5
            have gL6 := e6.frz L gL3 (by rw [hL3]; exact fun z => nomatch z) nL5
            have nL6 : L ∉ As6 := fun z => by
              rcases e6.own L z with w | w
              · exact nL5 w
              · rw [hL3] at w; cases w
            have k6 := Kont.re k5 (e6.frame [L])
            have hxs6 := dps_same e6.sub hxs3
            cases b' with
            | true =>
              have k6 : KontE K R pins σ G6 H6 ([L] ++ As6) Q (lcFin vs ρ1 xs ((e ρ6).bindX fun o ρ3 => match o.dv with
                | some x => (lcL t c e vs (ds.drop (i + 1)) (wipeR ρ3 vs)).bindX fun xs ρ4 => .ok (x :: xs) ρ4
                | none => .stuck)) := k6
              show liftE K R0 e σ5 H6 _
              refine ⟨pins, G6, ρ6, As6, s6, ?_⟩
              cases he : e ρ6 with
              | er c o ρ => rw [he] at k6; exact k6.elim
              | stuck => rw [he] at k6; exact k6.elim
              | ok o ρ7 =>
                rw [he] at k6
                intro G7 H7 As7 y Bs7 e7 nd7 r7 s7
                have hL7 := e7.keep L _ hL6 nL6
                have gL7 := e7.frz L gL6 (by rw [hL6]; exact fun z => nomatch z) nL6
                have nL7 : L ∉ Bs7 ++ As7 := fun z => by
                  rcases e7.own L z with w | w
                  · exact nL6 w
                  · rw [hL6] at w; cases w
                have k7 := Kont.re k6 (e7.frame [L])
                have k7 : KontE K R pins σ G7 H7 ([L] ++ (Bs7 ++ As7)) Q (lcFin vs ρ1 xs (match o.dv with
                  | some x => (lcL t c e vs (ds.drop (i + 1)) (wipeR ρ7 vs)).bindX fun xs ρ4 => .ok (x :: xs) ρ4
                  | none => .stuck)) := k7
                cases hdv : o.dv with
                | none => rw [hdv] at k7; exact k7.elim
                | some z =>
                  rw [hdv] at k7
                  obtain ⟨G8, e8, sb8, d8⟩ := RepO.share r7 (List.nodup_append.mp nd7).1 s7.sub hdv
                  have s8 := s7.ext e8 (fun a ha hb => nd_disj nd7 a hb ha) sb8
                  obtain ⟨As9, s9, l9⟩ := s8.wiped vs
                  rw [wσ] at s9
                  refine ⟨acc, hL7, accz, G8, wipeR ρ7 vs, ρ7, As9, acc ++ [y], xs ++ [z], ?_, rfl, ((sb.trans g3.ext.sub).trans e6.sub).trans (e7.sub.trans e8.sub), ?_, ?_, upd_same, DpAll.app (dps_same (e7.sub.trans e8.sub) hxs6) (.cons d8 .nil), by rw [List.length_append]; show xs.length + 1 ≤ i + 1; omega, ?_⟩
                  · have eL : Ext G8 H7 [L] G8 (upd H7 L (.lst (acc ++ [y]))) [] := ⟨Sub.refl _, fun a u q n => by rw [upd_ne fun w => n (by rw [w]; exact List.mem_cons_self)]; exact q, fun _ q _ _ => q, fun a q => nomatch q⟩
                    refine s9.ext eL (fun a ha hb => ?_) fun a u q => ?_
                    · rw [List.mem_singleton.mp hb] at ha
                      exact nL7 (List.mem_append_right _ (l9 L ha))
                    · have hne : a ≠ L := fun w => by
                        subst w
                        have := e8.frz a gL7 (by rw [hL7]; exact fun z => nomatch z) fun w => nL7 (List.mem_append_left _ w)
                        rw [this] at q; cases q
                      rw [upd_ne hne]
                      exact sb8 a u q
                  · exact e8.frz L gL7 (by rw [hL7]; exact fun z => nomatch z) fun w => nL7 (List.mem_append_left _ w)
                  · exact fun w => nL7 (List.mem_append_right _ (l9 L w))
                  · have e9 : Ext G7 H7 ([L] ++ (Bs7 ++ As7)) G8 (upd H7 L (.lst (acc ++ [y]))) (L :: As9) := by
                      refine ⟨e8.sub, fun a u q n => ?_, fun a q h n => e8.frz a q h fun w => n (List.mem_append_right _ (List.mem_append_left _ w)), fun a q => .inl ?_⟩
                      · rw [upd_ne fun w => n (by rw [w]; exact List.mem_append_left _ List.mem_cons_self)]
                        exact q
                      · rcases List.mem_cons.mp q with w | w
                        · rw [w]; exact List.mem_append_left _ List.mem_cons_self
                        · exact List.mem_append_right _ (List.mem_append_right _ (l9 a w))
                    have k9 := Kont.re k7 e9
                    cases hll : lcL t c e vs (ds.drop (i + 1)) (wipeR ρ7 vs) with
                    | ok ys ρ10 =>
                      have k9' : KontE K R pins σ G8 (upd H7 L (.lst (acc ++ [y]))) (L :: As9) Q (lcFin vs ρ1 xs ((lcL t c e vs (ds.drop (i + 1)) (wipeR ρ7 vs)).bindX fun xs ρ4 => .ok (z :: xs) ρ4)) := k9
                      rw [hll] at k9'
                      show KontE K R pins σ _ _ _ Q (.ok (.ls ((xs ++ [z]) ++ ys)) (restF ρ1 vs ρ10))
                      rw [List.append_assoc]
                      exact k9'
                    | er cc oo rr =>
                      have k9' : KontE K R pins σ G8 (upd H7 L (.lst (acc ++ [y]))) (L :: As9) Q (lcFin vs ρ1 xs ((lcL t c e vs (ds.drop (i + 1)) (wipeR ρ7 vs)).bindX fun xs ρ4 => .ok (z :: xs) ρ4)) := k9
                      rw [hll] at k9'
                      exact k9'.elim
                    | stuck =>
                      have k9' : KontE K R pins σ G8 (upd H7 L (.lst (acc ++ [y]))) (L :: As9) Q (lcFin vs ρ1 xs ((lcL t c e vs (ds.drop (i + 1)) (wipeR ρ7 vs)).bindX fun xs ρ4 => .ok (z :: xs) ρ4)) := k9
                      rw [hll] at k9'
                      exact k9'.elim
            | false =>
              have k6 : KontE K R pins σ G6 H6 ([L] ++ As6) Q (lcFin vs ρ1 xs (lcL t c e vs (ds.drop (i + 1)) (wipeR ρ6 vs))) := k6
              obtain ⟨As9, s9, l9⟩ := s6.wiped vs
              rw [wσ] at s9
              refine ⟨G6, wipeR ρ6 vs, ρ6, As9, acc, xs, s9, rfl, (sb.trans g3.ext.sub).trans e6.sub, gL6, fun w => nL6 (l9 L w), hL6, hxs6, by omega, Kont.re k6 (Ext.refl.less fun a ha => ?_)⟩
              rcases List.mem_cons.mp ha with w | w
              · rw [w]; exact List.mem_append_left _ List.mem_cons_self
              · exact List.mem_append_right _ (l9 a w)
      · have ee : ds.drop i = [] := List.drop_eq_nil_of_le (by omega)
        rw [ee] at k2
        refine .inl ⟨w2 i (by omega), ?_⟩
        have k2 : KontE K R pins σ G2 H' (L :: As2) Q (.ok (.ls (xs ++ [])) (restF ρ1 vs ρ2)) := k2
        rw [List.append_nil] at k2
        have su : Ste K pins G2 H' σ ρ2 As2 := ⟨s2.slots.unwipe vs, s2.nd, s2.sub, by rw [hρ]; exact Pin.unwipe (by rw [← hρ]; exact s2.pin)⟩
        obtain ⟨Cs, sr, lr⟩ := Ste.rest s1 sb vs su
        exact Kont.now k2 sr (Bs := [L]) (fun a ha => by
          rcases List.mem_append.mp ha with z | z
          · rw [List.mem_singleton.mp z]; exact List.mem_cons_self
          · exact List.mem_cons_of_mem _ (lr a z)) (List.nodup_append.mpr ⟨by simp, sr.nd, fun a ha b hb z => by
            rw [List.mem_singleton.mp ha] at z; subst z; exact n2 (lr _ hb)⟩) (.ls g2 hL2 hx)
  · exact k1.elim
end
end Vs

namespace Vs
open PySem PySem.Spec PyProof.Rows L2 Ww

/-! ### a list, a dict of one's own is changed -/
def updS (i : Nat) (c : O) (ρ : En) : En := match ρ[i]? with
  | some (.val _) => ρ.set i (.val c)
  | some (.bor _) => ρ.set i (.bor c)
  | _ => ρ
def O.own : O → Prop
  | .dat _ => False
  | .tp _ => False
  | .lt _ => False
  | .ll _ => False
  | _ => True
section
variable {K : PySem.W.Frag} {R : RK} {pins σ : L2.St} {G H G' H' : Hp} {As Bs Cs T : List Addr} {Q : VK} {ρ : En} {X : Cx} {D : Ends}
theorem RepO.one {v : V} {o : O} {B : List Addr} (r : RepO K G H v o B) (h : o.own) : ∃ a, v = .ref a ∧ B = [a] := by
  cases r with
  | dat _ => exact h.elim
  | ls _ _ _ => exact ⟨_, rfl, rfl⟩
  | dk _ _ _ => exact ⟨_, rfl, rfl⟩
  | tp _ _ _ => exact h.elim
  | lt _ _ _ => exact h.elim
  | ll _ _ _ => exact h.elim
theorem Pin.keepB {i : Nat} {o c : O} (p : Pin pins σ ρ) (h : ρ[i]? = some (.bor o)) : Pin pins σ (ρ.set i (.bor c)) := by
  refine ⟨p.1, fun j hj => p.2 j ?_⟩
  by_cases e : i = j
  · subst e
    exact .inr ⟨o, h⟩
  · rw [List.getElem?_set_ne e] at hj
    exact hj
theorem getS_cases {i : Nat} {o : O} (h : getS ρ i = some o) : ρ[i]? = some (.val o) ∨ ρ[i]? = some (.bor o) := by
  unfold getS at h
  obtain ⟨s, h1, h2⟩ := Option.bind_eq_some_iff.mp h
  cases s with
  | no => cases h2
  | lent => cases h2
  | val x => cases (Option.some.inj h2 : x = o); exact .inl h1
  | bor x => cases (Option.some.inj h2 : x = o); exact .inr h1
theorem Ste.mut {i : Nat} {o : O} (s : Ste K pins G H σ ρ As) (h : getS ρ i = some o) (ho : o.own) : ∃ a, σ[i]? = some (some (.ref a)) ∧ RepO K G H (.ref a) o [a] ∧
    ∀ u o', RepO K G (upd H a u) (.ref a) o' [a] → ∃ Cs, Ste K pins G (upd H a u) σ (updS i o' ρ) Cs ∧ Ext G H As G (upd H a u) Cs := by
  obtain ⟨v, B, Cs, h1, h2, h3, h4, h5⟩ := Slots.out (y := .no) trivial s.slots h
  obtain ⟨a, rfl, rfl⟩ := h2.one ho
  refine ⟨a, h1, h2, fun u o' r' => ?_⟩
  have nd := h4 s.nd
  have na : a ∉ Cs := fun z => nd_disj nd a List.mem_cons_self z
  have ga : G a = none := (h2.there a List.mem_cons_self).2
  have e : Ext G H [a] G (upd H a u) [] := ⟨Sub.refl _, fun b x q n => by rw [upd_ne fun z => n (by rw [z]; exact List.mem_cons_self)]; exact q, fun _ q _ _ => q, fun _ z => nomatch z⟩
  have sub : Sub G (upd H a u) := fun b x q => by rw [upd_ne (ne_of_none q ga)]; exact s.sub b x q
  have h6 := h5.ext e fun b hb z => by rw [List.mem_singleton.mp z] at hb; exact na hb
  have hl : i < ρ.length := by
    rcases getS_cases h with z | z <;> exact (List.getElem?_eq_some_iff.mp z).1
  have e2 : ∀ Ds : List Addr, (∀ b, b ∈ Ds ↔ b ∈ [a] ++ Cs) → Ext G H As G (upd H a u) Ds := fun Ds hD =>
    ⟨Sub.refl _, fun b x q n => by rw [upd_ne fun z => n ((h3 b).2 (by rw [z]; exact List.mem_append_left _ List.mem_cons_self))]; exact q, fun _ q _ _ => q, fun b hb => .inl ((h3 b).2 ((hD b).1 hb))⟩
  rcases getS_cases h with z | z
  · obtain ⟨Ds, w1, w2, w3⟩ := Slots.into (z := .val o') rfl r' h6 (List.getElem?_set_self hl) trivial h1
    rw [List.set_set] at w1
    have eu : updS i o' ρ = ρ.set i (.val o') := by unfold updS; rw [z]
    exact ⟨Ds, ⟨by rw [eu]; exact w1, w3 nd, sub, by rw [eu]; exact s.pin.set trivial⟩, e2 Ds w2⟩
  · obtain ⟨Ds, w1, w2, w3⟩ := Slots.into (z := .bor o') rfl r' h6 (List.getElem?_set_self hl) trivial h1
    rw [List.set_set] at w1
    have eu : updS i o' ρ = ρ.set i (.bor o') := by unfold updS; rw [z]
    exact ⟨Ds, ⟨by rw [eu]; exact w1, w3 nd, sub, by rw [eu]; exact s.pin.keepB z⟩, e2 Ds w2⟩
end
def isL : Option O → Bool
  | some (.ls _) => true
  | _ => false
def isD : Option O → Bool
  | some (.dk _) => true
  | _ => false
/-- what a change gives: the new content, the answer -/
abbrev Ch := Option (O × PyData)
def finM (i : Nat) (r : Ch) (ρ : En) : Res := match r with
  | some (c, d) => .ok (.dat d) (updS i c ρ)
  | none => .stuck
def mm0 (i : Nat) (F : O → Ch) : EF := fun ρ => match getS ρ i with
  | some c => if isL (some c) = true then finM i (F c) ρ else .stuck
  | none => .stuck
/-- one argument, shared -/
def shE (f : EF) : En → Rs PyData := fun ρ => (f ρ).bind fun o ρ1 => match o.dv with
  | some d => .ok d ρ1
  | none => .stuck
def mm1 (i : Nat) (F : O → PyData → Ch) (f : EF) : EF := fun ρ => if isL (getS ρ i) = true then (shE f ρ).bind fun d ρ1 => match getS ρ1 i with
  | some c => finM i (F c d) ρ1
  | none => .stuck else .stuck
def mm2 (i : Nat) (F : O → PyData → PyData → Ch) (f g : EF) : EF := fun ρ => if isL (getS ρ i) = true then (shE f ρ).bind fun d ρ1 => (shE g ρ1).bind fun e ρ2 => match getS ρ2 i with
  | some c => finM i (F c d e) ρ2
  | none => .stuck else .stuck
def Mut0 (K : PySem.W.Frag) (r : V → List V → Hp → VK → Prop) (F : O → Ch) : Prop :=
  ∀ (G H : Hp) (a : Addr) (o o' : O) (d : PyData) (Q : VK), Sub G H → RepO K G H (.ref a) o [a] → F o = some (o', d) → o.own ∧ ((∀ u v, RepO K G (upd H a u) (.ref a) o' [a] → Dp K G v d → Q v (upd H a u)) → r (.ref a) [] H Q)
def Mut1 (K : PySem.W.Frag) (r : V → List V → Hp → VK → Prop) (F : O → PyData → Ch) : Prop :=
  ∀ (G H : Hp) (a : Addr) (x : V) (o o' : O) (e d : PyData) (Q : VK), Sub G H → F o e = some (o', d) → o.own ∧ (RepO K G H (.ref a) o [a] → Dp K G x e → (∀ u v, RepO K G (upd H a u) (.ref a) o' [a] → Dp K G v d → Q v (upd H a u)) → r (.ref a) [x] H Q)
def Mut2 (K : PySem.W.Frag) (r : V → List V → Hp → VK → Prop) (F : O → PyData → PyData → Ch) : Prop :=
  ∀ (G H : Hp) (a : Addr) (x y : V) (o o' : O) (e f d : PyData) (Q : VK), Sub G H → F o e f = some (o', d) → o.own ∧ (RepO K G H (.ref a) o [a] → Dp K G x e → Dp K G y f → (∀ u v, RepO K G (upd H a u) (.ref a) o' [a] → Dp K G v d → Q v (upd H a u)) → r (.ref a) [x, y] H Q)
abbrev relD (K : PySem.W.Frag) : L2.St → Hp → Hp → V → PyData → List Addr → Prop := fun _ G _ v d Bs => Bs = [] ∧ Dp K G v d
abbrev liftD (K : PySem.W.Frag) (R : RK) (f : En → Rs PyData) : TE := lift (relD K) K R f
section
variable {K : PySem.W.Frag} {R : RK} {pins σ : L2.St} {G H G' H' : Hp} {As Bs Cs T : List Addr} {Q : VK} {ρ : En} {X : Cx} {D : Ends}
theorem shE_le {f : EF} {α : Type} {rel2 : Hp → Hp → V → O → List Addr → Prop} (σ : L2.St) (H : Hp) (Q : VK) (h : liftD K R (shE f) σ H Q) : liftE K R f σ H Q := by
  obtain ⟨pins, G, ρ, As, s, k⟩ := h
  refine ⟨pins, G, ρ, As, s, ?_⟩
  refine Kont.bind (T := []) (Q := Q) s.nd (fun a z => nomatch z) k fun o ρ1 G1 H1 As1 v Bs e1 nd1 r1 s1 k1 => ?_
  have nd1' : (Bs ++ As1).Nodup := by simpa using nd1
  split at k1
  · rename_i d hd
    obtain ⟨G2, e2, s2, d2⟩ := RepO.share r1 (List.nodup_append.mp nd1').1 s1.sub hd
    have st := s1.ext e2 (fun a ha hb => nd_disj nd1' a hb ha) s2
    have e3 : Ext G1 H1 ([] ++ (Bs ++ As1)) G2 H1 ([] ++ As1) := (e2.frame As1).perm (fun a => by simp only [List.mem_append, List.nil_append]; exact Or.comm) fun a ha => by simpa using ha
    exact k1 G2 H1 As1 v [] e3 st.nd ⟨rfl, d2⟩ st
  · exact k1.elim
theorem finM_ok {i : Nat} {c : O} {r : Ch} (s : Ste K pins G H σ ρ As) (hc : getS ρ i = some c) (k : KontE K R pins σ G H As Q (finM i r ρ)) : ∃ o' d, r = some (o', d) ∧ (c.own → ∃ a, σ[i]? = some (some (.ref a)) ∧ RepO K G H (.ref a) c [a] ∧ ∀ u v, RepO K G (upd H a u) (.ref a) o' [a] → Dp K G v d → Q v (upd H a u)) := by
  unfold finM at k
  split at k
  · rename_i o' d
    refine ⟨o', d, rfl, fun ho => ?_⟩
    obtain ⟨a, h1, h2, h3⟩ := s.mut hc ho
    refine ⟨a, h1, h2, fun u v r' dv => ?_⟩
    obtain ⟨Cs, w1, w2⟩ := h3 u o' r'
    exact k G _ Cs v [] w2 w1.nd (.dat dv) w1
  · exact k.elim
theorem ty_ls {i : Nat} (s : Ste K pins G H σ ρ As) (h : isL (getS ρ i) = true) : ∃ v, σ[i]? = some (some v) ∧ tyV K "list" v H := by
  cases hc : getS ρ i with
  | none => rw [hc] at h; cases h
  | some c =>
    obtain ⟨v, hv⟩ := s.slots.has hc
    obtain ⟨B, r, _⟩ := s.slots.at hv hc
    rw [hc] at h
    cases c with
    | dat d => cases h
    | dk _ => cases h
    | tp _ => cases h
    | lt _ => cases h
    | ll _ => cases h
    | ls ds =>
      cases r with
      | ls h1 h2 h3 => exact ⟨_, hv, .inl ⟨rfl, _, SqL.of h2⟩⟩
theorem mm0_le {i : Nat} {r : V → List V → Hp → VK → Prop} {F : O → Ch} (p : Mut0 K r F) (σ : L2.St) (H : Hp) (Q : VK) (h : liftE K R (mm0 i F) σ H Q) : tBM0 K "list" r (tVar i) σ H Q := by
  obtain ⟨pins, G, ρ, As, s, k⟩ := h
  have k : KontE K R pins σ G H As Q (match getS ρ i with
    | some c => if isL (some c) = true then finM i (F c) ρ else .stuck
    | none => .stuck) := k
  split at k
  · rename_i c hc
    split at k
    · rename_i hl
      obtain ⟨o', d, e1, w⟩ := finM_ok s hc k
      obtain ⟨v, hv, ty⟩ := ty_ls (i := i) s (by rw [hc]; exact hl)
      have ho : c.own := by cases c <;> first | trivial | cases hl
      obtain ⟨a, h1, h2, h3⟩ := w ho
      rw [hv] at h1
      cases (Option.some.inj (Option.some.inj h1))
      exact ⟨_, hv, ty, (p G H a c o' d Q s.sub h2 e1).2 h3⟩
    · exact k.elim
  · exact k.elim
theorem mm1_le {i : Nat} {r : V → List V → Hp → VK → Prop} {F : O → PyData → Ch} {f : EF} (p : Mut1 K r F) (σ : L2.St) (H : Hp) (Q : VK) (h : liftE K R (mm1 i F f) σ H Q) : tBM K "list" r (tVar i) (tCons (liftE K R f) tNil) σ H Q := by
  obtain ⟨pins, G, ρ, As, s, k⟩ := h
  have k : KontE K R pins σ G H As Q (if isL (getS ρ i) = true then (shE f ρ).bind fun d ρ1 => match getS ρ1 i with
    | some c => finM i (F c d) ρ1
    | none => .stuck else .stuck) := k
  split at k
  · rename_i hl
    obtain ⟨v, hv, ty⟩ := ty_ls (i := i) s hl
    refine ⟨v, hv, ty, shE_le (α := Nat) (rel2 := RepO K) σ H _ ⟨pins, G, ρ, As, s, ?_⟩⟩
    refine Kont.bind (T := []) (Q := Q) s.nd (fun a z => nomatch z) k fun e ρ1 G1 H1 As1 x Bs e1 nd1 r1 s1 k1 => ?_
    obtain ⟨rfl, dx⟩ := r1
    split at k1
    · rename_i c hc
      obtain ⟨o', d, e2, w⟩ := finM_ok s1 hc (by simpa using k1)
      have q := p G1 H1
      obtain ⟨ho, _⟩ := q 0 x c o' e d Q s1.sub e2
      obtain ⟨a, h1, h2, h3⟩ := w ho
      rw [hv] at h1
      cases (Option.some.inj (Option.some.inj h1))
      exact (q a x c o' e d Q s1.sub e2).2 h2 dx h3
    · exact k1.elim
  · exact k.elim
theorem mm2_le {i : Nat} {r : V → List V → Hp → VK → Prop} {F : O → PyData → PyData → Ch} {f g : EF} (p : Mut2 K r F) (σ : L2.St) (H : Hp) (Q : VK) (h : liftE K R (mm2 i F f g) σ H Q) : tBM K "list" r (tVar i) (tCons (liftE K R f) (tCons (liftE K R g) tNil)) σ H Q := by
  obtain ⟨pins, G, ρ, As, s, k⟩ := h
  have k : KontE K R pins σ G H As Q (if isL (getS ρ i) = true then (shE f ρ).bind fun d ρ1 => (shE g ρ1).bind fun e ρ2 => match getS ρ2 i with
    | some c => finM i (F c d e) ρ2
    | none => .stuck else .stuck) := k
  split at k
  · rename_i hl
    obtain ⟨v, hv, ty⟩ := ty_ls (i := i) s hl
    refine ⟨v, hv, ty, shE_le (α := Nat) (rel2 := RepO K) σ H _ ⟨pins, G, ρ, As, s, ?_⟩⟩
    refine Kont.bind (T := []) (Q := Q) s.nd (fun a z => nomatch z) k fun e ρ1 G1 H1 As1 x Bs e1 nd1 r1 s1 k1 => ?_
    obtain ⟨rfl, dx⟩ := r1
    refine shE_le (α := Nat) (rel2 := RepO K) σ H1 _ ⟨pins, G1, ρ1, As1, s1, ?_⟩
    refine Kont.bind (T := []) (Q := Q) s1.nd (fun a z => nomatch z) (by simpa using k1) fun e' ρ2 G2 H2 As2 y Bs2 e2 nd2 r2 s2 k2 => ?_
    obtain ⟨rfl, dy⟩ := r2
    split at k2
    · rename_i c hc
      obtain ⟨o', d, e3, w⟩ := finM_ok s2 hc (by simpa using k2)
      have q := p G2 H2
      obtain ⟨ho, _⟩ := q 0 x y c o' e e' d Q s2.sub e3
      obtain ⟨a, h1, h2, h3⟩ := w ho
      rw [hv] at h1
      cases (Option.some.inj (Option.some.inj h1))
      exact (q a x y c o' e e' d Q s2.sub e3).2 h2 (dp_same (e2.sub) dx) dy h3
    · exact k2.elim
  · exact k.elim
end
/-! the methods of lists -/
def appO : O → PyData → Ch
  | .ls ds, d => if ds.length < sizeLine then some (.ls (ds ++ [d]), .none) else none
  | _, _ => none
def popO : O → Ch
  | .ls ds => match ds.getLast? with
    | some d => some (.ls ds.dropLast, d)
    | none => none
  | _ => none
def popAtO : O → PyData → Ch
  | .ls ds, .int i => if -(2 ^ 63) ≤ i ∧ i < 2 ^ 63 then (seqIndex? i ds.length).bind fun k => (ds[k]?).map fun d => (.ls (ds.eraseIdx k), d) else none
  | _, _ => none
def clearO : O → Ch
  | .ls _ => some (.ls [], .none)
  | _ => none
def revO : O → Ch
  | .ls ds => some (.ls ds.reverse, .none)
  | _ => none
section
variable {K : PySem.W.Frag} {G H : Hp}
theorem ls_inv {a : Addr} {ds : List PyData} {B : List Addr} (r : RepO K G H (.ref a) (.ls ds) B) : ∃ vs, G a = none ∧ H a = some (.lst vs) ∧ DpAll K G vs ds := by
  cases r with
  | ls h1 h2 h3 => exact ⟨_, h1, h2, h3⟩
theorem mut_append : Mut1 K rAppend appO := by
  intro G H a x o o' e d Q s h
  unfold appO at h
  split at h
  · split at h
    · rename_i ds hz
      cases Option.some.inj h
      refine ⟨trivial, fun r dx k => ?_⟩
      obtain ⟨vs, h1, h2, h3⟩ := ls_inv r
      exact ⟨a, vs, x, rfl, rfl, h2, by rw [dps_len h3]; exact hz, k _ _ (.ls h1 upd_same (DpAll.app h3 (.cons dx .nil))) .non⟩
    · cases h
  · cases h
theorem mut_pop : Mut0 K rPop popO := by
  intro G H a o o' d Q s r h
  unfold popO at h
  split at h
  · rename_i ds
    split at h
    · rename_i e he
      cases Option.some.inj h
      refine ⟨trivial, fun k => ?_⟩
      obtain ⟨vs, h1, h2, h3⟩ := ls_inv r
      rw [List.getLast?_eq_getElem?] at he
      obtain ⟨v, hv, dv⟩ := DpAll.get h3 he
      exact ⟨a, vs, v, rfl, rfl, h2, by rw [dps_len h3]; exact hv, k _ _ (.ls h1 upd_same (DpAll.dropLast h3)) dv⟩
    · cases h
  · cases h
theorem mut_popAt : Mut1 K rPopAt popAtO := by
  intro G H a x o o' e d Q s h
  unfold popAtO at h
  split at h
  · split at h
    · rename_i ds i hz
      obtain ⟨j, hj, h⟩ := Option.bind_eq_some_iff.mp h
      obtain ⟨y, hy, h⟩ := Option.map_eq_some_iff.mp h
      cases h
      refine ⟨trivial, fun r dx k => ?_⟩
      obtain ⟨vs, h1, h2, h3⟩ := ls_inv r
      obtain ⟨v, hv, dv⟩ := DpAll.get h3 hy
      cases dx
      exact ⟨a, vs, i, j, v, rfl, rfl, h2, hz.1, hz.2, by rw [dps_len h3]; exact hj, hv, k _ _ (.ls h1 upd_same (DpAll.erase _ h3)) dv⟩
    · cases h
  · cases h
theorem mut_clear : Mut0 K rClear clearO := by
  intro G H a o o' d Q s r h
  unfold clearO at h
  split at h
  · cases Option.some.inj h
    refine ⟨trivial, fun k => ?_⟩
    obtain ⟨vs, h1, h2, h3⟩ := ls_inv r
    exact ⟨a, vs, rfl, rfl, h2, k _ _ (.ls h1 upd_same .nil) .non⟩
  · cases h
theorem mut_rev : Mut0 K rReverse revO := by
  intro G H a o o' d Q s r h
  unfold revO at h
  split at h
  · cases Option.some.inj h
    refine ⟨trivial, fun k => ?_⟩
    obtain ⟨vs, h1, h2, h3⟩ := ls_inv r
    exact ⟨a, vs, rfl, rfl, h2, k _ _ (.ls h1 upd_same (DpAll.rev h3)) .non⟩
  · cases h
end
end Vs

namespace Vs
open PySem PySem.Spec PyProof.Rows L2 Ww

/-! ### several names at once -/
def par2S (i j : Nat) (g : AF) : SF := fun ρ => (g ρ).bindS fun os ρ1 => match os with
  | [a, b] => match (stO i a ρ1).bind (stO j b) with
    | some ρ2 => .nx ρ2
    | none => .stuck
  | _ => .stuck
def par3S (i j l : Nat) (g : AF) : SF := fun ρ => (g ρ).bindS fun os ρ1 => match os with
  | [a, b, c] => match ((stO i a ρ1).bind (stO j b)).bind (stO l c) with
    | some ρ2 => .nx ρ2
    | none => .stuck
  | _ => .stuck
section
variable {K : PySem.W.Frag} {R : RK} {pins σ : L2.St} {G H G' H' : Hp} {As Bs Cs T : List Addr} {Q : VK} {ρ : En} {X : Cx} {D : Ends}
/-- a store while C is still held -/
theorem Ste.putT {i : Nat} {v : V} {o : O} {B C : List Addr} {ρ' : En} (s : Ste K pins G H σ ρ As) (q : RepO K G H v o B) (nd : (B ++ (C ++ As)).Nodup) (h : stO i o ρ = some ρ') : ∃ Cs, Ste K pins G H (σ.set i (some v)) ρ' Cs ∧ (∀ a ∈ Cs, a ∈ B ++ As) ∧ (C ++ Cs).Nodup := by
  have nd2 := nd_swap nd
  obtain ⟨Cs, w1, w2⟩ := s.put q (List.nodup_append.mp nd2).2.1 h
  exact ⟨Cs, w1, w2, List.nodup_append.mpr ⟨(List.nodup_append.mp nd2).1, w1.nd, fun a ha b hb => (List.nodup_append.mp nd2).2.2 a ha b (w2 b hb)⟩⟩
theorem s_par2 {st : Stmt} {i j : Nat} {g : AF} (h : PS X st (tPar i j (liftA X.K R g))) : PS X st (liftS X.K R (par2S i j g)) := by
  refine PS.weak h fun D σ H ⟨pins, G, ρ, As, s, k⟩ => ⟨pins, G, ρ, As, s, ?_⟩
  refine Kont.bindS k fun os ρ1 G1 H1 As1 vs Bs e1 nd1 r1 s1 k1 => ?_
  split at k1
  · rename_i a b
    split at k1
    · rename_i ρ2 h2
      obtain ⟨ρ3, h3, h4⟩ := Option.bind_eq_some_iff.mp h2
      cases r1 with
      | @cons v vs _ _ B Bs' ra r1 =>
        cases r1 with
        | @cons w vs _ _ C Bs'' rb r1 =>
          cases r1
          have nd1' : (B ++ (C ++ As1)).Nodup := by simpa using nd1
          obtain ⟨Cs, s3, l3, n3⟩ := s1.putT ra nd1' h3
          obtain ⟨Ds, s4, l4⟩ := s3.put rb n3 h4
          refine ⟨v, w, rfl, KontS.now k1 s4 fun a z => ?_⟩
          rcases List.mem_append.mp (l4 a z) with w | w
          · simp [w]
          · rcases List.mem_append.mp (l3 a w) with w | w <;> simp [w]
    · exact k1.elim
  · exact k1.elim
theorem s_par3 {st : Stmt} {i j l : Nat} {g : AF} (h : PS X st (tPar3 i j l (liftA X.K R g))) : PS X st (liftS X.K R (par3S i j l g)) := by
  refine PS.weak h fun D σ H ⟨pins, G, ρ, As, s, k⟩ => ⟨pins, G, ρ, As, s, ?_⟩
  refine Kont.bindS k fun os ρ1 G1 H1 As1 vs Bs e1 nd1 r1 s1 k1 => ?_
  split at k1
  · rename_i a b c
    split at k1
    · rename_i ρ2 h2
      obtain ⟨ρ4, h2, h5⟩ := Option.bind_eq_some_iff.mp h2
      obtain ⟨ρ3, h3, h4⟩ := Option.bind_eq_some_iff.mp h2
      cases r1 with
      | @cons v vs _ _ B Bs' ra r1 =>
        cases r1 with
        | @cons w vs _ _ C Bs'' rb r1 =>
          cases r1 with
          | @cons u vs _ _ E Bs3 rc r1 =>
            cases r1
            have nd1' : (B ++ ((C ++ E) ++ As1)).Nodup := by simpa using nd1
            obtain ⟨Cs, s3, l3, n3⟩ := s1.putT ra nd1' h3
            obtain ⟨Ds, s4, l4, n4⟩ := s3.putT rb (by simpa using n3) h4
            obtain ⟨Es, s5, l5⟩ := s4.put rc n4 h5
            refine ⟨v, w, u, rfl, KontS.now k1 s5 fun a z => ?_⟩
            rcases List.mem_append.mp (l5 a z) with w | w
            · simp [w]
            · rcases List.mem_append.mp (l4 a w) with w | w
              · simp [w]
              · rcases List.mem_append.mp (l3 a w) with w | w <;> simp [w]
    · exact k1.elim
  · exact k1.elim
end

/-! ### what is walked -/
def dvI (o : O) : Option Int := match o with
  | .dat (.int i) => some i
  | _ => none
def rng1 (f : PF) : IF := fun ρ => (f ρ).bind fun p ρ1 => match (p.get ρ1).bind dvI with
  | some n => if -(2 ^ 62) ≤ n ∧ n < 2 ^ 62 then .ok ((List.range n.toNat).map fun i : Nat => .int ((0 : Int) + (i : Int))) ρ1 else .stuck
  | none => .stuck
def rng2 (f g : PF) : IF := fun ρ => (f ρ).bind fun p ρ1 => (g ρ1).bind fun q ρ2 => match (p.get ρ2).bind dvI, (q.get ρ2).bind dvI with
  | some m, some n => if -(2 ^ 62) ≤ m ∧ m < 2 ^ 62 ∧ -(2 ^ 62) ≤ n ∧ n < 2 ^ 62 then .ok ((List.range (n - m).toNat).map fun i : Nat => .int (m + (i : Int))) ρ2 else .stuck
  | _, _ => .stuck
def strI (f : EF) : IF := fun ρ => (f ρ).bind fun o ρ1 => match o with
  | .dat (.str z) => .ok (z.cps.toList.map fun c => .str ⟨#[c]⟩) ρ1
  | _ => .stuck
def zipI (f g : EF) : IF := fun ρ => (shE f ρ).bind fun a ρ1 => (shE g ρ1).bind fun b ρ2 => match a, b with
  | .list xs, .list ys => .ok ((xs.zip ys).map fun z => .tuple [z.1, z.2]) ρ2
  | .tuple xs, .tuple ys => .ok ((xs.zip ys).map fun z => .tuple [z.1, z.2]) ρ2
  | _, _ => .stuck
def enuI (f : EF) : IF := fun ρ => (shE f ρ).bind fun a ρ1 => match a with
  | .list xs => .ok ((xs.zipIdx).map fun z => .tuple [.int ((z.2 : Nat) : Int), z.1]) ρ1
  | _ => .stuck
section
variable {K : PySem.W.Frag} {R : RK} {pins σ : L2.St} {G H G' H' : Hp} {As Bs Cs T : List Addr} {Q : VK} {ρ : En} {X : Cx} {D : Ends}
theorem dvI_of {o : O} {i : Int} (h : dvI o = some i) : o = .dat (.int i) := by
  unfold dvI at h
  split at h
  · cases Option.some.inj h; rfl
  · cases h
theorem PI.weak {tg e : Expr} {t t' : TI} (h : PI X tg e t) (k : ∀ σ H Rr, t' σ H Rr → t σ H Rr) : PI X tg e t' := ⟨fun pins s σ H Rr I q => h.run pins s σ H Rr I (k σ H Rr q)⟩
theorem pa_one {e : Expr} {t : TE} (h : PE X e t) (hs : starEach [e] X.env = (false, eval e X.env) :: starEach [] X.env := by rfl) : PA X [e] (tCons t tNil) := pa_cons h pa_nil hs
theorem i_rng1 {tg a : Expr} {f : PF} {p pos : Pos} (hg : Gl X "range") (hm : X.mg "range" = none) (ha : PE X a (liftP X.K R f)) (hs : starEach [a] X.env = [(false, eval a X.env)] := by rfl) : PI X tg (.Call (.Name "range" p) [a] [] pos) (liftI X.K R (rng1 f)) := by
  refine PI.weak (pi_range1 hg hm (pa_one ha hs) hs) fun σ H Rr ⟨pins, G, ρ, As, s, k⟩ => ⟨pins, G, ρ, As, s, ?_⟩
  refine Kont.bind (T := []) (Q := Rr) s.nd (fun a z => nomatch z) k fun q ρ1 G1 H1 As1 v Bs e1 nd1 r1 s1 k1 => ?_
  split at k1
  · rename_i n hn
    split at k1
    · rename_i hz
      obtain ⟨o, h1, h2⟩ := Option.bind_eq_some_iff.mp hn
      obtain ⟨Cs, rc⟩ := RepP.get r1 s1 h1
      rw [dvI_of h2] at rc
      exact ⟨n, by rw [dat_int rc], hz.1, hz.2, Kont.now k1 s1 (Bs := []) (fun a z => List.mem_append_right _ (List.mem_append_right _ z)) s1.nd ⟨rfl, walk_range⟩⟩
    · exact k1.elim
  · exact k1.elim
theorem i_rng2 {tg a b : Expr} {f g : PF} {p pos : Pos} (hg : Gl X "range") (hm : X.mg "range" = none) (ha : PE X a (liftP X.K R f)) (hb : PE X b (liftP X.K R g)) (hs : starEach [a, b] X.env = [(false, eval a X.env), (false, eval b X.env)] := by rfl) (hs2 : starEach [b] X.env = [(false, eval b X.env)] := by rfl) : PI X tg (.Call (.Name "range" p) [a, b] [] pos) (liftI X.K R (rng2 f g)) := by
  refine PI.weak (pi_range2 hg hm (pa_cons ha (pa_one hb hs2) (by rw [hs, hs2])) hs hs2) fun σ H Rr ⟨pins, G, ρ, As, s, k⟩ => ⟨pins, G, ρ, As, s, ?_⟩
  refine Kont.bind (T := []) (Q := Rr) s.nd (fun a z => nomatch z) k fun q ρ1 G1 H1 As1 v Bs e1 nd1 r1 s1 k1 => ⟨pins, G1, ρ1, As1, s1, ?_⟩
  have nd1' : (Bs ++ As1).Nodup := by simpa using nd1
  refine Kont.bind (T := Bs) (Q := Rr) nd1' (RepP.there r1) (by simpa using k1) fun q2 ρ2 G2 H2 As2 v2 Bs2 e2 nd2 r2 s2 k2 => ?_
  have r1' := RepP.ext r1 e2 (nd_disj nd1')
  split at k2
  · rename_i m n hm hn
    split at k2
    · rename_i hz
      obtain ⟨o, h1, h2⟩ := Option.bind_eq_some_iff.mp hm
      obtain ⟨o', h1', h2'⟩ := Option.bind_eq_some_iff.mp hn
      obtain ⟨Cs, rc⟩ := RepP.get r1' s2 h1
      obtain ⟨Cs', rc'⟩ := RepP.get r2 s2 h1'
      rw [dvI_of h2] at rc
      rw [dvI_of h2'] at rc'
      exact ⟨m, n, by rw [dat_int rc, dat_int rc'], hz, Kont.now k2 s2 (Bs := []) (fun a z => by simp only [List.nil_append, List.mem_append] at z ⊢; exact .inr (.inr z)) s2.nd ⟨rfl, walk_range⟩⟩
    · exact k2.elim
  · exact k2.elim
theorem i_str {tg e : Expr} {f : EF} (h : PE X e (liftE X.K R f)) : PI X tg e (liftI X.K R (strI f)) := by
  refine PI.weak (pi_str (tg := tg) h) fun σ H Rr ⟨pins, G, ρ, As, s, k⟩ => ⟨pins, G, ρ, As, s, ?_⟩
  refine Kont.bind (T := []) (Q := Rr) s.nd (fun a z => nomatch z) k fun o ρ1 G1 H1 As1 v Bs e1 nd1 r1 s1 k1 => ?_
  split at k1
  · rename_i z
    refine ⟨z, dat_str r1, Kont.now k1 s1 (Bs := []) (fun a z => List.mem_append_right _ (List.mem_append_right _ z)) s1.nd ⟨rfl, fun G' H' sa sb => ⟨fun i d hi => ?_, fun i hi => ?_⟩⟩⟩
    · obtain ⟨c, hc, rfl⟩ := Option.map_eq_some_iff.mp (by rw [List.getElem?_map] at hi; exact hi)
      have hc' : z.cps[i]? = some c := by simpa using hc
      refine ⟨(Array.getElem?_eq_some_iff.mp hc').1, fun x H2 ⟨e, c', hc2, ex⟩ => ?_⟩
      subst e ex
      rw [hc'] at hc2
      cases Option.some.inj hc2
      exact ⟨G', Grow.same sb, .str _⟩
    · show z.cps.size ≤ i
      simpa using hi
  · exact k1.elim
/-- items of a loop that makes a pair a turn -/
theorem walk_pairs {α : Type} {J : It} {zs : List α} {x y : α → PyData} {vx vy : α → V} (hx : ∀ z ∈ zs, Dp K G (vx z) (x z)) (hy : ∀ z ∈ zs, Dp K G (vy z) (y z))
    (hgo : ∀ G' H', Sub G G' → Sub G' H' → (∀ (i : Nat) z, zs[i]? = some z → J.go i H' ∧ ∀ v H2, J.yld i H' v H2 → ∃ T, v = .ref T ∧ H' T = none ∧ H2 = upd H' T (.tup [vx z, vy z])) ∧ ∀ i, zs.length ≤ i → J.stop i H') : WalkF K G J (zs.map fun z => .tuple [x z, y z]) := by
  intro G' H' s1 s2
  obtain ⟨h1, h2⟩ := hgo G' H' s1 s2
  refine ⟨fun i d hi => ?_, fun i hi => h2 i (by simpa using hi)⟩
  rw [List.getElem?_map] at hi
  obtain ⟨z, hz, rfl⟩ := Option.map_eq_some_iff.mp hi
  obtain ⟨hg, hy'⟩ := h1 i z hz
  refine ⟨hg, fun v H2 e => ?_⟩
  obtain ⟨T, rfl, nT, rfl⟩ := hy' v H2 e
  have m := List.mem_of_getElem? hz
  have dd : DpAll K G' [vx z, vy z] [x z, y z] := .cons (dp_same s1 (hx z m)) (.cons (dp_same s1 (hy z m)) .nil)
  refine ⟨_, grow_sh s2 nT, ?_⟩
  cases sh_tup s2 nT dd with
  | dat q => exact q
theorem zip_at {α β : Type} {xs : List α} {ys : List β} {i : Nat} {z : α × β} (h : (xs.zip ys)[i]? = some z) : xs[i]? = some z.1 ∧ ys[i]? = some z.2 := by
  rw [List.getElem?_zip_eq_some] at h
  exact h
theorem dps_zip {vs ws : List V} {xs ys : List PyData} (hx : DpAll K G vs xs) (hy : DpAll K G ws ys) {i : Nat} {z : PyData × PyData} (h : (xs.zip ys)[i]? = some z) : ∃ v w, vs[i]? = some v ∧ ws[i]? = some w ∧ Dp K G v z.1 ∧ Dp K G w z.2 := by
  obtain ⟨h1, h2⟩ := zip_at h
  obtain ⟨v, a, b⟩ := DpAll.get hx h1
  obtain ⟨w, c, d⟩ := DpAll.get hy h2
  exact ⟨v, w, a, c, b, d⟩
theorem walk_tups {J : It} {ds : List PyData} (h : ∀ G' H', Sub G G' → Sub G' H' → (∀ (i : Nat) d, ds[i]? = some d → J.go i H' ∧ ∀ v H2, J.yld i H' v H2 → ∃ T vs xs, v = .ref T ∧ H' T = none ∧ H2 = upd H' T (.tup vs) ∧ d = .tuple xs ∧ DpAll K G' vs xs) ∧ ∀ i, ds.length ≤ i → J.stop i H') : WalkF K G J ds := by
  intro G' H' s1 s2
  obtain ⟨h1, h2⟩ := h G' H' s1 s2
  refine ⟨fun i d hi => ?_, h2⟩
  obtain ⟨hg, hy⟩ := h1 i d hi
  refine ⟨hg, fun v H2 e => ?_⟩
  obtain ⟨T, vs, xs, rfl, nT, rfl, rfl, dd⟩ := hy v H2 e
  refine ⟨_, grow_sh s2 nT, ?_⟩
  cases sh_tup s2 nT dd with
  | dat q => exact q
theorem walk_zipL {a b : Addr} {vs ws : List V} {xs ys : List PyData} (ha : SqL K G a vs) (hb : SqL K G b ws) (hx : DpAll K G vs xs) (hy : DpAll K G ws ys) : WalkF K G (Itz K a b) ((xs.zip ys).map fun z => .tuple [z.1, z.2]) := by
  refine walk_tups fun G' H' s1 s2 => ?_
  have hA := s2.seq (s1.seq ha)
  have hB := s2.seq (s1.seq hb)
  refine ⟨fun i d hi => ?_, fun i hi => ⟨vs, ws, hA, hB, ?_⟩⟩
  · rw [List.getElem?_map] at hi
    obtain ⟨z, hz, rfl⟩ := Option.map_eq_some_iff.mp hi
    obtain ⟨v, w, h1, h2, d1, d2⟩ := dps_zip hx hy hz
    refine ⟨⟨vs, ws, v, w, hA, hB, h1, h2⟩, fun u H2 ⟨T, x, y, e1, e2, e3, q1, q2⟩ => ?_⟩
    have ex := q1 vs hA
    have ey := q2 ws hB
    rw [h1] at ex
    rw [h2] at ey
    cases Option.some.inj ex
    cases Option.some.inj ey
    exact ⟨T, _, _, e1, e2, e3, rfl, .cons (dp_same s1 d1) (.cons (dp_same s1 d2) .nil)⟩
  · have l1 := dps_len hx
    have l2 := dps_len hy
    rw [List.length_map, List.length_zip] at hi
    omega
theorem walk_zipT {a b : Addr} {vs ws : List V} {xs ys : List PyData} (ha : SqT K G a vs) (hb : SqT K G b ws) (hx : DpAll K G vs xs) (hy : DpAll K G ws ys) : WalkF K G (RZ.ItzT K a b) ((xs.zip ys).map fun z => .tuple [z.1, z.2]) := by
  refine walk_tups fun G' H' s1 s2 => ?_
  have hA := s2.sqt (s1.sqt ha)
  have hB := s2.sqt (s1.sqt hb)
  refine ⟨fun i d hi => ?_, fun i hi => ⟨vs, ws, hA, hB, ?_⟩⟩
  · rw [List.getElem?_map] at hi
    obtain ⟨z, hz, rfl⟩ := Option.map_eq_some_iff.mp hi
    obtain ⟨v, w, h1, h2, d1, d2⟩ := dps_zip hx hy hz
    refine ⟨⟨vs, ws, v, w, hA, hB, h1, h2⟩, fun u H2 ⟨T, x, y, e1, e2, e3, q1, q2⟩ => ?_⟩
    have ex := q1 vs hA
    have ey := q2 ws hB
    rw [h1] at ex
    rw [h2] at ey
    cases Option.some.inj ex
    cases Option.some.inj ey
    exact ⟨T, _, _, e1, e2, e3, rfl, .cons (dp_same s1 d1) (.cons (dp_same s1 d2) .nil)⟩
  · have l1 := dps_len hx
    have l2 := dps_len hy
    rw [List.length_map, List.length_zip] at hi
    omega
theorem i_zip {e e2 : Expr} {f g : EF} {p pos tpos : Pos} {elts : List Expr} {kk : Nat} (hg : Gl X "zip") (hm : X.mg "zip" = none) (ha : PE X e (liftE X.K R f)) (hb : PE X e2 (liftE X.K R g))
    (hs : starEach [e, e2] X.env = (false, eval e X.env) :: starEach [e2] X.env := by rfl) (hs2 : starEach [e2] X.env = (false, eval e2 X.env) :: starEach [] X.env := by rfl) (hpl : (backTo pos (starEach [e2] X.env)).any (·.1) = false := by rfl) :
    PI X (.Tuple elts kk tpos) (.Call (.Name "zip" p) [e, e2] [] pos) (liftI X.K R (zipI f g)) := by
  refine PI.weak (RZ.pi_zipA hg hm (pa_cons ha (pa_one hb hs2) hs) hs hpl) fun σ H Rr ⟨pins, G, ρ, As, s, k⟩ => ?_
  refine shE_le (α := Nat) (rel2 := RepO X.K) σ H _ ⟨pins, G, ρ, As, s, ?_⟩
  refine Kont.bind (T := []) (Q := Rr) s.nd (fun a z => nomatch z) k fun d ρ1 G1 H1 As1 v Bs e1 nd1 r1 s1 k1 => ?_
  obtain ⟨rfl, dx⟩ := r1
  refine shE_le (α := Nat) (rel2 := RepO X.K) σ H1 _ ⟨pins, G1, ρ1, As1, s1, ?_⟩
  refine Kont.bind (T := []) (Q := Rr) s1.nd (fun a z => nomatch z) (by simpa using k1) fun d2 ρ2 G2 H2 As2 y Bs2 e2 nd2 r2 s2 k2 => ?_
  obtain ⟨rfl, dy⟩ := r2
  have dx := dp_same e2.sub dx
  split at k2
  · cases dx with
    | @lst a vs _ ha1 ha2 =>
      cases dy with
      | @lst b ws _ hb1 hb2 =>
        exact ⟨a, b, vs, ws, rfl, .inl ⟨s2.sub.seq ha1, s2.sub.seq hb1, Kont.now k2 s2 (Bs := []) (fun a z => by simpa using z) s2.nd ⟨rfl, walk_zipL ha1 hb1 ha2 hb2⟩⟩⟩
  · cases dx with
    | @tup a vs _ ha1 ha2 =>
      cases dy with
      | @tup b ws _ hb1 hb2 =>
        exact ⟨a, b, vs, ws, rfl, .inr ⟨s2.sub.sqt ha1, s2.sub.sqt hb1, Kont.now k2 s2 (Bs := []) (fun a z => by simpa using z) s2.nd ⟨rfl, walk_zipT ha1 hb1 ha2 hb2⟩⟩⟩
  · exact k2.elim
end
end Vs

namespace Vs
open PySem PySem.Spec PyProof.Rows L2 Ww

/-! ### lists of one sort -/
def allInt : List PyData → Option (List Int)
  | [] => some []
  | .int i :: r => (allInt r).map fun x => i :: x
  | _ => none
def allStr : List PyData → Option (List Str)
  | [] => some []
  | .str i :: r => (allStr r).map fun x => i :: x
  | _ => none
def allBl : List PyData → Option (List Bool)
  | [] => some []
  | .bool i :: r => (allBl r).map fun x => i :: x
  | _ => none
section
variable {K : PySem.W.Frag} {G H : Hp}
theorem allInt_map : ∀ ns : List Int, allInt (ns.map .int) = some ns
  | [] => rfl
  | n :: ns => by show (allInt (ns.map .int)).map _ = _; rw [allInt_map ns]; rfl
theorem allStr_map : ∀ ns : List Str, allStr (ns.map .str) = some ns
  | [] => rfl
  | n :: ns => by show (allStr (ns.map .str)).map _ = _; rw [allStr_map ns]; rfl
theorem allBl_map : ∀ ns : List Bool, allBl (ns.map .bool) = some ns
  | [] => rfl
  | n :: ns => by show (allBl (ns.map .bool)).map _ = _; rw [allBl_map ns]; rfl
theorem allInt_of : ∀ {ds : List PyData} {ns : List Int}, allInt ds = some ns → ds = ns.map .int
  | [], _, h => by cases Option.some.inj h; rfl
  | .int i :: r, _, h => by
    obtain ⟨x, h1, h2⟩ := Option.map_eq_some_iff.mp h
    subst h2
    rw [allInt_of h1]; rfl
  | .none :: _, _, h => nomatch h
  | .bool _ :: _, _, h => nomatch h
  | .str _ :: _, _, h => nomatch h
  | .list _ :: _, _, h => nomatch h
  | .tuple _ :: _, _, h => nomatch h
  | .dict _ :: _, _, h => nomatch h
theorem allStr_of : ∀ {ds : List PyData} {ns : List Str}, allStr ds = some ns → ds = ns.map .str
  | [], _, h => by cases Option.some.inj h; rfl
  | .str i :: r, _, h => by
    obtain ⟨x, h1, h2⟩ := Option.map_eq_some_iff.mp h
    subst h2
    rw [allStr_of h1]; rfl
  | .none :: _, _, h => nomatch h
  | .bool _ :: _, _, h => nomatch h
  | .int _ :: _, _, h => nomatch h
  | .list _ :: _, _, h => nomatch h
  | .tuple _ :: _, _, h => nomatch h
  | .dict _ :: _, _, h => nomatch h
theorem allBl_of : ∀ {ds : List PyData} {ns : List Bool}, allBl ds = some ns → ds = ns.map .bool
  | [], _, h => by cases Option.some.inj h; rfl
  | .bool i :: r, _, h => by
    obtain ⟨x, h1, h2⟩ := Option.map_eq_some_iff.mp h
    subst h2
    rw [allBl_of h1]; rfl
  | .none :: _, _, h => nomatch h
  | .str _ :: _, _, h => nomatch h
  | .int _ :: _, _, h => nomatch h
  | .list _ :: _, _, h => nomatch h
  | .tuple _ :: _, _, h => nomatch h
  | .dict _ :: _, _, h => nomatch h
theorem dps_int : ∀ {ns : List Int} {vs : List V}, DpAll K G vs (ns.map .int) → vs = ns.map V.int
  | [], _, .nil => rfl
  | _ :: _, _, .cons a r => by cases a; rw [dps_int r]; rfl
theorem dps_str : ∀ {ns : List Str} {vs : List V}, DpAll K G vs (ns.map .str) → vs = ns.map V.str
  | [], _, .nil => rfl
  | _ :: _, _, .cons a r => by cases a; rw [dps_str r]; rfl
theorem dps_bl : ∀ {ns : List Bool} {vs : List V}, DpAll K G vs (ns.map .bool) → vs = ns.map V.bl
  | [], _, .nil => rfl
  | _ :: _, _, .cons a r => by cases a; rw [dps_bl r]; rfl
theorem dps_ints : ∀ (ns : List Int), DpAll K G (ns.map V.int) (ns.map .int)
  | [] => .nil
  | _ :: ns => .cons (.int _) (dps_ints ns)
theorem dps_strs : ∀ (ns : List Str), DpAll K G (ns.map V.str) (ns.map .str)
  | [] => .nil
  | _ :: ns => .cons (.str _) (dps_strs ns)

/-! ### sorted texts -/
def insU (x : Str) : List Str → List Str
  | [] => [x]
  | y :: l => if x.cps.toList < y.cps.toList then x :: y :: l else if x = y then y :: l else y :: insU x l
def sortU (xs : List Str) : List Str := xs.foldr insU []
theorem insU_mem (x : Str) : ∀ (l : List Str) (k : Str), k ∈ insU x l ↔ k = x ∨ k ∈ l
  | [], k => by simp [insU]
  | y :: l, k => by
    unfold insU
    split
    · simp
    · split
      · rename_i h; subst h; simp
      · simp only [List.mem_cons, insU_mem x l k]
        exact ⟨fun z => z.elim (fun z => .inr (.inl z)) (fun z => z.elim .inl fun z => .inr (.inr z)), fun z => z.elim (fun z => .inr (.inl z)) (fun z => z.elim .inl fun z => .inr (.inr z))⟩
theorem insU_up (x : Str) : ∀ {l : List Str}, (l.Pairwise fun a b : Str => a.cps.toList < b.cps.toList) → (insU x l).Pairwise fun a b : Str => a.cps.toList < b.cps.toList
  | [], _ => List.pairwise_singleton _ _
  | y :: l, h => by
    unfold insU
    obtain ⟨h1, h2⟩ := List.pairwise_cons.mp h
    split
    · rename_i c
      exact List.pairwise_cons.mpr ⟨fun z hz => by
        rcases List.mem_cons.mp hz with w | w
        · rw [w]; exact c
        · exact List.lt_trans c (h1 z w), h⟩
    · rename_i c
      split
      · exact h
      · rename_i ne
        refine List.pairwise_cons.mpr ⟨fun z hz => ?_, insU_up x h2⟩
        rcases (insU_mem x l z).1 hz with w | w
        · rw [w]
          rcases Decidable.em (y.cps.toList < x.cps.toList) with q | q
          · exact q
          · exact absurd (str_ext (List.le_antisymm (List.not_lt.mp q) (List.not_lt.mp c))) ne
        · exact h1 z w
theorem sortU_srt : ∀ xs : List Str, Srt xs (sortU xs)
  | [] => ⟨.nil, fun k => Iff.rfl⟩
  | x :: xs => by
    have ih := sortU_srt xs
    refine ⟨insU_up x ih.up, fun k => ?_⟩
    show k ∈ insU x (sortU xs) ↔ _
    rw [insU_mem, ih.mem, List.mem_cons]
end

/-! ### built-ins -/
def intO : O → Option O
  | .dat (.int i) => some (.dat (.int i))
  | .dat (.bool b) => some (.dat (.int (if b then 1 else 0)))
  | _ => none
def sumO (a : O) : Option O := (a.lv.bind allInt).map fun ns => .dat (.int ns.sum)
/-- the greatest of some numbers -/
def maxL : List Int → Int
  | [] => 0
  | [x] => x
  | x :: r => max x (maxL r)
def minL : List Int → Int
  | [] => 0
  | [x] => x
  | x :: r => min x (minL r)
def maxO (a : O) : Option O := (a.lv.bind allInt).bind fun ns => if ns = [] then none else some (.dat (.int (maxL ns)))
def minO (a : O) : Option O := (a.lv.bind allInt).bind fun ns => if ns = [] then none else some (.dat (.int (minL ns)))
def max2O : O → O → Option O
  | .dat (.int i), .dat (.int j) => some (.dat (.int (if j > i then j else i)))
  | _, _ => none
def min2O : O → O → Option O
  | .dat (.int i), .dat (.int j) => some (.dat (.int (if j < i then j else i)))
  | _, _ => none
def anyO (a : O) : Option O := (a.lv.bind allBl).map fun ns => .dat (.bool (ns.any id))
def allO (a : O) : Option O := (a.lv.bind allBl).map fun ns => .dat (.bool (ns.all id))
def listO (a : O) : Option O := a.sv.map .ls
def tupleO : O → Option O
  | .dat (.tuple ds) => some (.dat (.tuple ds))
  | a => a.lv.map fun ds => .dat (.tuple ds)
/-- sorted(set(texts)) -/
def sortedSetO (a : O) : Option O := (a.lv.bind allStr).bind fun ns => if ns.length ≤ 1000 ∧ (dedup [] ns).length < 64 then some (.ls ((sortU ns).map .str)) else none
def joinO : O → O → Option O
  | .dat (.str a), b => (b.sv.bind allStr).bind fun ys => if (ys.map (·.length)).sum + ys.length * a.length ≤ 16777216 then some (.dat (.str (Txt.join a ys))) else none
  | _, _ => none
section
variable {K : PySem.W.Frag}
theorem prim_int : Prim1 K (fun x H Q => (∃ i, [x] = [V.int i] ∧ Q (.int i) H) ∨ ∃ k, [x] = [V.bl k] ∧ Q (.int (if k then 1 else 0)) H) intO := by
  intro G H x a o B Q s ra h k
  unfold intO at h
  split at h
  · cases Option.some.inj h
    exact .inl ⟨_, by rw [dat_int ra], Grow.dat s (.int _) k⟩
  · cases Option.some.inj h
    exact .inr ⟨_, by rw [dat_bool ra], Grow.dat s (.int _) k⟩
  · cases h
theorem maxL_mem : ∀ {ns : List Int}, ns ≠ [] → maxL ns ∈ ns
  | [], h => absurd rfl h
  | [x], _ => List.mem_cons_self
  | x :: y :: r, _ => by
    show max x (maxL (y :: r)) ∈ _
    rcases Int.le_total x (maxL (y :: r)) with c | c
    · rw [Int.max_eq_right c]
      exact List.mem_cons_of_mem _ (maxL_mem (fun z => nomatch z))
    · rw [Int.max_eq_left c]
      exact List.mem_cons_self
theorem maxL_ge : ∀ {ns : List Int}, ∀ y ∈ ns, y ≤ maxL ns
  | [], y, h => nomatch h
  | [x], y, h => by rw [List.mem_singleton.mp h]; exact Int.le_refl _
  | x :: z :: r, y, h => by
    show y ≤ max x (maxL (z :: r))
    rcases List.mem_cons.mp h with c | c
    · rw [c]; exact Int.le_max_left _ _
    · exact Int.le_trans (maxL_ge y c) (Int.le_max_right _ _)
theorem minL_mem : ∀ {ns : List Int}, ns ≠ [] → minL ns ∈ ns
  | [], h => absurd rfl h
  | [x], _ => List.mem_cons_self
  | x :: y :: r, _ => by
    show min x (minL (y :: r)) ∈ _
    rcases Int.le_total x (minL (y :: r)) with c | c
    · rw [Int.min_eq_left c]
      exact List.mem_cons_self
    · rw [Int.min_eq_right c]
      exact List.mem_cons_of_mem _ (minL_mem (fun z => nomatch z))
theorem minL_le : ∀ {ns : List Int}, ∀ y ∈ ns, minL ns ≤ y
  | [], y, h => nomatch h
  | [x], y, h => by rw [List.mem_singleton.mp h]; exact Int.le_refl _
  | x :: z :: r, y, h => by
    show min x (minL (z :: r)) ≤ y
    rcases List.mem_cons.mp h with c | c
    · rw [c]; exact Int.min_le_left _ _
    · exact Int.le_trans (Int.min_le_right _ _) (minL_le y c)
theorem lv_ints {G H : Hp} {v : V} {a : O} {B : List Addr} {ns : List Int} (r : RepO K G H v a B) (s : Sub G H) (h : a.lv.bind allInt = some ns) : ∃ p, v = .ref p ∧ SqL K H p (ns.map V.int) := by
  obtain ⟨ds, h1, h2⟩ := Option.bind_eq_some_iff.mp h
  obtain ⟨p, vs, rfl, hp, dp⟩ := r.lv s h1
  rw [allInt_of h2] at dp
  rw [dps_int dp] at hp
  exact ⟨p, rfl, hp⟩
theorem lv_strs {G H : Hp} {v : V} {a : O} {B : List Addr} {ns : List Str} (r : RepO K G H v a B) (s : Sub G H) (h : a.lv.bind allStr = some ns) : ∃ p, v = .ref p ∧ SqL K H p (ns.map V.str) := by
  obtain ⟨ds, h1, h2⟩ := Option.bind_eq_some_iff.mp h
  obtain ⟨p, vs, rfl, hp, dp⟩ := r.lv s h1
  rw [allStr_of h2] at dp
  rw [dps_str dp] at hp
  exact ⟨p, rfl, hp⟩
theorem lv_bls {G H : Hp} {v : V} {a : O} {B : List Addr} {ns : List Bool} (r : RepO K G H v a B) (s : Sub G H) (h : a.lv.bind allBl = some ns) : ∃ p, v = .ref p ∧ SqL K H p (ns.map V.bl) := by
  obtain ⟨ds, h1, h2⟩ := Option.bind_eq_some_iff.mp h
  obtain ⟨p, vs, rfl, hp, dp⟩ := r.lv s h1
  rw [allBl_of h2] at dp
  rw [dps_bl dp] at hp
  exact ⟨p, rfl, hp⟩
theorem prim_sum : Prim1 K (fun x => rSum K [x]) sumO := by
  intro G H x a o B Q s ra h k
  obtain ⟨ns, h1, h2⟩ := Option.map_eq_some_iff.mp h
  subst h2
  obtain ⟨p, rfl, hp⟩ := lv_ints ra s h1
  exact ⟨p, ns, rfl, hp, Grow.dat s (.int _) k⟩
theorem prim_max : Prim1 K (fun x => rMax K [x]) maxO := by
  intro G H x a o B Q s ra h k
  obtain ⟨ns, h1, h2⟩ := Option.bind_eq_some_iff.mp h
  split at h2
  · cases h2
  · rename_i hne
    cases Option.some.inj h2
    obtain ⟨p, rfl, hp⟩ := lv_ints ra s h1
    refine ⟨p, ns, rfl, hp, List.length_pos_iff.mpr hne, fun m hm hx => ?_⟩
    have e : m = maxL ns := Int.le_antisymm (maxL_ge m hm) (hx _ (maxL_mem hne))
    rw [e]
    exact Grow.dat s (.int _) k
theorem prim_min : Prim1 K (fun x => rMin K [x]) minO := by
  intro G H x a o B Q s ra h k
  obtain ⟨ns, h1, h2⟩ := Option.bind_eq_some_iff.mp h
  split at h2
  · cases h2
  · rename_i hne
    cases Option.some.inj h2
    obtain ⟨p, rfl, hp⟩ := lv_ints ra s h1
    refine ⟨p, ns, rfl, hp, List.length_pos_iff.mpr hne, fun m hm hx => ?_⟩
    have e : m = minL ns := Int.le_antisymm (hx _ (minL_mem hne)) (minL_le m hm)
    rw [e]
    exact Grow.dat s (.int _) k
theorem prim_max2 : Prim2 K (fun x y H Q => ∃ i j, [x, y] = [V.int i, V.int j] ∧ Q (.int (if j > i then j else i)) H) max2O := by
  intro G H x y a b o B C Q s ra rb h k
  unfold max2O at h
  split at h
  · cases Option.some.inj h
    exact ⟨_, _, by rw [dat_int ra, dat_int rb], Grow.dat s (.int _) k⟩
  · cases h
theorem prim_min2 : Prim2 K (fun x y H Q => ∃ i j, [x, y] = [V.int i, V.int j] ∧ Q (.int (if j < i then j else i)) H) min2O := by
  intro G H x y a b o B C Q s ra rb h k
  unfold min2O at h
  split at h
  · cases Option.some.inj h
    exact ⟨_, _, by rw [dat_int ra, dat_int rb], Grow.dat s (.int _) k⟩
  · cases h
theorem prim_any : Prim1 K (fun x => rAny K [x]) anyO := by
  intro G H x a o B Q s ra h k
  obtain ⟨ns, h1, h2⟩ := Option.map_eq_some_iff.mp h
  subst h2
  obtain ⟨p, rfl, hp⟩ := lv_bls ra s h1
  exact ⟨p, ns, rfl, hp, Grow.dat s (.bl _) k⟩
theorem prim_all : Prim1 K (fun x => rAll K [x]) allO := by
  intro G H x a o B Q s ra h k
  obtain ⟨ns, h1, h2⟩ := Option.map_eq_some_iff.mp h
  subst h2
  obtain ⟨p, rfl, hp⟩ := lv_bls ra s h1
  exact ⟨p, ns, rfl, hp, Grow.dat s (.bl _) k⟩
theorem prim_list : Prim1 K (fun x H Q => ∃ p ys, [x] = [V.ref p] ∧ (SqL K H p ys ∨ SqT K H p ys) ∧ ∀ l, H l = none → Q (.ref l) (upd H l (.lst ys))) listO := by
  intro G H x a o B Q s ra h k
  obtain ⟨ds, h1, h2⟩ := Option.map_eq_some_iff.mp h
  subst h2
  obtain ⟨p, vs, rfl, hp, dp⟩ := ra.sv s h1
  exact ⟨p, vs, rfl, hp, fun l nl => k _ _ _ _ (grow_new s nl) (grow_ls s nl dp)⟩
theorem prim_tuple : Prim1 K (fun x H Q => ∃ p ys, [x] = [V.ref p] ∧ ((SqL K H p ys ∧ ∀ l, H l = none → Q (.ref l) (upd H l (.tup ys))) ∨ (SqT K H p ys ∧ Q (.ref p) H))) tupleO := by
  intro G H x a o B Q s ra h k
  unfold tupleO at h
  split at h
  · cases Option.some.inj h
    obtain ⟨p, vs, rfl, hp, dp⟩ := dat_tup ra
    exact ⟨p, vs, rfl, .inr ⟨s.sqt hp, Grow.dat s (.tup hp dp) k⟩⟩
  · obtain ⟨ds, h1, h2⟩ := Option.map_eq_some_iff.mp h
    subst h2
    obtain ⟨p, vs, rfl, hp, dp⟩ := ra.lv s h1
    exact ⟨p, vs, rfl, .inl ⟨hp, fun l nl => k _ _ _ _ (grow_sh s nl) (sh_tup s nl dp)⟩⟩
theorem prim_sortedSet {P : Program} {w : World} : Prim1 K (fun x H Q => rSetS K P w [x] H fun v H1 => rSortS P w [v] H1 Q) sortedSetO := by
  intro G H x a o B Q s ra h k
  obtain ⟨ns, h1, h2⟩ := Option.bind_eq_some_iff.mp h
  split at h2
  · rename_i hz
    cases Option.some.inj h2
    obtain ⟨p, rfl, hp⟩ := lv_strs ra s h1
    refine ⟨p, ns, rfl, hp, hz.1, fun l nl => ⟨l, _, rfl, upd_same, hz.2, fun ss q hs nq => ?_⟩⟩
    have e : ss = sortU ns := (hs.of_dedup).eq (sortU_srt ns)
    rw [e]
    have nH : H q = none := (same_new nl _ : Same H _).free nq
    have g1 : Grow G H G (upd H l (SetSO P w l (dedup [] ns))) [] := ⟨⟨Sub.refl _, fun a u z _ => by rw [upd_ne (ne_of_none z nl)]; exact z, fun _ z _ _ => z, fun a z => nomatch z⟩, fun a u z => by rw [upd_ne (ne_of_none (s a u z) nl)]; exact s a u z, .nil⟩
    have g2 := grow_new (u := .lst ((sortU ns).map V.str)) g1.sub nq
    refine k _ _ _ [q] ⟨⟨Sub.refl _, fun a u z n => g2.ext.keep a u (g1.ext.keep a u z n) n, fun _ z _ _ => z, fun a z => .inr (by rw [List.mem_singleton.mp z]; exact nH)⟩, g2.sub, by simp⟩ ?_
    exact grow_ls g1.sub nq (dps_strs _)
  · cases h2
theorem prim_join : Prim2 K (fun x y H Q => (∃ a, x = V.str a) ∧ ∃ a p, ∃ ys : List Str, x = .str a ∧ [y] = [V.ref p] ∧ (SqL K H p (ys.map V.str) ∨ SqT K H p (ys.map V.str)) ∧ (ys.map (·.length)).sum + ys.length * a.length ≤ 16777216 ∧ Q (.str (Txt.join a ys)) H) joinO := by
  intro G H x y a b o B C Q s ra rb h k
  unfold joinO at h
  split at h
  · obtain ⟨ys, h1, h2⟩ := Option.bind_eq_some_iff.mp h
    split at h2
    · rename_i hz
      cases Option.some.inj h2
      obtain ⟨ds, h3, h4⟩ := Option.bind_eq_some_iff.mp h1
      obtain ⟨p, vs, rfl, hp, dp⟩ := rb.sv s h3
      rw [allStr_of h4] at dp
      rw [dps_str dp] at hp
      exact ⟨⟨_, dat_str ra⟩, _, p, ys, dat_str ra, rfl, hp, hz, Grow.dat s (.str _) k⟩
    · cases h2
  · cases h
end
section
variable {X : Cx} {R : RK} {e e1 e2 : Expr} {f g : PF} {x : Str} {p pos p2 pos2 : Pos}
theorem pa_two {a b : Expr} {t u : TE} (h : PE X a t) (h' : PE X b u) (hs : starEach [a, b] X.env = (false, eval a X.env) :: starEach [b] X.env := by rfl) (hs2 : starEach [b] X.env = (false, eval b X.env) :: starEach [] X.env := by rfl) : PA X [a, b] (tCons t (tCons u tNil)) := pa_cons h (pa_one h' hs2) hs
theorem bi1 {id : String} {r : List V → Hp → VK → Prop} {F : O → Option O} (hc : CallR X (.builtin id) r) (q : Prim1 X.K (fun x => r [x]) F) (hg : Gl X x) (hm : X.mg x = none) (hv : bootBuiltins x = some (.builtin id)) (h : PE X e (liftP X.K R f)) (hn : x ≠ "__name__" := by decide) (hdb : (x == ("__debug__" : Str)) = false := by decide) (hs : starEach [e] X.env = (false, eval e X.env) :: starEach [] X.env := by rfl) (hpl : (backTo pos (starEach [] X.env)).any (·.1) = false := by rfl) :
    PE X (.Call (.Name x p) [e] [] pos) (liftE X.K R (op1 F f)) := op1_ok (pe_callB hc hg hm hv (pa_one h hs) hn hdb hs hpl) q
theorem ty1 {id : String} {r : List V → Hp → VK → Prop} {F : O → Option O} (hc : CallR X (.type id) r) (q : Prim1 X.K (fun x => r [x]) F) (hg : Gl X x) (hm : X.mg x = none) (hv : bootBuiltins x = some (.type id)) (h : PE X e (liftP X.K R f)) (hn : x ≠ "__name__" := by decide) (hdb : (x == ("__debug__" : Str)) = false := by decide) (hs : starEach [e] X.env = (false, eval e X.env) :: starEach [] X.env := by rfl) (hpl : (backTo pos (starEach [] X.env)).any (·.1) = false := by rfl) :
    PE X (.Call (.Name x p) [e] [] pos) (liftE X.K R (op1 F f)) := op1_ok (pe_callTy hc hg hm hv (pa_one h hs) hn hdb hs hpl) q
theorem bi2 {id : String} {r : List V → Hp → VK → Prop} {F : O → O → Option O} (hc : CallR X (.builtin id) r) (q : Prim2 X.K (fun x y => r [x, y]) F) (hg : Gl X x) (hm : X.mg x = none) (hv : bootBuiltins x = some (.builtin id)) (h : PE X e1 (liftP X.K R f)) (h' : PE X e2 (liftP X.K R g)) (hn : x ≠ "__name__" := by decide) (hdb : (x == ("__debug__" : Str)) = false := by decide) (hs : starEach [e1, e2] X.env = (false, eval e1 X.env) :: starEach [e2] X.env := by rfl) (hs2 : starEach [e2] X.env = (false, eval e2 X.env) :: starEach [] X.env := by rfl) (hpl : (backTo pos (starEach [e2] X.env)).any (·.1) = false := by rfl) :
    PE X (.Call (.Name x p) [e1, e2] [] pos) (liftE X.K R (op2 F f g)) := op2_ok (pe_callB hc hg hm hv (pa_two h h' hs hs2) hn hdb hs hpl) q
/-- sorted(set(e)) -/
theorem b_sortedSet (hc : X.calm = true) (hg : Gl X "sorted") (hm : X.mg "sorted" = none) (hg2 : Gl X "set") (hm2 : X.mg "set" = none) (h : PE X e (liftP X.K R f)) (hs : starEach [e] X.env = (false, eval e X.env) :: starEach [] X.env := by rfl) (hpl : (backTo pos2 (starEach [] X.env)).any (·.1) = false := by rfl)
    (hs2 : starEach [.Call (.Name "set" p2) [e] [] pos2] X.env = (false, eval (.Call (.Name "set" p2) [e] [] pos2) X.env) :: starEach [] X.env := by rfl) (hpl2 : (backTo pos (starEach [] X.env)).any (·.1) = false := by rfl) :
    PE X (.Call (.Name "sorted" p) [.Call (.Name "set" p2) [e] [] pos2] [] pos) (liftE X.K R (op1 sortedSetO f)) :=
  op1_ok (pe_callB (cr_sortS hc) hg hm (by decide +kernel) (pa_one (pe_callTy (cr_setS hc) hg2 hm2 (by decide +kernel) (pa_one h hs) (by decide) (by decide) hs hpl) hs2) (by decide) (by decide) hs2 hpl2) prim_sortedSet
end
/-- two operands; the first one is looked at ahead of the second one -/
def op2c (c : O → Bool) (F : O → O → Option O) (f g : PF) : EF := fun ρ => (f ρ).bind fun p ρ1 => match p.get ρ1 with
  | some a => if c a = true then (g ρ1).bind fun q ρ2 => fin2 F (p.get ρ2) (q.get ρ2) ρ2 else .stuck
  | none => .stuck
def isStr : O → Bool
  | .dat (.str _) => true
  | _ => false
section
variable {K : PySem.W.Frag} {R : RK} {pins σ : L2.St} {G H G' H' : Hp} {As Bs Cs T : List Addr} {Q : VK}
theorem op2c_le {f g : PF} {r : R2} {c : O → Bool} {C : V → Prop} {F : O → O → Option O} (hc : ∀ G H v a B, RepO K G H v a B → c a = true → C v) (p : Prim2 K r F) (σ : L2.St) (H : Hp) (Q : VK) (h : liftE K R (op2c c F f g) σ H Q) : liftP K R f σ H fun x H1 => C x ∧ liftP K R g σ H1 fun y H2 => r x y H2 Q := by
  obtain ⟨pins, G, ρ, As, s, k⟩ := h
  refine ⟨pins, G, ρ, As, s, ?_⟩
  refine Kont.bind (T := []) (Q := Q) s.nd (fun a z => nomatch z) k fun q ρ1 G1 H1 As1 v Bs e1 nd1 r1 s1 k1 => ?_
  split at k1
  · rename_i a0 ha0
    split at k1
    · rename_i hca
      obtain ⟨Cs0, rc0⟩ := RepP.get r1 s1 ha0
      refine ⟨hc _ _ _ _ _ rc0 hca, pins, G1, ρ1, As1, s1, ?_⟩
      have nd1' : (Bs ++ As1).Nodup := by simpa using nd1
      refine Kont.bind (T := Bs) (Q := Q) nd1' (RepP.there r1) (by simpa using k1) fun q2 ρ2 G2 H2 As2 v2 Bs2 e2 nd2 r2 s2 k2 => ?_
      have k2 : KontE K R pins σ G2 H2 (Bs ++ (Bs2 ++ As2)) Q (fin2 F (q.get ρ2) (q2.get ρ2) ρ2) := k2
      have r1' := RepP.ext r1 e2 (nd_disj nd1')
      unfold fin2 at k2
      split at k2
      · rename_i a b ha hb
        split at k2
        · rename_i o ho
          obtain ⟨Cs, rc⟩ := RepP.get r1' s2 ha
          obtain ⟨Ds, rd⟩ := RepP.get r2 s2 hb
          exact p G2 H2 v v2 a b o Cs Ds Q s2.sub rc rd ho fun G3 H3 w Es g re => KontE.grow s2 (T := Bs ++ Bs2) (by simpa using k2) g re
        · exact k2.elim
      · exact k2.elim
    · exact k1.elim
  · exact k1.elim
def op1c (F : O → Option O) (f : PF) : EF := op1 F f
end
section
variable {X : Cx} {R : RK} {e : Expr} {f g : PF} {pos : Pos}
theorem isStr_of {G H : Hp} {v : V} {a : O} {B : List Addr} (r : RepO X.K G H v a B) (h : isStr a = true) : ∃ z, v = V.str z := by
  unfold isStr at h
  split at h
  · exact ⟨_, dat_str r⟩
  · cases h
/-- s.m(e), s a text -/
theorem m_str1 {o : Expr} {r : V → List V → Hp → VK → Prop} {F : O → O → Option O} (h : PE X o (tM1 r (liftP X.K R f) (liftP X.K R g))) (q : Prim2 X.K (fun x y => r x [y]) F) : PE X o (liftE X.K R (op2c isStr F f g)) :=
  PE.weak h fun σ H Q hw => op2c_le (fun G H v a B r h => isStr_of r h) q σ H Q hw
theorem prim_join' : Prim2 X.K (fun x y H Q => ∃ a p, ∃ ys : List Str, x = V.str a ∧ [y] = [V.ref p] ∧ (SqL X.K H p (ys.map V.str) ∨ SqT X.K H p (ys.map V.str)) ∧ (ys.map (·.length)).sum + ys.length * a.length ≤ 16777216 ∧ Q (.str (Txt.join a ys)) H) joinO :=
  fun G H x y a b o B C Q s ra rb h k => (prim_join G H x y a b o B C Q s ra rb h k).2
theorem b_join {o : Expr} {apos : Pos} (ho : PE X o (liftP X.K R f)) (h : PE X e (liftP X.K R g)) (hs : starEach [e] X.env = [(false, eval e X.env)] := by rfl) (hbase : attributeBase o "join" X.env (eval o X.env) = eval o X.env := by rfl) (hline : (apos.endLine == pos.line) = true := by rfl) :
    PE X (.Call (.Attribute o "join" apos) [e] [] pos) (liftE X.K R (op2c isStr joinO f g)) := m_str1 (pe_join ho h hs hbase hline) prim_join'
end
end Vs

namespace Vs
open PySem PySem.Spec PyProof.Rows L2 Ww

/-! ### three operands -/
def fin3 (F : O → O → O → Option O) (a b c : Option O) (ρ : En) : Res := match a, b, c with
  | some a, some b, some c => match F a b c with
    | some o => .ok o ρ
    | none => .stuck
  | _, _, _ => .stuck
def op3 (F : O → O → O → Option O) (f g h : PF) : EF := fun ρ => (f ρ).bind fun p ρ1 => (g ρ1).bind fun q ρ2 => (h ρ2).bind fun u ρ3 => fin3 F (p.get ρ3) (q.get ρ3) (u.get ρ3) ρ3
abbrev R3 := V → V → V → Hp → VK → Prop
def Prim3 (K : PySem.W.Frag) (r : R3) (F : O → O → O → Option O) : Prop :=
  ∀ (G H : Hp) (x y z : V) (a b c o : O) (B C D : List Addr) (Q : VK), Sub G H → RepO K G H x a B → RepO K G H y b C → RepO K G H z c D → F a b c = some o → (∀ G' H' v Bs, Grow G H G' H' Bs → RepO K G' H' v o Bs → Q v H') → r x y z H Q
section
variable {K : PySem.W.Frag} {R : RK} {pins σ : L2.St} {G H G' H' : Hp} {As Bs Cs T : List Addr} {Q : VK}
theorem op3_le {f g h : PF} {r : R3} {F : O → O → O → Option O} (p : Prim3 K r F) (σ : L2.St) (H : Hp) (Q : VK) (hw : liftE K R (op3 F f g h) σ H Q) : liftP K R f σ H fun x H1 => liftP K R g σ H1 fun y H2 => liftP K R h σ H2 fun z H3 => r x y z H3 Q := by
  obtain ⟨pins, G, ρ, As, s, k⟩ := hw
  refine ⟨pins, G, ρ, As, s, ?_⟩
  refine Kont.bind (T := []) (Q := Q) s.nd (fun a z => nomatch z) k fun q ρ1 G1 H1 As1 v Bs e1 nd1 r1 s1 k1 => ⟨pins, G1, ρ1, As1, s1, ?_⟩
  have nd1' : (Bs ++ As1).Nodup := by simpa using nd1
  refine Kont.bind (T := Bs) (Q := Q) nd1' (RepP.there r1) (by simpa using k1) fun q2 ρ2 G2 H2 As2 v2 Bs2 e2 nd2 r2 s2 k2 => ⟨pins, G2, ρ2, As2, s2, ?_⟩
  have r1' := RepP.ext r1 e2 (nd_disj nd1')
  have nd2' : ((Bs ++ Bs2) ++ As2).Nodup := by simpa using nd2
  refine Kont.bind (T := Bs ++ Bs2) (Q := Q) nd2' (fun a ha => ?_) (by simpa using k2) fun q3 ρ3 G3 H3 As3 v3 Bs3 e3 nd3 r3 s3 k3 => ?_
  · rcases List.mem_append.mp ha with w | w
    · exact RepP.there r1' a w
    · exact RepP.there r2 a w
  · have dj := nd_disj nd2'
    have r1'' := RepP.ext r1' e3 fun a ha => dj a (List.mem_append_left _ ha)
    have r2'' := RepP.ext r2 e3 fun a ha => dj a (List.mem_append_right _ ha)
    have k3 : KontE K R pins σ G3 H3 ((Bs ++ Bs2) ++ (Bs3 ++ As3)) Q (fin3 F (q.get ρ3) (q2.get ρ3) (q3.get ρ3) ρ3) := k3
    unfold fin3 at k3
    split at k3
    · rename_i a b c ha hb hc
      split at k3
      · rename_i o ho
        obtain ⟨C1, t1⟩ := RepP.get r1'' s3 ha
        obtain ⟨C2, t2⟩ := RepP.get r2'' s3 hb
        obtain ⟨C3, t3⟩ := RepP.get r3 s3 hc
        exact p G3 H3 v v2 v3 a b c o C1 C2 C3 Q s3.sub t1 t2 t3 ho fun G4 H4 w Es g re => KontE.grow s3 (T := (Bs ++ Bs2) ++ Bs3) (by simpa using k3) g re
      · exact k3.elim
    · exact k3.elim
end

/-! ### slices -/
def cutD (xs : List PyData) (lo hi : Option Int) : List PyData := (xs.drop (HT.sIx xs.length 0 lo)).take (HT.sIx xs.length xs.length hi - HT.sIx xs.length 0 lo)
def slO (a : O) (lo hi : Option Int) : Option O := match a with
  | .dat (.str z) => if z.length ≤ sizeLine then some (.dat (.str (cutS z lo hi))) else none
  | .dat (.tuple ds) => if ¬ (HT.sIx ds.length 0 lo = 0 ∧ HT.sIx ds.length ds.length hi = ds.length) then some (.dat (.tuple (cutD ds lo hi))) else none
  | a => a.lv.map fun ds => .ls (cutD ds lo hi)
def slLo : O → O → Option O
  | a, .dat (.int i) => slO a (some i) none
  | _, _ => none
def slHi : O → O → Option O
  | a, .dat (.int i) => slO a none (some i)
  | _, _ => none
def slBo : O → O → O → Option O
  | a, .dat (.int i), .dat (.int j) => slO a (some i) (some j)
  | _, _, _ => none
def slAll (a : O) : Option O := slO a none none
/-- xs[::-1] -/
def revLO (a : O) : Option O := a.lv.map fun ds => .ls ds.reverse
def rSlA (K : PySem.W.Frag) : V → Option Int → Option Int → Hp → VK → Prop := fun x lo hi H Q => rSlL K x lo hi H Q ∨ rSlT K x lo hi H Q ∨ rSlS x lo hi H Q
section
variable {K : PySem.W.Frag} {G H : Hp}
theorem dps_cut {vs : List V} {ds : List PyData} (h : DpAll K G vs ds) (lo hi : Option Int) : DpAll K G (cutV vs lo hi) (cutD ds lo hi) := by
  unfold cutV cutD
  rw [dps_len h]
  exact DpAll.take _ (DpAll.drop _ h)
theorem prim_sl {x : V} {a o : O} {B : List Addr} {lo hi : Option Int} {Q : VK} (s : Sub G H) (ra : RepO K G H x a B) (h : slO a lo hi = some o) (k : ∀ G' H' v Bs, Grow G H G' H' Bs → RepO K G' H' v o Bs → Q v H') : rSlA K x lo hi H Q := by
  unfold slO at h
  split at h
  · split at h
    · rename_i hz
      cases Option.some.inj h
      exact .inr (.inr ⟨_, dat_str ra, hz, Grow.dat s (.str _) k⟩)
    · cases h
  · split at h
    · rename_i hz
      cases Option.some.inj h
      obtain ⟨p, vs, rfl, hp, dp⟩ := dat_tup ra
      exact .inr (.inl ⟨p, vs, rfl, s.sqt hp, by rw [dps_len dp]; exact hz, fun q nq => k _ _ _ _ (grow_sh s nq) (sh_tup s nq (dps_cut dp lo hi))⟩)
    · cases h
  · obtain ⟨ds, h1, h2⟩ := Option.map_eq_some_iff.mp h
    subst h2
    obtain ⟨p, vs, rfl, hp, dp⟩ := ra.lv s h1
    exact .inl ⟨p, vs, rfl, hp, fun q nq => k _ _ _ _ (grow_new s nq) (grow_ls s nq (dps_cut dp lo hi))⟩
theorem prim_slLo : Prim2 K (fun x y H Q => ∃ i, y = .int i ∧ rSlA K x (some i) none H Q) slLo := by
  intro G H x y a b o B C Q s ra rb h k
  unfold slLo at h
  split at h
  · exact ⟨_, dat_int rb, prim_sl s ra h k⟩
  · cases h
theorem prim_slHi : Prim2 K (fun x y H Q => ∃ i, y = .int i ∧ rSlA K x none (some i) H Q) slHi := by
  intro G H x y a b o B C Q s ra rb h k
  unfold slHi at h
  split at h
  · exact ⟨_, dat_int rb, prim_sl s ra h k⟩
  · cases h
theorem prim_slBo : Prim3 K (fun x y z H Q => ∃ j, z = .int j ∧ ∃ i, y = .int i ∧ rSlA K x (some i) (some j) H Q) slBo := by
  intro G H x y z a b c o B C D Q s ra rb rc h k
  unfold slBo at h
  split at h
  · exact ⟨_, dat_int rc, _, dat_int rb, prim_sl s ra h k⟩
  · cases h
theorem prim_slAll : Prim1 K (fun x H Q => rSlA K x none none H Q) slAll := fun G H x a o B Q s ra h k => prim_sl s ra h k
theorem prim_revL : Prim1 K (fun x H Q => ∃ a xs, x = .ref a ∧ SqL K H a xs ∧ ∀ p, H p = none → Q (.ref p) (upd H p (.lst xs.reverse))) revLO := by
  intro G H x a o B Q s ra h k
  obtain ⟨ds, h1, h2⟩ := Option.map_eq_some_iff.mp h
  subst h2
  obtain ⟨p, vs, rfl, hp, dp⟩ := ra.lv s h1
  exact ⟨p, vs, rfl, hp, fun q nq => k _ _ _ _ (grow_new s nq) (grow_ls s nq (DpAll.rev dp))⟩
end
section
variable {X : Cx} {R : RK} {e lo hi : Expr} {f g h : PF} {pos p2 : Pos}
theorem sl_any : SlR X (rSlA X.K) := sl_list.or (sl_tup.or sl_str)
theorem pf_slLo (he : PE X e (liftP X.K R f)) (hl : PE X lo (liftP X.K R g)) : PE X (.Subscript e (.Slice (some lo) none none p2) pos) (liftE X.K R (op2 slLo f g)) :=
  PE.weak (pe_slice sl_any he (po_some hl) po_none) fun σ H Q hw => op2_le prim_slLo σ H Q hw
theorem pf_slHi (he : PE X e (liftP X.K R f)) (hl : PE X hi (liftP X.K R g)) : PE X (.Subscript e (.Slice none (some hi) none p2) pos) (liftE X.K R (op2 slHi f g)) :=
  PE.weak (pe_slice sl_any he po_none (po_some hl)) fun σ H Q hw => op2_le prim_slHi σ H Q hw
theorem pf_slAll (he : PE X e (liftP X.K R f)) : PE X (.Subscript e (.Slice none none none p2) pos) (liftE X.K R (op1 slAll f)) :=
  PE.weak (pe_slice sl_any he po_none po_none) fun σ H Q hw => op1_le prim_slAll σ H Q hw
theorem pf_revL {k : Nat} {q1 q2 q3 : Pos} (he : PE X e (liftP X.K R f)) : PE X (.Subscript e (.Slice none none (some (.UnaryOp .USub (.Constant (.int 1) k q1) q2)) q3) pos) (liftE X.K R (op1 revLO f)) :=
  PE.weak (pe_revL he) fun σ H Q hw => op1_le prim_revL σ H Q hw
end

/-! ### isinstance -/
def tyN : O → String
  | .dat .none => "NoneType"
  | .dat (.bool _) => "bool"
  | .dat (.int _) => "int"
  | .dat (.str _) => "str"
  | .dat (.list _) => "list"
  | .dat (.tuple _) => "tuple"
  | .dat (.dict _) => "dict"
  | .ls _ => "list"
  | .dk _ => "dict"
  | .tp _ => "tuple"
  | .lt _ => "list"
  | .ll _ => "list"
def isA (t n : String) : Bool := t == n || (t == "bool" && n == "int")
def isaO (ns : List String) (o : O) : Option O := bo (ns.any fun n => isA (tyN o) n)
section
variable {K : PySem.W.Frag} {G H : Hp}
theorem tyX_of {v : V} {o : O} {B : List Addr} (r : RepO K G H v o B) (s : Sub G H) : TyX K H v (.type (tyN o)) := by
  cases r with
  | dat d =>
    cases d with
    | non => exact .base .non
    | bl b => exact .base (.bl b)
    | int i => exact .base (.int i)
    | str x => exact .base (.str x)
    | lst h1 h2 => exact tyL (s.seq h1)
    | tup h1 h2 => exact tyT (s.sqt h1)
  | ls h1 h2 h3 => exact .base (.lst h2)
  | dk h1 h2 h3 => exact .base (.dK h2)
  | tp h1 h2 h3 => exact .base (.tup h2)
  | lt h1 h2 h3 => exact .base (.lst h2)
  | ll h1 h2 h3 => exact .base (.lst h2)
def tys : List String := ["NoneType", "bool", "int", "str", "list", "tuple", "dict"]
theorem tyN_in (o : O) : tyN o ∈ tys := by
  cases o with
  | dat d => cases d <;> simp [tyN, tys]
  | ls _ => simp [tyN, tys]
  | dk _ => simp [tyN, tys]
  | tp _ => simp [tyN, tys]
  | lt _ => simp [tyN, tys]
  | ll _ => simp [tyN, tys]
def kitsOk (n : String) : Bool := tys.all fun t => kitB t n == some (isA t n)
theorem kits_at {n : String} (h : kitsOk n = true) (o : O) : kitB (tyN o) n = some (isA (tyN o) n) := by
  have := List.all_eq_true.mp h _ (tyN_in o)
  simpa using this
theorem kits_any : ∀ {ns : List String} (h : ∀ n ∈ ns, kitsOk n = true) (o : O), PySem.W.kitAny K (.type (tyN o)) (ns.map Value.type) = some (ns.any fun n => isA (tyN o) n)
  | [], _, o => rfl
  | n :: ns, h, o => by
    rw [List.map_cons, List.any_cons]
    refine kitAny_cons (kit_ty (kits_at (h n List.mem_cons_self) o)) (fun hb => ?_) fun hb => by rw [hb]; rfl
    rw [hb, Bool.false_or]
    exact kits_any (fun m hm => h m (List.mem_cons_of_mem _ hm)) o
theorem prim_isa {n : String} (h : kitsOk n = true) : Prim1 K (fun x H Q => rIsi K [x, .ty n] H Q) (isaO [n]) := by
  intro G H x a o B Q s ra e k
  cases Option.some.inj e
  refine ⟨x, .ty n, .type (tyN a), .type n, isA (tyN a) n, rfl, .ty n, tyX_of ra s, kit_ty (kits_at h a), ?_⟩
  have e2 : ([n].any fun n => isA (tyN a) n) = isA (tyN a) n := by simp
  rw [e2] at k
  exact Grow.dat s (.bl _) k
theorem cls_paired : ∀ ns : List String, Paired ClsV (ns.map V.ty) (ns.map Value.type)
  | [] => .nil
  | n :: ns => .cons (.ty n) (cls_paired ns)
theorem prim_isaT {ns : List String} (h : ∀ n ∈ ns, kitsOk n = true) (hz : ns.length ≤ sizeLine) : Prim1 K (fun x H Q => (ns.map V.ty).length ≤ sizeLine ∧ ∀ p, H p = none → rIsiT K [x, .ref p] (upd H p (.tup (ns.map V.ty))) Q) (isaO ns) := by
  intro G H x a o B Q s ra e k
  cases Option.some.inj e
  refine ⟨by rw [List.length_map]; exact hz, fun p np => ?_⟩
  have g : Grow G H G (upd H p (.tup (ns.map V.ty))) [] := ⟨⟨Sub.refl _, fun a u z _ => by rw [upd_ne (ne_of_none z np)]; exact z, fun _ z _ _ => z, fun a z => nomatch z⟩, fun a u z => by rw [upd_ne (ne_of_none (s a u z) np)]; exact s a u z, .nil⟩
  have ra' := ra.ext g.ext fun a _ z => nomatch z
  exact ⟨x, p, ns.map V.ty, .type (tyN a), ns.map Value.type, _, rfl, upd_same, cls_paired ns, tyX_of ra' g.sub, kits_any h a, k _ _ _ [] g (.dat (.bl _))⟩
end
section
variable {X : Cx} {R : RK} {e c : Expr} {es : List Expr} {f : PF} {p pos p2 : Pos}
def tTys (ns : List String) : TA := fun _ H Q => Q (ns.map V.ty) H
theorem b_isa {n : String} (hg : Gl X "isinstance") (hm : X.mg "isinstance" = none) (h : PE X e (liftP X.K R f)) (hcl : PE X c (tC (.ty n))) (hk : kitsOk n = true := by decide +kernel) (hs : starEach [e, c] X.env = (false, eval e X.env) :: starEach [c] X.env := by rfl) (hs2 : starEach [c] X.env = (false, eval c X.env) :: starEach [] X.env := by rfl) (hpl : (backTo pos (starEach [c] X.env)).any (·.1) = false := by rfl) :
    PE X (.Call (.Name "isinstance" p) [e, c] [] pos) (liftE X.K R (op1 (isaO [n]) f)) := op1_ok (pe_callB call_isi hg hm (by decide +kernel) (pa_two h hcl hs hs2) (by decide) (by decide) hs hpl) (prim_isa hk)
theorem b_isaT {ns : List String} {x1 : Nat} {tc : TA} (hg : Gl X "isinstance") (hm : X.mg "isinstance" = none) (h : PE X e (liftP X.K R f)) (hcl : PA X es tc) (htc : ∀ σ H Q, Q (ns.map V.ty) H → tc σ H Q := by intro _ _ _ q; exact q) (hk : ∀ n ∈ ns, kitsOk n = true := by decide +kernel) (hz : ns.length ≤ sizeLine := by decide) (hs : starEach [e, .Tuple es x1 p2] X.env = (false, eval e X.env) :: starEach [.Tuple es x1 p2] X.env := by rfl) (hs2 : starEach [.Tuple es x1 p2] X.env = (false, eval (.Tuple es x1 p2) X.env) :: starEach [] X.env := by rfl) (hpl : (backTo pos (starEach [.Tuple es x1 p2] X.env)).any (·.1) = false := by rfl) :
    PE X (.Call (.Name "isinstance" p) [e, .Tuple es x1 p2] [] pos) (liftE X.K R (op1 (isaO ns) f)) := op1_ok (pe_callB call_isiT hg hm (by decide +kernel) (pa_two h (pe_tup (PA.weak hcl (t' := tTys ns) htc)) hs hs2) (by decide) (by decide) hs hpl) (prim_isaT hk hz)
end

/-! ### an item of a list of one's own is stored -/
def setAt (c : O) (ix d : PyData) : Option O := match c, ix with
  | .ls ds, .int k => (ixN ds.length k).map fun j => .ls (ds.set j d)
  | _, _ => none
/-- keys of dicts -/
def keyD : PyData → Option L2.Key
  | .int i => some (.inl i)
  | .str z => some (.inr z)
  | _ => none
def valD (kvs : List (L2.Key × PyData)) (k : L2.Key) : Option PyData := (kvs.find? fun kv => decide (kv.1 = k)).map (·.2)
def putD (kvs : List (L2.Key × PyData)) (k : L2.Key) (v : PyData) : List (L2.Key × PyData) :=
  if (kvs.any fun kv => decide (kv.1 = k)) = true then kvs.map (fun kv => if kv.1 = k then (kv.1, v) else kv) else kvs ++ [(k, v)]
def putAt (c : O) (ix d : PyData) : Option O := match c, keyD ix with
  | .dk kvs, some k => if kvs.length < sizeLine then some (.dk (putD kvs k d)) else none
  | _, _ => none
/-- x[i] = e -/
def stS (i : Nat) (F : O → PyData → PyData → Option O) (ix e : EF) : SF := fun ρ => (shE e ρ).bindS fun d ρ1 => match getS ρ1 i with
  | some _ => (shE ix ρ1).bindS fun j ρ2 => match getS ρ2 i with
    | some c => match F c j d with
      | some c' => .nx (updS i c' ρ2)
      | none => .stuck
    | none => .stuck
  | none => .stuck
def stA (c : O) (ix d : PyData) : Option O := match c with
  | .ls _ => setAt c ix d
  | .dk _ => putAt c ix d
  | _ => none
section
variable {K : PySem.W.Frag} {R : RK} {pins σ : L2.St} {G H G' H' : Hp} {As Bs Cs T : List Addr} {Q : VK} {ρ : En} {X : Cx} {D : Ends}
theorem shS_le {f : EF} (σ : L2.St) (H : Hp) (Q : VK) (h : liftD K R (shE f) σ H Q) : liftE K R f σ H Q := shE_le (α := Nat) (rel2 := RepO K) σ H Q h
theorem dk_inv {a : Addr} {kvs : List (L2.Key × PyData)} {B : List Addr} (r : RepO K G H (.ref a) (.dk kvs) B) : ∃ es, G a = none ∧ H a = some (.dK es) ∧ DKs K G es kvs := by
  cases r with
  | dk h1 h2 h3 => exact ⟨_, h1, h2, h3⟩
theorem dks_val {k : L2.Key} : ∀ {es : List (L2.Key × V)} {kvs : List (L2.Key × PyData)}, DKs K G es kvs → (∀ d, valD kvs k = some d → ∃ v, valV es k = some v ∧ Dp K G v d) ∧ (valD kvs k = none → valV es k = none)
  | [], [], _ => ⟨(fun d h => nomatch h), fun _ => rfl⟩
  | [], _ :: _, h => h.elim
  | _ :: _, [], h => h.elim
  | e :: es, x :: kvs, h => by
    obtain ⟨⟨h1, h2⟩, h3⟩ := h
    obtain ⟨i1, i2⟩ := dks_val (k := k) h3
    by_cases c : x.1 = k
    · have e1 : valD (x :: kvs) k = some x.2 := by simp [valD, List.find?_cons, c]
      have e2 : valV (e :: es) k = some e.2 := valV_pos (h1.trans c)
      rw [e1, e2]
      exact ⟨fun d hd => ⟨e.2, rfl, by rw [← Option.some.inj hd]; exact h2⟩, fun z => nomatch z⟩
    · have e1 : valD (x :: kvs) k = valD kvs k := by simp [valD, List.find?_cons, c]
      have e2 : valV (e :: es) k = valV es k := valV_neg (by rw [h1]; exact c)
      rw [e1, e2]
      exact ⟨i1, i2⟩
theorem dks_any {k : L2.Key} : ∀ {es : List (L2.Key × V)} {kvs : List (L2.Key × PyData)}, DKs K G es kvs → (es.any fun kv => decide (kv.1 = k)) = (kvs.any fun kv => decide (kv.1 = k))
  | [], [], _ => rfl
  | [], _ :: _, h => h.elim
  | _ :: _, [], h => h.elim
  | e :: es, x :: kvs, h => by
    obtain ⟨⟨h1, h2⟩, h3⟩ := h
    rw [List.any_cons, List.any_cons, h1, dks_any h3]
theorem dks_map {k : L2.Key} {v : V} {d : PyData} (q : Dp K G v d) : ∀ {es : List (L2.Key × V)} {kvs : List (L2.Key × PyData)}, DKs K G es kvs → DKs K G (es.map fun kv => if kv.1 = k then (kv.1, v) else kv) (kvs.map fun kv => if kv.1 = k then (kv.1, d) else kv)
  | [], [], _ => trivial
  | [], _ :: _, h => h.elim
  | _ :: _, [], h => h.elim
  | e :: es, x :: kvs, h => by
    obtain ⟨⟨h1, h2⟩, h3⟩ := h
    refine ⟨?_, dks_map q h3⟩
    show (if e.1 = k then (e.1, v) else e).1 = (if x.1 = k then (x.1, d) else x).1 ∧ Dp K G (if e.1 = k then (e.1, v) else e).2 (if x.1 = k then (x.1, d) else x).2
    by_cases c : x.1 = k
    · rw [if_pos (h1.trans c), if_pos c]
      exact ⟨h1, q⟩
    · have c' : ¬ e.1 = k := fun z => c (h1.symm.trans z)
      rw [if_neg c', if_neg c]
      exact ⟨h1, h2⟩
theorem dks_put {k : L2.Key} {v : V} {d : PyData} (q : Dp K G v d) {es : List (L2.Key × V)} {kvs : List (L2.Key × PyData)} (h : DKs K G es kvs) : DKs K G (putK es k v) (putD kvs k d) := by
  unfold putK putD
  rw [dks_any h]
  split
  · exact dks_map q h
  · exact All2.snoc ⟨rfl, q⟩ h
theorem key_dp {v : V} {d : PyData} {k : L2.Key} (h : Dp K G v d) (e : keyD d = some k) : v = kV k := by
  unfold keyD at e
  split at e
  · cases Option.some.inj e; cases h; rfl
  · cases Option.some.inj e; cases h; rfl
  · cases e
theorem s_setL {i : Nat} {ix e : EF} {st : Stmt} (h : PS X st (tAsg (liftE X.K R e) (gSub (tVar i) (liftE X.K R ix) rSetL))) : PS X st (liftS X.K R (stS i setAt ix e)) := by
  refine PS.weak h fun D σ H ⟨pins, G, ρ, As, s, k⟩ => shS_le σ H _ ⟨pins, G, ρ, As, s, ?_⟩
  refine Kont.bindS k fun d ρ1 G1 H1 As1 v Bs e1 nd1 r1 s1 k1 => ?_
  obtain ⟨rfl, dv⟩ := r1
  split at k1
  · rename_i c0 hc0
    obtain ⟨u, hu⟩ := s1.slots.has hc0
    refine ⟨u, hu, shS_le σ H1 _ ⟨pins, G1, ρ1, As1, s1, ?_⟩⟩
    refine Kont.bindS (by simpa using k1) fun j ρ2 G2 H2 As2 y Bs2 e2 nd2 r2 s2 k2 => ?_
    obtain ⟨rfl, dy⟩ := r2
    split at k2
    · rename_i c hc
      split at k2
      · rename_i c' hF
        unfold setAt at hF
        split at hF
        · rename_i ds kx
          obtain ⟨m, hm, rfl⟩ := Option.map_eq_some_iff.mp hF
          obtain ⟨a, w1, w2, w3⟩ := s2.mut hc trivial
          rw [hu] at w1
          cases (Option.some.inj (Option.some.inj w1))
          obtain ⟨vs, g1, h2, d2⟩ := ls_inv w2
          cases dy
          refine ⟨a, vs, kx, m, rfl, rfl, h2, by rw [dps_len d2]; exact hm, ?_⟩
          obtain ⟨Cs, t1, t2⟩ := w3 (.lst (vs.set m v)) (.ls (ds.set m d)) (.ls g1 upd_same (DpAll.set (dp_same e2.sub dv) m d2))
          exact (by simpa using k2 : KontS X.K R pins G2 H2 As2 D (.nx (updS i (.ls (ds.set m d)) ρ2))) σ G2 _ Cs t2 t1
        · cases hF
      · exact k2.elim
    · exact k2.elim
  · exact k1.elim
theorem s_setD {i : Nat} {ix e : EF} {st : Stmt} (h : PS X st (sDPut (tVar i) (liftE X.K R ix) (liftE X.K R e))) : PS X st (liftS X.K R (stS i putAt ix e)) := by
  refine PS.weak h fun D σ H ⟨pins, G, ρ, As, s, k⟩ => shS_le σ H _ ⟨pins, G, ρ, As, s, ?_⟩
  refine Kont.bindS k fun d ρ1 G1 H1 As1 v Bs e1 nd1 r1 s1 k1 => ?_
  obtain ⟨rfl, dv⟩ := r1
  split at k1
  · rename_i c0 hc0
    obtain ⟨u, hu⟩ := s1.slots.has hc0
    refine ⟨u, hu, shS_le σ H1 _ ⟨pins, G1, ρ1, As1, s1, ?_⟩⟩
    refine Kont.bindS (by simpa using k1) fun j ρ2 G2 H2 As2 y Bs2 e2 nd2 r2 s2 k2 => ?_
    obtain ⟨rfl, dy⟩ := r2
    split at k2
    · rename_i c hc
      split at k2
      · rename_i c' hF
        unfold putAt at hF
        split at hF
        · rename_i kvs kk hk
          split at hF
          · rename_i hz
            cases Option.some.inj hF
            obtain ⟨a, w1, w2, w3⟩ := s2.mut hc trivial
            rw [hu] at w1
            cases (Option.some.inj (Option.some.inj w1))
            obtain ⟨es, g1, h2, d2⟩ := dk_inv w2
            have ey := key_dp dy hk
            subst ey
            refine ⟨a, _, rfl, DPut.k h2 (by rw [All2.len d2]; exact hz), ?_⟩
            obtain ⟨Cs, t1, t2⟩ := w3 (.dK (putK es kk v)) (.dk (putD kvs kk d)) (.dk g1 upd_same (dks_put (dp_same e2.sub dv) d2))
            exact (by simpa using k2 : KontS X.K R pins G2 H2 As2 D (.nx (updS i (.dk (putD kvs kk d)) ρ2))) σ G2 _ Cs t2 t1
          · cases hF
        · cases hF
      · exact k2.elim
    · exact k2.elim
  · exact k1.elim
theorem lift_orS {st : Stmt} {f f1 f2 : SF} (h1 : PS X st (liftS X.K R f1)) (h2 : PS X st (liftS X.K R f2)) (h : ∀ ρ, f ρ = f1 ρ ∨ f ρ = f2 ρ) : PS X st (liftS X.K R f) := by
  refine ⟨fun pins s σ H D I ⟨pn, G, ρ, As, st, k⟩ => ?_⟩
  rcases h ρ with q | q
  · exact h1.run pins s σ H D I ⟨pn, G, ρ, As, st, by rw [← q]; exact k⟩
  · exact h2.run pins s σ H D I ⟨pn, G, ρ, As, st, by rw [← q]; exact k⟩
theorem stA_or {i : Nat} {ix e : EF} (ρ : En) : stS i stA ix e ρ = stS i setAt ix e ρ ∨ stS i stA ix e ρ = stS i putAt ix e ρ := by
  unfold stS
  cases shE e ρ with
  | er c o ρ => exact .inl rfl
  | stuck => exact .inl rfl
  | ok d ρ1 =>
    show (match getS ρ1 i with | some _ => _ | none => _) = (match getS ρ1 i with | some _ => _ | none => _) ∨ (match getS ρ1 i with | some _ => _ | none => _) = (match getS ρ1 i with | some _ => _ | none => _)
    cases getS ρ1 i with
    | none => exact .inl rfl
    | some c0 =>
      show ((shE ix ρ1).bindS _) = ((shE ix ρ1).bindS _) ∨ ((shE ix ρ1).bindS _) = ((shE ix ρ1).bindS _)
      cases shE ix ρ1 with
      | er c o ρ => exact .inl rfl
      | stuck => exact .inl rfl
      | ok j ρ2 =>
        show (match getS ρ2 i with | some c => _ | none => _) = (match getS ρ2 i with | some c => _ | none => _) ∨ (match getS ρ2 i with | some c => _ | none => _) = (match getS ρ2 i with | some c => _ | none => _)
        cases getS ρ2 i with
        | none => exact .inl rfl
        | some c =>
          cases c with
          | dat d => exact .inl rfl
          | ls ds => exact .inl rfl
          | dk kvs => exact .inr rfl
          | tp es => exact .inl rfl
          | lt es => exact .inl rfl
          | ll es => exact .inl rfl
theorem s_store {i : Nat} {ix e : EF} {st : Stmt} (h : PS X st (tAsg (liftE X.K R e) (gSub (tVar i) (liftE X.K R ix) rSetL))) (h' : PS X st (sDPut (tVar i) (liftE X.K R ix) (liftE X.K R e))) : PS X st (liftS X.K R (stS i stA ix e)) := lift_orS (s_setL h) (s_setD h') stA_or
end
end Vs

namespace Vs
open PySem PySem.Spec PyProof.Rows L2 Ww

/-! ### dicts of one's own, in a slot -/
def dkOf (o : Option O) : Option (List (L2.Key × PyData)) := match o with
  | some (.dk kvs) => some kvs
  | _ => none
/-- looked up: its key among the pairs -/
def look (o : Option O) (d : PyData) : Option (Option PyData) := match dkOf o, keyD d with
  | some kvs, some k => some (valD kvs k)
  | _, _ => none
def dIx (i : Nat) (f : EF) : EF := fun ρ => if isD (getS ρ i) = true then (shE f ρ).bind fun d ρ1 => match look (getS ρ1 i) d with
  | some (some v) => .ok (.dat v) ρ1
  | _ => .stuck else .stuck
def dGet1 (i : Nat) (f : EF) : EF := fun ρ => if isD (getS ρ i) = true then (shE f ρ).bind fun d ρ1 => match look (getS ρ1 i) d with
  | some v => .ok (.dat (v.getD .none)) ρ1
  | _ => .stuck else .stuck
def dGet2 (i : Nat) (f g : EF) : EF := fun ρ => if isD (getS ρ i) = true then (shE f ρ).bind fun d ρ1 => (shE g ρ1).bind fun e ρ2 => match look (getS ρ2 i) d with
  | some v => .ok (.dat (v.getD e)) ρ2
  | _ => .stuck else .stuck
def dIn (i : Nat) (f : EF) : EF := fun ρ => (shE f ρ).bind fun d ρ1 => match look (getS ρ1 i) d with
  | some v => .ok (.dat (.bool v.isSome)) ρ1
  | _ => .stuck
def dNin (i : Nat) (f : EF) : EF := fun ρ => (shE f ρ).bind fun d ρ1 => match look (getS ρ1 i) d with
  | some v => .ok (.dat (.bool (!v.isSome))) ρ1
  | _ => .stuck
def dSetd (i : Nat) (f g : EF) : EF := fun ρ => if isD (getS ρ i) = true then (shE f ρ).bind fun d ρ1 => (shE g ρ1).bind fun e ρ2 => match dkOf (getS ρ2 i), keyD d with
  | some kvs, some k => if kvs.length < sizeLine then (match valD kvs k with
    | some v => .ok (.dat v) ρ2
    | none => .ok (.dat e) (updS i (.dk (putD kvs k e)) ρ2)) else .stuck
  | _, _ => .stuck else .stuck
def newD : EF := fun ρ => .ok (.dk []) ρ
section
variable {K : PySem.W.Frag} {R : RK} {pins σ : L2.St} {G H G' H' : Hp} {As Bs Cs T : List Addr} {Q : VK} {ρ : En} {X : Cx}
theorem dkOf_eq {o : Option O} {kvs : List (L2.Key × PyData)} (h : dkOf o = some kvs) : o = some (.dk kvs) := by
  unfold dkOf at h
  split at h
  · cases Option.some.inj h; rfl
  · cases h
theorem isD_of {o : Option O} (h : Vs.isD o = true) : ∃ kvs, o = some (.dk kvs) := by
  unfold Vs.isD at h
  split at h
  · exact ⟨_, rfl⟩
  · cases h
theorem dk_at {i : Nat} {kvs : List (L2.Key × PyData)} (s : Ste K pins G H σ ρ As) (h : getS ρ i = some (.dk kvs)) : ∃ a es, σ[i]? = some (some (.ref a)) ∧ H a = some (.dK es) ∧ DKs K G es kvs := by
  obtain ⟨v, hv⟩ := s.slots.has h
  obtain ⟨B, r, _⟩ := s.slots.at hv h
  cases r with
  | dk h1 h2 h3 => exact ⟨_, _, hv, h2, h3⟩
theorem look_at {i : Nat} {d : PyData} {y : V} {w : Option PyData} (s : Ste K pins G H σ ρ As) (h : look (getS ρ i) d = some w) (dy : Dp K G y d) : ∃ a o, σ[i]? = some (some (.ref a)) ∧ DGet H a y o ∧ (∀ v, w = some v → ∃ u, o = some u ∧ Dp K G u v) ∧ (w = none → o = none) := by
  unfold look at h
  split at h
  · rename_i kvs k hk1 hk2
    cases (Option.some.inj h : valD kvs k = w)
    obtain ⟨a, es, h1, h2, h3⟩ := dk_at s (dkOf_eq hk1)
    have ey := key_dp dy hk2
    subst ey
    obtain ⟨i1, i2⟩ := dks_val (k := k) h3
    exact ⟨a, _, h1, DGet.k h2, i1, i2⟩
  · cases h
theorem d_slot {i : Nat} {a b : Addr} (h1 : σ[i]? = some (some (.ref a))) (h2 : σ[i]? = some (some (.ref b))) : a = b := by
  rw [h1] at h2
  cases h2
  rfl
theorem dIx_le {i : Nat} {f : EF} (σ : L2.St) (H : Hp) (Q : VK) (h : liftE K R (dIx i f) σ H Q) : tDGet (tVar i) (liftE K R f) σ H Q := by
  obtain ⟨pins, G, ρ, As, s, k⟩ := h
  have k : KontE K R pins σ G H As Q (if Vs.isD (getS ρ i) = true then (shE f ρ).bind fun d ρ1 => match look (getS ρ1 i) d with
    | some (some v) => .ok (.dat v) ρ1
    | _ => .stuck else .stuck) := k
  split at k
  · rename_i hd
    obtain ⟨kvs, e0⟩ := isD_of hd
    obtain ⟨a, es, h1, _, _⟩ := dk_at s e0
    refine ⟨_, h1, shS_le σ H _ ⟨pins, G, ρ, As, s, ?_⟩⟩
    refine Kont.bind (T := []) (Q := Q) s.nd (fun a z => nomatch z) k fun d ρ1 G1 H1 As1 y Bs e1 nd1 r1 s1 k1 => ?_
    obtain ⟨rfl, dy⟩ := r1
    split at k1
    · rename_i v hl
      obtain ⟨b, o, h3, h4, h5, _⟩ := look_at s1 hl dy
      cases d_slot h1 h3
      obtain ⟨u, rfl, du⟩ := h5 v rfl
      exact ⟨a, u, rfl, h4, Kont.now k1 s1 (Bs := []) (fun a z => by simpa using z) s1.nd (.dat du)⟩
    · exact k1.elim
  · exact k.elim
theorem dGet1_le {i : Nat} {f : EF} (σ : L2.St) (H : Hp) (Q : VK) (h : liftE K R (dGet1 i f) σ H Q) : tDGet1 (tVar i) (liftE K R f) σ H Q := by
  obtain ⟨pins, G, ρ, As, s, k⟩ := h
  have k : KontE K R pins σ G H As Q (if Vs.isD (getS ρ i) = true then (shE f ρ).bind fun d ρ1 => match look (getS ρ1 i) d with
    | some v => .ok (.dat (v.getD .none)) ρ1
    | _ => .stuck else .stuck) := k
  split at k
  · rename_i hd
    obtain ⟨kvs, e0⟩ := isD_of hd
    obtain ⟨a, es, h1, h2, _⟩ := dk_at s e0
    refine ⟨_, h1, a, rfl, .inl ⟨es, .inl h2⟩, shS_le σ H _ ⟨pins, G, ρ, As, s, ?_⟩⟩
    refine Kont.bind (T := []) (Q := Q) s.nd (fun a z => nomatch z) k fun d ρ1 G1 H1 As1 y Bs e1 nd1 r1 s1 k1 => ?_
    obtain ⟨rfl, dy⟩ := r1
    split at k1
    · rename_i w hl
      obtain ⟨b, o, h3, h4, h5, h6⟩ := look_at s1 hl dy
      cases d_slot h1 h3
      refine ⟨o, h4, Kont.now k1 s1 (Bs := []) (fun a z => by simpa using z) s1.nd (.dat ?_)⟩
      cases w with
      | none => rw [h6 rfl]; exact .non
      | some v => obtain ⟨u, rfl, du⟩ := h5 v rfl; exact du
    · exact k1.elim
  · exact k.elim
theorem dGet2_le {i : Nat} {f g : EF} (σ : L2.St) (H : Hp) (Q : VK) (h : liftE K R (dGet2 i f g) σ H Q) : tDGet2 (tVar i) (liftE K R f) (liftE K R g) σ H Q := by
  obtain ⟨pins, G, ρ, As, s, k⟩ := h
  have k : KontE K R pins σ G H As Q (if Vs.isD (getS ρ i) = true then (shE f ρ).bind fun d ρ1 => (shE g ρ1).bind fun e ρ2 => match look (getS ρ2 i) d with
    | some v => .ok (.dat (v.getD e)) ρ2
    | _ => .stuck else .stuck) := k
  split at k
  · rename_i hd
    obtain ⟨kvs, e0⟩ := isD_of hd
    obtain ⟨a, es, h1, h2, _⟩ := dk_at s e0
    refine ⟨_, h1, a, rfl, .inl ⟨es, .inl h2⟩, shS_le σ H _ ⟨pins, G, ρ, As, s, ?_⟩⟩
    refine Kont.bind (T := []) (Q := Q) s.nd (fun a z => nomatch z) k fun d ρ1 G1 H1 As1 y Bs e1 nd1 r1 s1 k1 => shS_le σ H1 _ ⟨pins, G1, ρ1, As1, s1, ?_⟩
    obtain ⟨rfl, dy⟩ := r1
    refine Kont.bind (T := []) (Q := Q) s1.nd (fun a z => nomatch z) (by simpa using k1) fun e ρ2 G2 H2 As2 z Bs2 e2 nd2 r2 s2 k2 => ?_
    obtain ⟨rfl, dz⟩ := r2
    split at k2
    · rename_i w hl
      obtain ⟨b, o, h3, h4, h5, h6⟩ := look_at s2 hl (dp_same e2.sub dy)
      cases d_slot h1 h3
      refine ⟨o, h4, Kont.now k2 s2 (Bs := []) (fun a z => by simpa using z) s2.nd (.dat ?_)⟩
      cases w with
      | none => rw [h6 rfl]; exact dz
      | some v => obtain ⟨u, rfl, du⟩ := h5 v rfl; exact du
    · exact k2.elim
  · exact k.elim
theorem dIn_le {i : Nat} {f : EF} (σ : L2.St) (H : Hp) (Q : VK) (h : liftE K R (dIn i f) σ H Q) : tDIn (liftE K R f) (tVar i) σ H Q := by
  obtain ⟨pins, G, ρ, As, s, k⟩ := h
  refine shS_le σ H _ ⟨pins, G, ρ, As, s, ?_⟩
  refine Kont.bind (T := []) (Q := Q) s.nd (fun a z => nomatch z) k fun d ρ1 G1 H1 As1 y Bs e1 nd1 r1 s1 k1 => ?_
  obtain ⟨rfl, dy⟩ := r1
  split at k1
  · rename_i w hl
    obtain ⟨a, o, h3, h4, h5, h6⟩ := look_at s1 hl dy
    have e : o.isSome = w.isSome := by
      cases w with
      | none => rw [h6 rfl]; rfl
      | some v => obtain ⟨u, rfl, _⟩ := h5 v rfl; rfl
    exact ⟨_, h3, a, o, rfl, h4, by rw [e]; exact Kont.now k1 s1 (Bs := []) (fun a z => by simpa using z) s1.nd (.dat (.bl _))⟩
  · exact k1.elim
theorem dNin_le {i : Nat} {f : EF} (σ : L2.St) (H : Hp) (Q : VK) (h : liftE K R (dNin i f) σ H Q) : tDNotIn (liftE K R f) (tVar i) σ H Q := by
  obtain ⟨pins, G, ρ, As, s, k⟩ := h
  refine shS_le σ H _ ⟨pins, G, ρ, As, s, ?_⟩
  refine Kont.bind (T := []) (Q := Q) s.nd (fun a z => nomatch z) k fun d ρ1 G1 H1 As1 y Bs e1 nd1 r1 s1 k1 => ?_
  obtain ⟨rfl, dy⟩ := r1
  split at k1
  · rename_i w hl
    obtain ⟨a, o, h3, h4, h5, h6⟩ := look_at s1 hl dy
    have e : o.isSome = w.isSome := by
      cases w with
      | none => rw [h6 rfl]; rfl
      | some v => obtain ⟨u, rfl, _⟩ := h5 v rfl; rfl
    exact ⟨_, h3, a, o, rfl, h4, by rw [e]; exact Kont.now k1 s1 (Bs := []) (fun a z => by simpa using z) s1.nd (.dat (.bl _))⟩
  · exact k1.elim
theorem dSetd_le {i : Nat} {f g : EF} (σ : L2.St) (H : Hp) (Q : VK) (h : liftE K R (dSetd i f g) σ H Q) : tDSetd (tVar i) (liftE K R f) (liftE K R g) σ H Q := by
  obtain ⟨pins, G, ρ, As, s, k⟩ := h
  have k : KontE K R pins σ G H As Q (if Vs.isD (getS ρ i) = true then (shE f ρ).bind fun d ρ1 => (shE g ρ1).bind fun e ρ2 => match dkOf (getS ρ2 i), keyD d with
    | some kvs, some k => if kvs.length < sizeLine then (match valD kvs k with
      | some v => .ok (.dat v) ρ2
      | none => .ok (.dat e) (updS i (.dk (putD kvs k e)) ρ2)) else .stuck
    | _, _ => .stuck else .stuck) := k
  split at k
  · rename_i hd
    obtain ⟨kvs, e0⟩ := isD_of hd
    obtain ⟨a, es, h1, h2, _⟩ := dk_at s e0
    refine ⟨_, h1, a, rfl, .inl ⟨es, .inl h2⟩, shS_le σ H _ ⟨pins, G, ρ, As, s, ?_⟩⟩
    refine Kont.bind (T := []) (Q := Q) s.nd (fun a z => nomatch z) k fun d ρ1 G1 H1 As1 y Bs e1 nd1 r1 s1 k1 => shS_le σ H1 _ ⟨pins, G1, ρ1, As1, s1, ?_⟩
    obtain ⟨rfl, dy⟩ := r1
    refine Kont.bind (T := []) (Q := Q) s1.nd (fun a z => nomatch z) (by simpa using k1) fun e ρ2 G2 H2 As2 z Bs2 e2 nd2 r2 s2 k2 => ?_
    obtain ⟨rfl, dz⟩ := r2
    split at k2
    · rename_i kvs2 kk hk1 hk2
      split at k2
      · rename_i hz
        obtain ⟨b, es2, h3, h4, h5⟩ := dk_at s2 (dkOf_eq hk1)
        cases d_slot h1 h3
        have ey := key_dp (dp_same e2.sub dy) hk2
        subst ey
        obtain ⟨i1, i2⟩ := dks_val (k := kk) h5
        refine ⟨es2, kk, h4, rfl, by rw [All2.len h5]; exact hz, fun v hv => ?_, fun hn => ?_⟩
        · split at k2
          · rename_i w hw
            obtain ⟨u, e3, du⟩ := i1 w hw
            rw [hv] at e3
            cases Option.some.inj e3
            exact Kont.now k2 s2 (Bs := []) (fun a z => by simpa using z) s2.nd (.dat du)
          · rename_i hw
            rw [i2 hw] at hv
            cases hv
        · split at k2
          · rename_i w hw
            obtain ⟨u, e3, du⟩ := i1 w hw
            rw [hn] at e3
            cases e3
          · obtain ⟨a', w1, w2, w3⟩ := s2.mut (dkOf_eq hk1) trivial
            cases d_slot h1 w1
            obtain ⟨es', g1, g2, g3⟩ := dk_inv w2
            rw [h4] at g2
            cases g2
            obtain ⟨Cs, t1, t2⟩ := w3 (.dK (putK es2 kk z)) (.dk (putD kvs2 kk e)) (.dk g1 upd_same (dks_put dz h5))
            exact k2 G2 _ Cs z [] (by simpa using t2) t1.nd (.dat dz) t1
      · exact k2.elim
    · exact k2.elim
  · exact k.elim
theorem newD_le (σ : L2.St) (H : Hp) (Q : VK) (h : liftE K R newD σ H Q) : tDNewK σ H Q := by
  obtain ⟨pins, G, ρ, As, s, k⟩ := h
  exact fun p np => KontE.grow s (T := []) k (grow_new s.sub np) (grow_dk s.sub np trivial)
end
/-- x[k], x in a slot: a list, a tuple, a text, a dict -/
def ixS (i : Nat) (f : EF) : EF := fun ρ => if Vs.isD (getS ρ i) = true then dIx i f ρ else op2 ixO (slotF i) (tmpF f) ρ
def inS (i : Nat) (f : EF) : EF := fun ρ => if Vs.isD (getS ρ i) = true then dIn i f ρ else op2 inO (tmpF f) (slotF i) ρ
def ninS (i : Nat) (f : EF) : EF := fun ρ => if Vs.isD (getS ρ i) = true then dNin i f ρ else op2 ninO (tmpF f) (slotF i) ρ
section
variable {X : Cx} {R : RK} {e e1 e2 o : Expr} {f g : EF} {pos : Pos} {i : Nat}
theorem pf_ixS (hu : X.A.units + 1 < cLine) (ho : PE X o (tVar i)) (he : PE X e (liftE X.K R f)) (hs : PlainIx e := by intro _ _; rfl) (hn : NoSl e := by intro _ _; rfl) : PE X (.Subscript o e pos) (liftE X.K R (ixS i f)) := by
  refine lift_or (f1 := dIx i f) (f2 := op2 ixO (slotF i) (tmpF f)) (PE.weak (pe_dget hu ho he hn) dIx_le) (pf_ix (slot_ok ho) (tmp_ok he) hs) fun ρ => ?_
  unfold ixS
  split
  · exact .inl rfl
  · exact .inr rfl
theorem pf_inS (hu : X.A.units + 64 < cLine) (ho : PE X o (tVar i)) (he : PE X e (liftE X.K R f)) (hm : behindInMarks .In o = false := by rfl) : PE X (.Compare e [.In] [o] pos) (liftE X.K R (inS i f)) := by
  refine lift_or (f1 := dIn i f) (f2 := op2 inO (tmpF f) (slotF i)) (PE.weak (pe_cmp (pc_din (by omega) he ho) hm) dIn_le) (pf_in hu (tmp_ok he) (slot_ok ho) hm) fun ρ => ?_
  unfold inS
  split
  · exact .inl rfl
  · exact .inr rfl
theorem pf_ninS (hu : X.A.units + 64 < cLine) (ho : PE X o (tVar i)) (he : PE X e (liftE X.K R f)) (hm : behindInMarks .NotIn o = false := by rfl) : PE X (.Compare e [.NotIn] [o] pos) (liftE X.K R (ninS i f)) := by
  refine lift_or (f1 := dNin i f) (f2 := op2 ninO (tmpF f) (slotF i)) (PE.weak (pe_cmp (pc_dnotin (by omega) he ho) hm) dNin_le) (pf_nin hu (tmp_ok he) (slot_ok ho) hm) fun ρ => ?_
  unfold ninS
  split
  · exact .inl rfl
  · exact .inr rfl
theorem pf_newD : PE X (.Dict [] [] pos) (liftE X.K R newD) := PE.weak pe_dnewK newD_le
theorem m_get1 {apos cpos : Pos} (hu : X.A.units + 1 < cLine) (ho : PE X o (tVar i)) (he : PE X e (liftE X.K R f)) (m : M1 X o "get" apos e cpos) : PE X (.Call (.Attribute o "get" apos) [e] [] cpos) (liftE X.K R (dGet1 i f)) := PE.weak (pe_dget1 hu ho he m) dGet1_le
theorem m_get2 {apos cpos : Pos} (hu : X.A.units + 1 < cLine) (ho : PE X o (tVar i)) (he : PE X e1 (liftE X.K R f)) (hf : PE X e2 (liftE X.K R g)) (m : M2 X o "get" apos e1 e2 cpos) : PE X (.Call (.Attribute o "get" apos) [e1, e2] [] cpos) (liftE X.K R (dGet2 i f g)) := PE.weak (pe_dget2 hu ho he hf m) dGet2_le
theorem m_setd {apos cpos : Pos} (ho : PE X o (tVar i)) (he : PE X e1 (liftE X.K R f)) (hf : PE X e2 (liftE X.K R g)) (m : M2 X o "setdefault" apos e1 e2 cpos) : PE X (.Call (.Attribute o "setdefault" apos) [e1, e2] [] cpos) (liftE X.K R (dSetd i f g)) := PE.weak (pe_dsetd ho he hf m) dSetd_le
end
end Vs

namespace Vs
open PySem PySem.Spec PyProof.Rows L2 Ww

/-- no class of an exception is known -/
def cl0 : Str → Option Addr := fun _ => none
section
variable {K : PySem.W.Frag} {R : RK} {X : Cx}
theorem spF_len {cl : Str → Option Addr} {np n : Nat} {body : SF} {vs : List V} {H : Hp} {Q : VK} {E : XK} (h : spF K cl (defF np n body) vs H Q E) : vs.length = np := by
  obtain ⟨G, os, As, r, nd, sub, k⟩ := h
  unfold defF at k
  by_cases hl : os.length = np
  · exact (RepOs.len r).trans hl
  · rw [if_neg hl] at k
    exact k.elim
theorem def0 {vs : List V} {np n : Nat} {body : SF} {E : XK} {N : List Str} {H : Hp} {Q : VK} (hN : N.length = n) (h : spF K cl0 (defF np n body) vs H Q E) (hnp : np ≤ n) :
    liftS K R0 body { nx := fun _ H' => Q .non H', rt := Q } (L2.start N vs) H := def_ok hN h hnp fun _ _ _ _ ⟨_, z, _⟩ => nomatch z
theorem spF_none {vs : List V} {H : Hp} {Q : VK} {E : XK} {cl : Str → Option Addr} (h : spF K cl (fun _ => .stuck) vs H Q E) : False := by
  obtain ⟨G, os, As, r, nd, sub, k⟩ := h
  exact k
theorem PTs.weak {ifs : List Expr} {t t' : TT} (h : PTs X ifs t) (k : ∀ σ H Q, t' σ H Q → t σ H Q) : PTs X ifs t' := ⟨fun pins s σ H Q I q => h.run pins s σ H Q I (k σ H Q q)⟩
theorem ts_yes : PTs X [] (liftT X.K R yesT) := PTs.weak pts_nil fun σ H Q ⟨pins, G, ρ, As, s, k⟩ => Kont.now k s (Bs := []) (fun a z => z) s.nd ⟨rfl, rfl⟩
theorem ts_one {c : Expr} {f : TF} (h : PT X c (liftT X.K R f)) : PTs X [c] (liftT X.K R f) := pts_one h
variable {elt tg iter : Expr} {ifs : List Expr} {scope : Scope} {own : List (Str × Nat)} {pos : Pos}
theorem pf_lc (it : IF) (t : Tg) (c : TF) (e : EF) (hc : X.calm = true) (hN : X.N.Nodup) (hi : PI X tg iter (liftI X.K R it)) (ok : BlkOk X.N X.env.scope scope own)
    (hg : ∀ (s : Shared) (H : Hp) (C : Addr) (cl : List (Str × Addr)) (fp : List Addr), PG (X.blk s H scope (compEnvC scope cl C X.env) fp) tg (liftG X.K t)) (ht : ∀ (s : Shared) (H : Hp) (C : Addr) (cl : List (Str × Addr)) (fp : List Addr), PTs (X.blk s H scope (compEnvC scope cl C X.env) fp) ifs (liftT X.K R0 c))
    (he : ∀ (s : Shared) (H : Hp) (C : Addr) (cl : List (Str × Addr)) (fp : List Addr), PE (X.blk s H scope (compEnvC scope cl C X.env) fp) elt (liftE X.K R0 e)) (hws : ∀ i ∈ t.ws, i ∈ own.map (·.2)) (hs : ∀ x, foldedSetIterable iter X.env x = pure x := by intro _; rfl) :
    PE X (.ListComp elt [⟨tg, iter, ifs, 0⟩] scope pos) (liftE X.K R (lcF it t c e (own.map (·.2)))) := PE.weak (pe_lc hc hN hi ok hg ht he hs) (lc_le hws)
theorem s_setLc (it : IF) (t : Tg) (c : TF) (e : EF) {i : Nat} {y : Str} {py spos : Pos} (hc : X.calm = true) (hN : X.N.Nodup) (hy : X.N[i]? = some y) (hyl : X.env.scope.names.lookup y = some .local) (hsw : swapsWith (.ListComp elt [⟨tg, iter, ifs, 0⟩] scope pos) (some (.Name y py)) spos.line X.env = pure true) (hi : PI X tg iter (liftI X.K R it)) (ok : BlkOk X.N X.env.scope scope own)
    (hg : ∀ (s : Shared) (H : Hp) (C : Addr) (cl : List (Str × Addr)) (fp : List Addr), PG (X.blk s H scope (compEnvC scope cl C X.env) fp) tg (liftG X.K t)) (ht : ∀ (s : Shared) (H : Hp) (C : Addr) (cl : List (Str × Addr)) (fp : List Addr), PTs (X.blk s H scope (compEnvC scope cl C X.env) fp) ifs (liftT X.K R0 c))
    (he : ∀ (s : Shared) (H : Hp) (C : Addr) (cl : List (Str × Addr)) (fp : List Addr), PE (X.blk s H scope (compEnvC scope cl C X.env) fp) elt (liftE X.K R0 e)) (hws : ∀ i ∈ t.ws, i ∈ own.map (·.2)) (hs : ∀ x, foldedSetIterable iter X.env x = pure x := by intro _; rfl) :
    PS X (.Assign [.Name y py] (.ListComp elt [⟨tg, iter, ifs, 0⟩] scope pos) spos) (liftS X.K R (setS i (lcF it t c e (own.map (·.2))))) := by
  refine s_set (i := i) (PS.weak (ps_setLc hc hN hy hyl hsw hi ok hg ht he hs) fun D σ H q => ?_)
  exact lc_le hws σ H (fun x H1 => gName i x σ H1 D.nx) q
end

/-! ### methods of lists, in a slot -/
section
variable {X : Cx} {R : RK} {e e1 e2 o : Expr} {f g : EF} {pos apos cpos : Pos} {i : Nat}
theorem m_append (h : PE X o (tBM X.K "list" rAppend (tVar i) (tCons (liftE X.K R f) tNil))) : PE X o (liftE X.K R (mm1 i appO f)) := PE.weak h (mm1_le mut_append)
theorem m_pop (h : PE X o (tBM0 X.K "list" rPop (tVar i))) : PE X o (liftE X.K R (mm0 i popO)) := PE.weak h (mm0_le mut_pop)
theorem m_popAt (h : PE X o (tBM X.K "list" rPopAt (tVar i) (tCons (liftE X.K R f) tNil))) : PE X o (liftE X.K R (mm1 i popAtO f)) := PE.weak h (mm1_le mut_popAt)
theorem m_clear (h : PE X o (tBM0 X.K "list" rClear (tVar i))) : PE X o (liftE X.K R (mm0 i clearO)) := PE.weak h (mm0_le mut_clear)
theorem m_reverse (h : PE X o (tBM0 X.K "list" rReverse (tVar i))) : PE X o (liftE X.K R (mm0 i revO)) := PE.weak h (mm0_le mut_rev)
end
/-! insert, extend -/
def insO : O → PyData → PyData → Ch
  | .ls ds, .int i, d => if ds.length < sizeLine ∧ 0 ≤ i ∧ i < 2 ^ 63 then some (.ls (ds.take i.toNat ++ [d] ++ ds.drop i.toNat), .none) else none
  | _, _, _ => none
abbrev rInsert : V → List V → Hp → VK → Prop := fun x vs H Q => ∃ (l : Addr) (xs : List V) (i : Int) (y : V), x = .ref l ∧ vs = [.int i, y] ∧ H l = some (.lst xs) ∧ xs.length < sizeLine ∧ 0 ≤ i ∧ i < 2 ^ 63 ∧
    Q .non (upd H l (.lst (xs.take i.toNat ++ [y] ++ xs.drop i.toNat)))
section
variable {K : PySem.W.Frag}
theorem mut_insert : Mut2 K rInsert insO := by
  intro G H a x y o o' e f d Q s h
  cases o with
  | ls ds =>
    cases e with
    | int i =>
      have h : (if ds.length < sizeLine ∧ 0 ≤ i ∧ i < 2 ^ 63 then some (O.ls (ds.take i.toNat ++ [f] ++ ds.drop i.toNat), PyData.none) else none) = some (o', d) := h
      split at h
      · rename_i hz
        cases Option.some.inj h
        refine ⟨trivial, fun r dx dy k => ?_⟩
        obtain ⟨vs, h1, h2, h3⟩ := ls_inv r
        cases dx
        exact ⟨a, vs, i, y, rfl, rfl, h2, by rw [dps_len h3]; exact hz.1, hz.2.1, hz.2.2, k _ _ (.ls h1 upd_same (DpAll.app (DpAll.app (DpAll.take _ h3) (.cons dy .nil)) (DpAll.drop _ h3))) .non⟩
      · cases h
    | _ => cases h
  | _ => cases h
theorem m_insert {X : Cx} {R : RK} {o : Expr} {f g : EF} {i : Nat} (h : PE X o (tBM X.K "list" rInsert (tVar i) (tCons (liftE X.K R f) (tCons (liftE X.K R g) tNil)))) : PE X o (liftE X.K R (mm2 i insO f g)) := PE.weak h (mm2_le mut_insert)
end
/-! ### list.index, list.count on what is read -/
def idxO (a b : O) : Option O := match a.lv, b.dv with
    | some ds, some d => if SeqAt.shaped (.list ds) = true ∧ SeqAt.shaped d = true then (ds.findIdx? fun z => PyData.eqv z d).map fun j => .dat (.int ((j : Nat) : Int)) else none
    | _, _ => none
def isLst (o : O) : Bool := o.lv.isSome
section
variable {K : PySem.W.Frag} {G H : Hp}
theorem findIdx?_at {α : Type} {p : α → Bool} : ∀ {ds : List α} {j : Nat}, ds.findIdx? p = some j → ∃ z, ds[j]? = some z ∧ p z = true ∧ ∀ (m : Nat) z', m < j → ds[m]? = some z' → p z' = false := by
  intro ds j h
  rw [List.findIdx?_eq_some_iff_getElem] at h
  obtain ⟨h1, h2, h3⟩ := h
  refine ⟨ds[j], List.getElem?_eq_getElem h1, h2, fun m z' hm hz => ?_⟩
  obtain ⟨hl, e⟩ := List.getElem?_eq_some_iff.mp hz
  rw [← e]
  simpa using h3 m hm
theorem prim_index : Prim2 K (fun x y H Q => rIndexD K x [y] H Q) idxO := by
  intro G H x y a b o B C Q s ra rb h k
  unfold idxO at h
  cases hl : a.lv with
  | none => rw [hl] at h; cases h
  | some ds =>
    cases hd : b.dv with
    | none => rw [hl, hd] at h; cases h
    | some d =>
      rw [hl, hd] at h
      have h : (if SeqAt.shaped (.list ds) = true ∧ SeqAt.shaped d = true then (ds.findIdx? fun z => PyData.eqv z d).map fun j => O.dat (.int ((j : Nat) : Int)) else none) = some o := h
      split at h
      · rename_i hz
        obtain ⟨j, hj, rfl⟩ := Option.map_eq_some_iff.mp h
        obtain ⟨z, w1, w2, w3⟩ := findIdx?_at hj
        obtain ⟨p, vs, rfl, hp, dp⟩ := ra.lv s hl
        exact ⟨p, y, d, ds, j, z, rfl, rfl, .lst hp (dps_same s dp), rb.dp s hd, hz.1, hz.2, w1, w2, w3, Grow.dat s (.int _) k⟩
      · cases h
theorem isLst_of {v : V} {a : O} {B : List Addr} {G H : Hp} (s : Sub G H) (r : RepO K G H v a B) (h : isLst a = true) : tyV K "list" v H := by
  obtain ⟨ds, hd⟩ := Option.isSome_iff_exists.mp h
  obtain ⟨p, vs, rfl, hp, _⟩ := r.lv s hd
  exact .inl ⟨rfl, vs, hp⟩
end
section
variable {K : PySem.W.Frag} {R : RK} {pins σ : L2.St} {G H G' H' : Hp} {As Bs Cs T : List Addr} {Q : VK}
/-- as op2c_le, what is seen of the first operand hangs on the heap -/
theorem op2h_le {f g : PF} {r : R2} {c : O → Bool} {C : V → Hp → Prop} {F : O → O → Option O} (hc : ∀ G H v a B, Sub G H → RepO K G H v a B → c a = true → C v H) (p : Prim2 K r F) (σ : L2.St) (H : Hp) (Q : VK) (h : liftE K R (op2c c F f g) σ H Q) : liftP K R f σ H fun x H1 => C x H1 ∧ liftP K R g σ H1 fun y H2 => r x y H2 Q := by
  obtain ⟨pins, G, ρ, As, s, k⟩ := h
  refine ⟨pins, G, ρ, As, s, ?_⟩
  refine Kont.bind (T := []) (Q := Q) s.nd (fun a z => nomatch z) k fun q ρ1 G1 H1 As1 v Bs e1 nd1 r1 s1 k1 => ?_
  split at k1
  · rename_i a0 ha0
    split at k1
    · rename_i hca
      obtain ⟨Cs0, rc0⟩ := RepP.get r1 s1 ha0
      refine ⟨hc _ _ _ _ _ s1.sub rc0 hca, pins, G1, ρ1, As1, s1, ?_⟩
      have nd1' : (Bs ++ As1).Nodup := by simpa using nd1
      refine Kont.bind (T := Bs) (Q := Q) nd1' (RepP.there r1) (by simpa using k1) fun q2 ρ2 G2 H2 As2 v2 Bs2 e2 nd2 r2 s2 k2 => ?_
      have k2 : KontE K R pins σ G2 H2 (Bs ++ (Bs2 ++ As2)) Q (fin2 F (q.get ρ2) (q2.get ρ2) ρ2) := k2
      have r1' := RepP.ext r1 e2 (nd_disj nd1')
      unfold fin2 at k2
      split at k2
      · rename_i a b ha hb
        split at k2
        · rename_i o ho
          obtain ⟨Cs, rc⟩ := RepP.get r1' s2 ha
          obtain ⟨Ds, rd⟩ := RepP.get r2 s2 hb
          exact p G2 H2 v v2 a b o Cs Ds Q s2.sub rc rd ho fun G3 H3 w Es g re => KontE.grow s2 (T := Bs ++ Bs2) (by simpa using k2) g re
        · exact k2.elim
      · exact k2.elim
    · exact k1.elim
  · exact k1.elim
theorem m_index {X : Cx} {o : Expr} {f g : PF} (h : PE X o (tBM X.K "list" (rIndexD X.K) (liftP X.K R f) (tCons (liftP X.K R g) tNil))) : PE X o (liftE X.K R (op2c isLst idxO f g)) :=
  PE.weak h fun σ H Q hw => op2h_le (fun G H v a B s r h => isLst_of s r h) prim_index σ H Q hw
end
/-! ### a dict of the module: texts by texts -/
def kdO (tbl : List (Str × Str)) : O → Option O
  | .dat (.str z) => (tbl.lookup z).map fun y => .dat (.str y)
  | _ => none
def kdIn (tbl : List (Str × Str)) : O → Option O
  | .dat (.str z) => if (tbl.lookup z).isSome = true then bo true else none
  | _ => none
def kdNin (tbl : List (Str × Str)) : O → Option O
  | .dat (.str z) => if (tbl.lookup z).isSome = true then bo false else none
  | _ => none
structure KTbl (K : PySem.W.Frag) (w : World) (a : Addr) (es : Array DictEntry) (n : Nat) (tbl : List (Str × Str)) : Prop where
  D : KDict K w a es n
  at_ : ∀ p ∈ tbl, ∃ t, PySem.W.nsIn K a p.1 = some (some (.str p.2 t))
theorem lookup_mem {tbl : List (Str × Str)} {z y : Str} (h : tbl.lookup z = some y) : (z, y) ∈ tbl := PySem.mem_of_lookup h
section
variable {X : Cx} {R : RK} {e c : Expr} {f : PF} {pos : Pos} {a : Addr} {es : Array DictEntry} {n : Nat} {tbl : List (Str × Str)}
theorem KTbl.dct (k : KTbl X.K X.w a es n tbl) {z y : Str} (h : tbl.lookup z = some y) : KDct X.K X.w a z (.str y) := by
  obtain ⟨t, ht⟩ := k.at_ _ (lookup_mem h)
  exact ⟨es, n, _, k.D.at_, k.D.lit, ht, t, rfl⟩
theorem pf_kd (k : KTbl X.K X.w a es n tbl) (hc : PE X c (tC (.ref a))) (he : PE X e (liftP X.K R f)) (hs : PlainIx e := by intro _ _; rfl) : PE X (.Subscript c e pos) (liftE X.K R (op1 (kdO tbl) f)) := by
  refine PE.weak (pe_ix ix_kdict hc he hs) fun σ H Q hw => ?_
  refine op1_le (r := fun y H Q => rIxD X.K X.w (.ref a) y H Q) (fun G H x o1 o B Q s ra h q => ?_) σ H Q hw
  unfold kdO at h
  split at h
  · obtain ⟨y, hy, rfl⟩ := Option.map_eq_some_iff.mp h
    exact ⟨a, _, _, rfl, dat_str ra, k.dct hy, Grow.dat s (.str _) q⟩
  · cases h
theorem pf_kdNin (k : KTbl X.K X.w a es n tbl) (he : PE X e (liftP X.K R f)) (hc : PE X c (tC (.ref a))) (hm : behindInMarks .NotIn c = false := by rfl) : PE X (.Compare e [.NotIn] [c] pos) (liftE X.K R (op1 (kdNin tbl) f)) := by
  refine PE.weak (pe_cmpR (op_notIn_kd k.D) he hc hm) fun σ H Q hw => ?_
  refine op1_le (r := fun x H Q => ∃ (z : Str) (r : Option Value), x = .str z ∧ V.ref a = .ref a ∧ PySem.W.nsIn X.K a z = some r ∧ Q (.bl (!r.isSome)) H) (fun G H x o1 o B Q s ra h q => ?_) σ H Q hw
  unfold kdNin at h
  split at h
  · split at h
    · rename_i hz
      obtain ⟨y, hy⟩ := Option.isSome_iff_exists.mp hz
      obtain ⟨t, ht⟩ := k.at_ _ (lookup_mem hy)
      cases Option.some.inj h
      exact ⟨_, _, dat_str ra, rfl, ht, Grow.dat s (.bl _) q⟩
    · cases h
  · cases h
theorem pf_kdIn (k : KTbl X.K X.w a es n tbl) (he : PE X e (liftP X.K R f)) (hc : PE X c (tC (.ref a))) (hm : behindInMarks .In c = false := by rfl) : PE X (.Compare e [.In] [c] pos) (liftE X.K R (op1 (kdIn tbl) f)) := by
  refine PE.weak (pe_cmpR (op_in_kd k.D) he hc hm) fun σ H Q hw => ?_
  refine op1_le (r := fun x H Q => ∃ (z : Str) (r : Option Value), x = .str z ∧ V.ref a = .ref a ∧ PySem.W.nsIn X.K a z = some r ∧ Q (.bl r.isSome) H) (fun G H x o1 o B Q s ra h q => ?_) σ H Q hw
  unfold kdIn at h
  split at h
  · split at h
    · rename_i hz
      obtain ⟨y, hy⟩ := Option.isSome_iff_exists.mp hz
      obtain ⟨t, ht⟩ := k.at_ _ (lookup_mem hy)
      cases Option.some.inj h
      exact ⟨_, _, dat_str ra, rfl, ht, Grow.dat s (.bl _) q⟩
    · cases h
  · cases h
end
end Vs

namespace Vs
open PySem PySem.Spec PyProof.Rows L2 Ww

/-! ### in, not in, as tests -/
section
variable {X : Cx} {R : RK} {a b e o c : Expr} {f g : PF} {pos : Pos}
theorem lift_orT {e : Expr} {f f1 f2 : TF} (h1 : PT X e (liftT X.K R f1)) (h2 : PT X e (liftT X.K R f2)) (h : ∀ ρ, f ρ = f1 ρ ∨ f ρ = f2 ρ) : PT X e (liftT X.K R f) := by
  refine ⟨fun pins s σ H Q I ⟨pn, G, ρ, As, st, k⟩ => ?_⟩
  rcases h ρ with q | q
  · exact h1.run pins s σ H Q I ⟨pn, G, ρ, As, st, by rw [← q]; exact k⟩
  · exact h2.run pins s σ H Q I ⟨pn, G, ρ, As, st, by rw [← q]; exact k⟩
theorem pt_in (hu : X.A.units + 64 < cLine) (ha : PE X a (liftP X.K R f)) (hb : PE X b (liftP X.K R g)) (hm : behindInMarks .In b = false := by rfl) : PT X (.Compare a [.In] [b] pos) (liftT X.K R (tstF (op2 inO f g))) := tst_ok (pt_cmpR (OpR.or op_in_str (op_inP hu)) ha hb hm) (op2_le prim_in)
theorem pt_nin (hu : X.A.units + 64 < cLine) (ha : PE X a (liftP X.K R f)) (hb : PE X b (liftP X.K R g)) (hm : behindInMarks .NotIn b = false := by rfl) : PT X (.Compare a [.NotIn] [b] pos) (liftT X.K R (tstF (op2 ninO f g))) := tst_ok (pt_cmpR (OpR.or op_notin_str (op_ninP hu)) ha hb hm) (op2_le prim_nin)
theorem tst_if {i : Nat} {f1 f2 : EF} {p : En → Prop} [DecidablePred p] (ρ : En) : tstF (fun ρ => if p ρ then f1 ρ else f2 ρ) ρ = tstF f1 ρ ∨ tstF (fun ρ => if p ρ then f1 ρ else f2 ρ) ρ = tstF f2 ρ := by
  unfold tstF
  by_cases c : p ρ
  · exact .inl (by simp only [if_pos c])
  · exact .inr (by simp only [if_neg c])
theorem pt_inS {i : Nat} {f : EF} (hu : X.A.units + 64 < cLine) (ho : PE X o (tVar i)) (he : PE X e (liftE X.K R f)) (hm : behindInMarks .In o = false := by rfl) : PT X (.Compare e [.In] [o] pos) (liftT X.K R (tstF (inS i f))) :=
  lift_orT (f1 := tstF (dIn i f)) (f2 := tstF (op2 inO (tmpF f) (slotF i))) (tst_ok (pt_cmp (pc_din (by omega) he ho) hm) dIn_le) (pt_in hu (tmp_ok he) (slot_ok ho) hm) (tst_if (i := 0))
theorem pt_ninS {i : Nat} {f : EF} (hu : X.A.units + 64 < cLine) (ho : PE X o (tVar i)) (he : PE X e (liftE X.K R f)) (hm : behindInMarks .NotIn o = false := by rfl) : PT X (.Compare e [.NotIn] [o] pos) (liftT X.K R (tstF (ninS i f))) :=
  lift_orT (f1 := tstF (dNin i f)) (f2 := tstF (op2 ninO (tmpF f) (slotF i))) (tst_ok (pt_cmp (pc_dnotin (by omega) he ho) hm) dNin_le) (pt_nin hu (tmp_ok he) (slot_ok ho) hm) (tst_if (i := 0))
variable {d : Addr} {es : Array DictEntry} {n : Nat} {tbl : List (Str × Str)}
theorem kdNin_le (k : KTbl X.K X.w d es n tbl) (σ : L2.St) (H : Hp) (Q : VK) (hw : liftE X.K R (op1 (kdNin tbl) f) σ H Q) : tOp (fun x y H Q => ∃ (z : Str) (r : Option Value), x = .str z ∧ y = .ref d ∧ PySem.W.nsIn X.K d z = some r ∧ Q (.bl (!r.isSome)) H) (liftP X.K R f) (tC (.ref d)) σ H Q := by
  refine op1_le (r := fun x H Q => ∃ (z : Str) (r : Option Value), x = .str z ∧ V.ref d = .ref d ∧ PySem.W.nsIn X.K d z = some r ∧ Q (.bl (!r.isSome)) H) (fun G H x o1 o B Q s ra h q => ?_) σ H Q hw
  unfold kdNin at h
  split at h
  · split at h
    · rename_i hz
      obtain ⟨y, hy⟩ := Option.isSome_iff_exists.mp hz
      obtain ⟨t, ht⟩ := k.at_ _ (lookup_mem hy)
      cases Option.some.inj h
      exact ⟨_, _, dat_str ra, rfl, ht, Grow.dat s (.bl _) q⟩
    · cases h
  · cases h
theorem kdIn_le (k : KTbl X.K X.w d es n tbl) (σ : L2.St) (H : Hp) (Q : VK) (hw : liftE X.K R (op1 (kdIn tbl) f) σ H Q) : tOp (fun x y H Q => ∃ (z : Str) (r : Option Value), x = .str z ∧ y = .ref d ∧ PySem.W.nsIn X.K d z = some r ∧ Q (.bl r.isSome) H) (liftP X.K R f) (tC (.ref d)) σ H Q := by
  refine op1_le (r := fun x H Q => ∃ (z : Str) (r : Option Value), x = .str z ∧ V.ref d = .ref d ∧ PySem.W.nsIn X.K d z = some r ∧ Q (.bl r.isSome) H) (fun G H x o1 o B Q s ra h q => ?_) σ H Q hw
  unfold kdIn at h
  split at h
  · split at h
    · rename_i hz
      obtain ⟨y, hy⟩ := Option.isSome_iff_exists.mp hz
      obtain ⟨t, ht⟩ := k.at_ _ (lookup_mem hy)
      cases Option.some.inj h
      exact ⟨_, _, dat_str ra, rfl, ht, Grow.dat s (.bl _) q⟩
    · cases h
  · cases h
theorem pt_kdNin (k : KTbl X.K X.w d es n tbl) (he : PE X e (liftP X.K R f)) (hc : PE X c (tC (.ref d))) (hm : behindInMarks .NotIn c = false := by rfl) : PT X (.Compare e [.NotIn] [c] pos) (liftT X.K R (tstF (op1 (kdNin tbl) f))) := tst_ok (pt_cmpR (op_notIn_kd k.D) he hc hm) (kdNin_le k)
theorem pt_kdIn (k : KTbl X.K X.w d es n tbl) (he : PE X e (liftP X.K R f)) (hc : PE X c (tC (.ref d))) (hm : behindInMarks .In c = false := by rfl) : PT X (.Compare e [.In] [c] pos) (liftT X.K R (tstF (op1 (kdIn tbl) f))) := tst_ok (pt_cmpR (op_in_kd k.D) he hc hm) (kdIn_le k)
end

/-! ### calls by keywords alone -/
def revC (g : CF) : CF := fun ρ => (g ρ).bind fun os ρ1 => .ok os.reverse ρ1
section
variable {K : PySem.W.Frag} {R : RK} {pins σ : L2.St} {G H G' H' : Hp} {As Bs Cs T : List Addr} {Q : VK} {ρ : En} {X : Cx}
theorem PK.weak {e : List Keyword} {t t' : TA} (h : PK X e t) (k : ∀ σ H Q, t' σ H Q → t σ H Q) : PK X e t' := ⟨fun pos pins s σ H Q I q => h.run pos pins s σ H Q I (k σ H Q q)⟩
theorem pk_nilC : PK X [] (liftC X.K R nilC) := by
  refine PK.weak pk_nil fun σ H Q ⟨pins, G, ρ, As, s, k⟩ => ?_
  exact Kont.now k s (Bs := []) (fun a z => z) s.nd .nil
theorem consC_le {f : C1F} {g : CF} (σ : L2.St) (H : Hp) (Q : List V → Hp → Prop) (h : liftC K R (consC f g) σ H Q) : tCons (liftC1 K R f) (liftC K R g) σ H Q := by
  obtain ⟨pins, G, ρ, As, s, k⟩ := h
  refine ⟨pins, G, ρ, As, s, ?_⟩
  refine Kont.bind (T := []) (Q := Q) s.nd (fun a z => nomatch z) k fun o ρ1 G1 H1 As1 v Bs e1 nd1 r1 s1 k1 => ⟨pins, G1, ρ1, As1, s1, ?_⟩
  have nd1' : (Bs ++ As1).Nodup := by simpa using nd1
  refine Kont.bind (T := Bs) (Q := Q) nd1' (RepC1.there r1) (by simpa using k1) fun os ρ2 G2 H2 As2 vs Cs e2 nd2 r2 s2 k2 => ?_
  have r1' := RepC1.ext r1 e2 (nd_disj nd1')
  refine Kont.now (Bs := Bs ++ Cs) k2 s2 (fun a z => by simpa using z) (by simpa using nd2) ?_
  cases r1' with
  | o r => exact .o r r2
  | b h r => exact .b h r r2
theorem pk_consC {nm : Option Str} {e : Expr} {kpos : Pos} {es : List Keyword} {f : C1F} {g : CF} (h1 : PE X e (liftC1 X.K R f)) (h2 : PK X es (liftC X.K R g)) : PK X (⟨nm, e, kpos⟩ :: es) (liftC X.K R (consC f g)) := PK.weak (pk_cons h1 h2) consC_le
theorem RepC.app {vs ws : List V} {os us : List AO} {Bs Cs : List Addr} (r : RepC K G H σ vs os Bs) (q : RepC K G H σ ws us Cs) : RepC K G H σ (vs ++ ws) (os ++ us) (Bs ++ Cs) := by
  induction r with
  | nil => exact q
  | o r _ ih => rw [List.append_assoc]; exact .o r ih
  | b h r _ ih => rw [List.append_assoc]; exact .b h r ih
theorem RepC.rev {vs : List V} {os : List AO} {Bs : List Addr} (r : RepC K G H σ vs os Bs) : ∃ Cs, RepC K G H σ vs.reverse os.reverse Cs ∧ (∀ a, a ∈ Cs ↔ a ∈ Bs) ∧ (Bs.Nodup → Cs.Nodup) := by
  induction r with
  | nil => exact ⟨[], .nil, fun _ => Iff.rfl, id⟩
  | @o v vs o os B Bs r _ ih =>
    obtain ⟨Cs, h1, h2, h3⟩ := ih
    rw [List.reverse_cons, List.reverse_cons]
    refine ⟨Cs ++ (B ++ []), h1.app (.o r .nil), fun a => by simp only [List.append_nil, List.mem_append, h2 a]; exact Or.comm, fun nd => ?_⟩
    obtain ⟨n1, n2, n3⟩ := List.nodup_append.mp nd
    rw [List.append_nil]
    exact List.nodup_append.mpr ⟨h3 n2, n1, fun a ha b hb z => n3 b hb a ((h2 a).1 ha) z.symm⟩
  | @b v vs i o os B Bs h r _ ih =>
    obtain ⟨Cs, h1, h2, h3⟩ := ih
    rw [List.reverse_cons, List.reverse_cons]
    refine ⟨Cs ++ (B ++ []), h1.app (.b h r .nil), fun a => by simp only [List.append_nil, List.mem_append, h2 a]; exact Or.comm, fun nd => ?_⟩
    obtain ⟨n1, n2, n3⟩ := List.nodup_append.mp nd
    rw [List.append_nil]
    exact List.nodup_append.mpr ⟨h3 n2, n1, fun a ha b hb z => n3 b hb a ((h2 a).1 ha) z.symm⟩
theorem revC_le {g : CF} (σ : L2.St) (H : Hp) (Q : List V → Hp → Prop) (h : liftC K R (revC g) σ H Q) : liftC K R g σ H fun vs H1 => Q vs.reverse H1 := by
  obtain ⟨pins, G, ρ, As, s, k⟩ := h
  refine ⟨pins, G, ρ, As, s, ?_⟩
  refine Kont.bind (T := []) (Q := Q) s.nd (fun a z => nomatch z) k fun os ρ1 G1 H1 As1 vs Bs e1 nd1 r1 s1 k1 => ?_
  obtain ⟨Cs, h1, h2, h3⟩ := RepC.rev r1
  have nd1' : (Bs ++ As1).Nodup := by simpa using nd1
  refine Kont.now k1 s1 (Bs := Cs) (fun a z => ?_) ?_ h1
  · simp only [List.mem_append, List.nil_append] at z ⊢
    rcases z with z | z
    · exact .inl ((h2 a).1 z)
    · exact .inr z
  · exact List.nodup_append.mpr ⟨h3 (List.nodup_append.mp nd1').1, s1.nd, fun a ha b hb => (List.nodup_append.mp nd1').2.2 a ((h2 a).1 ha) b hb⟩
/-- so many arguments are wanted -/
def Wants (F : FF) (n : Nat) : Prop := ∀ os, F os ≠ .stuck → os.length = n
theorem defF_wants {np n : Nat} {body : SF} : Wants (defF np n body) np := fun os h => by
  unfold defF at h
  by_cases c : os.length = np
  · exact c
  · rw [if_neg c] at h
    exact absurd rfl h
theorem spF_wants {cl : Str → Option Addr} {F : FF} {n : Nat} {vs : List V} {E : XK} (w : Wants F n) (h : spF K cl F vs H Q E) : vs.length = n := by
  obtain ⟨G, os, As, r, nd, sub, k⟩ := h
  refine (RepOs.len r).trans (w os fun z => ?_)
  rw [z] at k
  exact k
theorem pf_callK {CX : CXT} {n : Nat} {f : Addr} {fd : FuncData} {ps ks : List Str} {F : FF} {g : CF} {cl : Str → Option Addr} {x : Str} {p pos : Pos} {kws : List Keyword} (Fn : FnOk X.prog X.w X.K X.mg X.base CX n f fd ps (spF X.K cl F)) (hr : Room n X.A) (hg : Gl X x) (hm : X.mg x = some (.ref f)) (hk : PySem.W.keepIn X.K (.ref f) = true) (hb : KB0 X.K fd ps ks (fun ws => ws) (fun zs => zs))
    (hx : Passes CX X (fun _ _ _ => False)) (hkw : PK X kws (liftC X.K R0 g)) (hw : Wants F ks.length) (hall : (backToKw pos (keywordEach kws X.env)).all (·.1.isSome) = true := by rfl) (hks : (backToKw pos (keywordEach kws X.env)).filterMap (·.1) = ks := by rfl)
    (hdb : (x == ("__debug__" : Str)) = false := by decide) (hpl : ((backTo pos (starEach [] X.env)).any (·.1) || (backToKw pos (keywordEach kws X.env)).any (·.1.isNone)) = false := by rfl) :
    PE X (.Call (.Name x p) [] kws pos) (liftE X.K R0 (callF F g)) := by
  refine PE.weak (pe_callQ Fn hr hg hm hk hb hx hkw hall hks hdb hpl) fun σ H Q h => ?_
  have q : liftC X.K R0 g σ H fun vs H1 => spF X.K cl F (vs ++ []) H1 Q (fun _ _ _ => False) := call_le (cl := cl) (E := fun _ _ _ => False) (fun _ _ _ _ z => z.elim) σ H Q h
  obtain ⟨pins, G, ρ, As, s, k⟩ := q
  refine ⟨pins, G, ρ, As, s, ?_⟩
  cases hgρ : g ρ with
  | ok os ρ1 =>
    rw [hgρ] at k
    intro G' H' As' v Bs e nd r st
    have z : spF X.K cl F (v ++ []) H' Q (fun _ _ _ => False) := k G' H' As' v Bs e nd r st
    rw [List.append_nil] at z
    exact ⟨spF_wants hw z, z⟩
  | er c o ρ1 => rw [hgρ] at k; exact k
  | stuck => rw [hgρ] at k; exact k
theorem pf_callKR {CX : CXT} {n : Nat} {f : Addr} {fd : FuncData} {ps ks : List Str} {F : FF} {g : CF} {cl : Str → Option Addr} {x : Str} {p pos : Pos} {kws : List Keyword} (Fn : FnOk X.prog X.w X.K X.mg X.base CX n f fd ps (spF X.K cl F)) (hr : Room n X.A) (hg : Gl X x) (hm : X.mg x = some (.ref f)) (hk : PySem.W.keepIn X.K (.ref f) = true) (hb : KB0 X.K fd ps ks (fun ws => ws.reverse) (fun zs => zs.reverse))
    (hx : Passes CX X (fun _ _ _ => False)) (hkw : PK X kws (liftC X.K R0 g)) (hw : Wants F ks.length) (hall : (backToKw pos (keywordEach kws X.env)).all (·.1.isSome) = true := by rfl) (hks : (backToKw pos (keywordEach kws X.env)).filterMap (·.1) = ks := by rfl)
    (hdb : (x == ("__debug__" : Str)) = false := by decide) (hpl : ((backTo pos (starEach [] X.env)).any (·.1) || (backToKw pos (keywordEach kws X.env)).any (·.1.isNone)) = false := by rfl) :
    PE X (.Call (.Name x p) [] kws pos) (liftE X.K R0 (callF F (revC g))) := by
  refine PE.weak (pe_callQ Fn hr hg hm hk hb hx hkw hall hks hdb hpl) fun σ H Q h => ?_
  have q0 : liftC X.K R0 (revC g) σ H fun vs H1 => spF X.K cl F (vs ++ []) H1 Q (fun _ _ _ => False) := call_le (cl := cl) (E := fun _ _ _ => False) (fun _ _ _ _ z => z.elim) σ H Q h
  have q := revC_le σ H _ q0
  obtain ⟨pins, G, ρ, As, s, k⟩ := q
  refine ⟨pins, G, ρ, As, s, ?_⟩
  cases hgρ : g ρ with
  | ok os ρ1 =>
    rw [hgρ] at k
    intro G' H' As' v Bs e nd r st
    have z : spF X.K cl F (v.reverse ++ []) H' Q (fun _ _ _ => False) := k G' H' As' v Bs e nd r st
    rw [List.append_nil] at z
    exact ⟨by have w2 := spF_wants hw z; rw [List.length_reverse] at w2; exact w2, z⟩
  | er c o ρ1 => rw [hgρ] at k; exact k
  | stuck => rw [hgρ] at k; exact k
end
end Vs

namespace Vs
open PySem PySem.Spec PyProof.Rows L2 Ww

/-! ### a displayed dict -/
abbrev PrF := En → Rs (List (PyData × PyData))
def nilP : PrF := fun ρ => .ok [] ρ
def consP (f g : EF) (h : PrF) : PrF := fun ρ => (shE f ρ).bind fun k ρ1 => (shE g ρ1).bind fun v ρ2 => (h ρ2).bind fun r ρ3 => .ok ((k, v) :: r) ρ3
def keysOf : List (PyData × PyData) → Option (List (L2.Key × PyData))
  | [] => some []
  | (k, v) :: r => match keyD k, keysOf r with
    | some kk, some rr => some ((kk, v) :: rr)
    | _, _ => none
def mergeD (kvs more : List (L2.Key × PyData)) : List (L2.Key × PyData) := more.foldl (fun acc kv => putD acc kv.1 kv.2) kvs
def dispF (h : PrF) : EF := fun ρ => (h ρ).bind fun ps ρ1 => match keysOf ps with
  | some kvs => if kvs.length ≤ 15 then .ok (.dk (mergeD [] kvs)) ρ1 else .stuck
  | none => .stuck
def RepPs (K : PySem.W.Frag) (G : Hp) : List (V × V) → List (PyData × PyData) → Prop := All2 fun x d => Dp K G x.1 d.1 ∧ Dp K G x.2 d.2
abbrev liftPs (K : PySem.W.Frag) (R : RK) (h : PrF) : L2.St → Hp → (List (V × V) → Hp → Prop) → Prop := lift (fun _ G _ ps ds Bs => Bs = [] ∧ RepPs K G ps ds) K R h
structure DsOk (X : Cx) (R : RK) (pos : Pos) (keys : List (Option Expr)) (values : List Expr) (trs : List (TE × TE)) (h : PrF) : Prop where
  run : PPs X pos keys values trs
  le : ∀ σ H Q, liftPs X.K R h σ H Q → tPairs trs σ H Q
section
variable {K : PySem.W.Frag} {R : RK} {pins σ : L2.St} {G H G' H' : Hp} {As Bs Cs T : List Addr} {Q : VK} {ρ : En} {X : Cx}
theorem ds_nil {pos : Pos} : DsOk X R pos [] [] [] nilP := ⟨pps_nil, fun σ H Q ⟨pins, G, ρ, As, s, k⟩ => Kont.now k s (Bs := []) (fun a z => z) s.nd ⟨rfl, trivial⟩⟩
theorem ds_cons {pos : Pos} {k v : Expr} {ks : List (Option Expr)} {vs : List Expr} {f g : EF} {trs : List (TE × TE)} {h : PrF} (hk : PE X k (liftE X.K R f)) (hv : PE X v (liftE X.K R g)) (hr : DsOk X R pos ks vs trs h) : DsOk X R pos (some k :: ks) (v :: vs) ((liftE X.K R f, liftE X.K R g) :: trs) (consP f g h) := by
  refine ⟨pps_cons hk hv hr.run, fun σ H Q ⟨pins, G, ρ, As, s, k⟩ => shS_le σ H _ ⟨pins, G, ρ, As, s, ?_⟩⟩
  refine Kont.bind (T := []) (Q := Q) s.nd (fun a z => nomatch z) k fun d ρ1 G1 H1 As1 x Bs e1 nd1 r1 s1 k1 => shS_le σ H1 _ ⟨pins, G1, ρ1, As1, s1, ?_⟩
  obtain ⟨rfl, dx⟩ := r1
  refine Kont.bind (T := []) (Q := Q) s1.nd (fun a z => nomatch z) (by simpa using k1) fun d2 ρ2 G2 H2 As2 y Bs2 e2 nd2 r2 s2 k2 => hr.le σ H2 _ ⟨pins, G2, ρ2, As2, s2, ?_⟩
  obtain ⟨rfl, dy⟩ := r2
  refine Kont.bind (T := []) (Q := Q) s2.nd (fun a z => nomatch z) (by simpa using k2) fun ds ρ3 G3 H3 As3 ps Bs3 e3 nd3 r3 s3 k3 => ?_
  obtain ⟨rfl, dps⟩ := r3
  exact Kont.now k3 s3 (Bs := []) (fun a z => by simpa using z) s3.nd ⟨rfl, ⟨dp_same (e2.sub.trans e3.sub) dx, dp_same e3.sub dy⟩, dps⟩
theorem keys_rep : ∀ {ps : List (V × V)} {ds : List (PyData × PyData)} {kvs : List (L2.Key × PyData)}, RepPs K G ps ds → keysOf ds = some kvs → ∃ es, ps = es.map (fun kv => (kV kv.1, kv.2)) ∧ DKs K G es kvs
  | [], [], kvs, _, h => by cases Option.some.inj h; exact ⟨[], rfl, trivial⟩
  | [], _ :: _, _, h, _ => h.elim
  | _ :: _, [], _, h, _ => h.elim
  | p :: ps, (k, v) :: ds, kvs, ⟨⟨h1, h2⟩, h3⟩, h => by
    unfold keysOf at h
    split at h
    · rename_i kk rr hk hr
      cases Option.some.inj h
      obtain ⟨es, e1, e2⟩ := keys_rep h3 hr
      refine ⟨(kk, p.2) :: es, ?_, ⟨rfl, h2⟩, e2⟩
      rw [List.map_cons, ← e1]
      show p :: ps = (kV kk, p.2) :: ps
      rw [← key_dp h1 hk]
    · cases h
theorem merge_rep : ∀ {more : List (L2.Key × V)} {dm : List (L2.Key × PyData)} {es : List (L2.Key × V)} {kvs : List (L2.Key × PyData)}, DKs K G more dm → DKs K G es kvs → DKs K G (mergeK es more) (mergeD kvs dm)
  | [], [], _, _, _, h => h
  | [], _ :: _, _, _, h, _ => h.elim
  | _ :: _, [], _, _, h, _ => h.elim
  | m :: more, d :: dm, es, kvs, ⟨⟨h1, h2⟩, h3⟩, h => by
    show DKs K G (mergeK (putK es m.1 m.2) more) (mergeD (putD kvs d.1 d.2) dm)
    rw [h1]
    exact merge_rep h3 (dks_put h2 h)
theorem pf_disp {pos : Pos} {keys : List (Option Expr)} {values : List Expr} {trs : List (TE × TE)} {h : PrF} (hd : DsOk X R pos keys values trs h) (hall : keys.all (·.isSome) = true) (hl : keys.length = values.length) (h0 : keys ≠ []) (h15 : keys.length ≤ 15 := by decide) : PE X (.Dict keys values pos) (liftE X.K R (dispF h)) := by
  refine PE.weak (pe_disp hd.run hall hl h0 h15) fun σ H Q ⟨pins, G, ρ, As, s, k⟩ p np => ?_
  have gp := s.sub.free np
  have nA : p ∉ As := fun z => (s.slots.there p z).1 np
  have e0 : Ext G H [] G (upd H p (.dK [])) [] := ⟨Sub.refl _, fun a u z _ => by rw [upd_ne (ne_of_none z np)]; exact z, fun _ z _ _ => z, fun a z => nomatch z⟩
  have sb0 : Sub G (upd H p (.dK [])) := fun a u z => by rw [upd_ne (ne_of_none (s.sub a u z) np)]; exact s.sub a u z
  have s0 := s.ext e0 (fun a _ z => nomatch z) sb0
  refine hd.le σ _ _ ⟨pins, G, ρ, As, s0, ?_⟩
  have eP : Ext G H As G (upd H p (.dK [])) ([p] ++ As) := ⟨Sub.refl _, fun a u z _ => by rw [upd_ne (ne_of_none z np)]; exact z, fun _ z _ _ => z, fun a z => by
    rcases List.mem_append.mp z with w | w
    · exact .inr (by rw [List.mem_singleton.mp w]; exact np)
    · exact .inl w⟩
  have k' := Kont.re k eP
  refine Kont.bind (T := [p]) (Q := Q) (List.nodup_append.mpr ⟨by simp, s.nd, fun a ha b hb z => by rw [List.mem_singleton.mp ha] at z; subst z; exact nA hb⟩) (fun a ha => by rw [List.mem_singleton.mp ha, upd_same]; exact fun z => nomatch z) k' fun ds ρ1 G1 H1 As1 ps Bs e1 nd1 r1 s1 k1 => ?_
  obtain ⟨rfl, rp⟩ := r1
  have hp1 : H1 p = some (.dK []) := e1.keep p _ upd_same nA
  have gp1 : G1 p = none := e1.frz p gp (by rw [upd_same]; exact fun z => nomatch z) nA
  split at k1
  · rename_i kvs hk
    split at k1
    · rename_i hz
      obtain ⟨es, e2, e3⟩ := keys_rep rp hk
      have le : es.length = kvs.length := All2.len e3
      refine ⟨hp1, es, e2, by omega, ?_⟩
      have nA1 : p ∉ As1 := fun z => by
        have := nd_disj nd1 p (by simp)
        exact this (by simpa using z)
      have sb : Sub G1 (upd H1 p (.dK (mergeK [] es))) := fun a u z => by rw [upd_ne (ne_of_none z gp1)]; exact s1.sub a u z
      have eU : Ext G1 H1 [p] G1 (upd H1 p (.dK (mergeK [] es))) [] := ⟨Sub.refl _, fun a u q n => by rw [upd_ne fun w => n (by rw [w]; exact List.mem_cons_self)]; exact q, fun _ q _ _ => q, fun a q => nomatch q⟩
      have s2 := s1.ext eU (fun a ha hb => by rw [List.mem_singleton.mp hb] at ha; exact nA1 ha) sb
      refine (show KontE X.K R pins σ G1 H1 ([p] ++ ([] ++ As1)) Q (.ok (.dk (mergeD [] kvs)) ρ1) from k1) G1 _ As1 (.ref p) [p] ⟨Sub.refl _, fun a u q n => ?_, fun _ q _ _ => q, fun a q => .inl (by simpa using q)⟩ (by simpa using nd1) (.dk gp1 upd_same (merge_rep e3 trivial)) s2
      rw [upd_ne fun w => n (by rw [w]; simp)]
      exact q
    · exact k1.elim
  · exact k1.elim
end

/-! ### sorted(d.items()), texts by data that stand in the heap -/
def insK (x : Str × PyData) : List (Str × PyData) → List (Str × PyData)
  | [] => [x]
  | y :: l => if x.1.cps.toList < y.1.cps.toList then x :: y :: l else y :: insK x l
def sortK (xs : List (Str × PyData)) : List (Str × PyData) := xs.foldr insK []
def isRf : PyData → Bool
  | .list _ => true
  | .tuple _ => true
  | _ => false
def strKs : List (L2.Key × PyData) → Option (List (Str × PyData))
  | [] => some []
  | (.inr k, v) :: r => if isRf v = true then (strKs r).map fun z => (k, v) :: z else none
  | _ => none
def pairD (z : Str × PyData) : PyData := .tuple [.str z.1, z.2]
def sItems (i : Nat) : EF := fun ρ => match (dkOf (getS ρ i)).bind strKs with
  | some xs => if xs.length < 64 ∧ (xs.map (·.1)).Nodup then .ok (.ls ((sortK xs).map pairD)) ρ else .stuck
  | none => .stuck
section
variable {K : PySem.W.Frag} {R : RK} {pins σ : L2.St} {G H G' H' : Hp} {As Bs Cs T : List Addr} {Q : VK} {ρ : En} {X : Cx}
theorem insK_mem (x : Str × PyData) : ∀ (l : List (Str × PyData)) (k : Str × PyData), k ∈ insK x l ↔ k = x ∨ k ∈ l
  | [], k => by simp [insK]
  | y :: l, k => by
    unfold insK
    split
    · simp
    · simp only [List.mem_cons, insK_mem x l k]
      exact ⟨fun z => z.elim (fun z => .inr (.inl z)) (fun z => z.elim .inl fun z => .inr (.inr z)), fun z => z.elim (fun z => .inr (.inl z)) (fun z => z.elim .inl fun z => .inr (.inr z))⟩
theorem insK_up (x : Str × PyData) : ∀ {l : List (Str × PyData)}, x.1 ∉ l.map (·.1) → (l.Pairwise fun a b => a.1.cps.toList < b.1.cps.toList) → (insK x l).Pairwise fun a b => a.1.cps.toList < b.1.cps.toList
  | [], _, _ => List.pairwise_singleton _ _
  | y :: l, n, h => by
    unfold insK
    obtain ⟨h1, h2⟩ := List.pairwise_cons.mp h
    have n1 : x.1 ≠ y.1 := fun e => n (by rw [List.map_cons, e]; exact List.mem_cons_self)
    have n2 : x.1 ∉ l.map (·.1) := fun e => n (by rw [List.map_cons]; exact List.mem_cons_of_mem _ e)
    split
    · rename_i c
      exact List.pairwise_cons.mpr ⟨fun z hz => by
        rcases List.mem_cons.mp hz with w | w
        · rw [w]; exact c
        · exact List.lt_trans c (h1 z w), h⟩
    · rename_i c
      refine List.pairwise_cons.mpr ⟨fun z hz => ?_, insK_up x n2 h2⟩
      rcases (insK_mem x l z).1 hz with w | w
      · rw [w]
        rcases Decidable.em (y.1.cps.toList < x.1.cps.toList) with q | q
        · exact q
        · exact absurd (str_ext (List.le_antisymm (List.not_lt.mp q) (List.not_lt.mp c))) n1
      · exact h1 z w
theorem sortK_mem : ∀ (xs : List (Str × PyData)) (k : Str × PyData), k ∈ sortK xs ↔ k ∈ xs
  | [], k => Iff.rfl
  | x :: xs, k => by
    show k ∈ insK x (sortK xs) ↔ _
    rw [insK_mem, sortK_mem xs k, List.mem_cons]
theorem sortK_up : ∀ {xs : List (Str × PyData)}, (xs.map (·.1)).Nodup → (sortK xs).Pairwise fun a b => a.1.cps.toList < b.1.cps.toList
  | [], _ => .nil
  | x :: xs, h => by
    rw [List.map_cons, List.nodup_cons] at h
    refine insK_up x (fun z => h.1 ?_) (sortK_up h.2)
    obtain ⟨y, hy, e⟩ := List.mem_map.mp z
    rw [← e]
    exact List.mem_map_of_mem ((sortK_mem xs y).1 hy)
theorem rf_ref {v : V} {d : PyData} (h : Dp K G v d) (r : isRf d = true) : ∃ a, v = .ref a := by
  cases h <;> first | exact ⟨_, rfl⟩ | cases r
theorem strKs_rep : ∀ {es : List (L2.Key × V)} {kvs : List (L2.Key × PyData)} {xs : List (Str × PyData)}, DKs K G es kvs → strKs kvs = some xs → ∃ ks : List (Str × Addr), es = ks.map DS.entS ∧ All2 (fun (e : Str × Addr) (x : Str × PyData) => e.1 = x.1 ∧ Dp K G (.ref e.2) x.2) ks xs
  | [], [], xs, _, h => by cases Option.some.inj h; exact ⟨[], rfl, trivial⟩
  | [], _ :: _, _, h, _ => h.elim
  | _ :: _, [], _, h, _ => h.elim
  | e :: es, (.inl k, v) :: kvs, xs, _, h => nomatch h
  | e :: es, (.inr k, v) :: kvs, xs, ⟨⟨h1, h2⟩, h3⟩, h => by
    have h : (if isRf v = true then (strKs kvs).map fun z => (k, v) :: z else none) = some xs := h
    split at h
    · rename_i hr
      obtain ⟨ys, hy, rfl⟩ := Option.map_eq_some_iff.mp h
      obtain ⟨ks, e1, e2⟩ := strKs_rep h3 hy
      obtain ⟨a, ha⟩ := rf_ref h2 hr
      refine ⟨(k, a) :: ks, ?_, ⟨rfl, by rw [← ha]; exact h2⟩, e2⟩
      rw [List.map_cons, ← e1]
      show e :: es = (Sum.inr k, V.ref a) :: es
      rw [← ha]
      congr 1
      exact Prod.ext h1 rfl
    · cases h
theorem all2_keys {α β : Type} {Rr : α → β → Prop} {f : α → Str} {g : β → Str} (e : ∀ x y, Rr x y → f x = g y) : ∀ {xs : List α} {ys : List β}, All2 Rr xs ys → xs.map f = ys.map g
  | [], [], _ => rfl
  | [], _ :: _, h => h.elim
  | _ :: _, [], h => h.elim
  | _ :: _, _ :: _, h => by rw [List.map_cons, List.map_cons, e _ _ h.1, all2_keys e h.2]
theorem all2_pick {α β : Type} {Rr : α → β → Prop} : ∀ {xs : List α}, (∀ x ∈ xs, ∃ y, Rr x y) → ∃ ys, All2 Rr xs ys
  | [], _ => ⟨[], trivial⟩
  | x :: xs, h => by
    obtain ⟨y, hy⟩ := h x List.mem_cons_self
    obtain ⟨ys, hys⟩ := all2_pick fun z hz => h z (List.mem_cons_of_mem _ hz)
    exact ⟨y :: ys, hy, hys⟩
theorem all2_back' {α β : Type} {Rr : α → β → Prop} : ∀ {xs : List α} {ys : List β}, All2 Rr xs ys → ∀ y ∈ ys, ∃ x ∈ xs, Rr x y
  | [], [], _, y, h => nomatch h
  | x :: _, y :: _, h, z, hz => by
    rcases List.mem_cons.mp hz with rfl | hz
    · exact ⟨x, List.mem_cons_self, h.1⟩
    · obtain ⟨w, a, b⟩ := all2_back' h.2 z hz
      exact ⟨w, List.mem_cons_of_mem _ a, b⟩
  | [], _ :: _, h, _, _ => h.elim
  | _ :: _, [], h, _, _ => h.elim
/-- the told pairs, in their order -/
theorem items_rep {ks : List (Str × Addr)} {xs : List (Str × PyData)} {ps : List (Addr × Str × Addr)} (h : All2 (fun (e : Str × Addr) (x : Str × PyData) => e.1 = x.1 ∧ Dp K G (.ref e.2) x.2) ks xs) (nd : (xs.map (·.1)).Nodup) (perm : (ps.map (·.2)).Perm ks)
    (srt : (ps.map (·.2)).Pairwise (fun e f => e.1.cps.toList < f.1.cps.toList)) : All2 (fun (z : Addr × Str × Addr) (x : Str × PyData) => z.2.1 = x.1 ∧ Dp K G (.ref z.2.2) x.2) ps (sortK xs) := by
  have pick : ∀ z ∈ ps, ∃ x : Str × PyData, z.2.1 = x.1 ∧ Dp K G (.ref z.2.2) x.2 ∧ x ∈ xs := fun z hz => by
    obtain ⟨x, hx, h1, h2⟩ := All2.mem h (perm.mem_iff.mp (List.mem_map_of_mem hz))
    exact ⟨x, h1, h2, hx⟩
  obtain ⟨ys, hys⟩ := all2_pick pick
  have keys : ps.map (fun z => z.2.1) = ys.map (·.1) := all2_keys (fun _ _ h => h.1) hys
  have up : ys.Pairwise fun a b => a.1.cps.toList < b.1.cps.toList := by
    have h1 : (ys.map (·.1)).Pairwise fun a b : Str => a.cps.toList < b.cps.toList := by
      rw [← keys]
      rw [List.pairwise_map] at srt ⊢
      exact srt
    rw [List.pairwise_map] at h1
    exact h1
  have inj : ∀ a ∈ xs, ∀ b ∈ xs, a.1 = b.1 → a = b := fun a ha b hb e => by
    obtain ⟨i, hi⟩ := List.mem_iff_getElem?.mp ha
    obtain ⟨j, hj⟩ := List.mem_iff_getElem?.mp hb
    have hi' : (xs.map (·.1))[i]? = some a.1 := by rw [List.getElem?_map, hi]; rfl
    have hj' : (xs.map (·.1))[j]? = some a.1 := by rw [List.getElem?_map, hj, e]; rfl
    have ij : i = j := (List.getElem?_inj (List.getElem?_eq_some_iff.mp hi').1 nd).mp (hi'.trans hj'.symm)
    subst ij
    rw [hi] at hj
    exact Option.some.inj hj
  have mem : ∀ x, x ∈ ys ↔ x ∈ xs := fun x => by
    constructor
    · intro hx
      obtain ⟨z, _, r⟩ := all2_back' hys x hx
      exact r.2.2
    · intro hx
      obtain ⟨e, he, r1, _⟩ := all2_back' h x hx
      obtain ⟨z, hz, ez⟩ := List.mem_map.mp (perm.mem_iff.mpr he)
      obtain ⟨y, hy, q1, _, q3⟩ := All2.mem hys hz
      have : y = x := inj y q3 x hx (by rw [← q1, ez, r1])
      rw [← this]
      exact hy
  have e : ys = sortK xs := up_unique (R := fun a b : Str × PyData => a.1.cps.toList < b.1.cps.toList) (fun x => lt_irr _) (fun x y h1 h2 => List.lt_asymm h1 h2) up (sortK_up nd) fun k => (mem k).trans (sortK_mem xs k).symm
  rw [← e]
  exact All2.mono (fun _ _ h => ⟨h.1, h.2.1⟩) hys
theorem b_sortedItems {i : Nat} {o : Expr} {p pos apos cpos : Pos} (hu : X.A.units + 64 < cLine) (hc : X.calm = true) (hg : Gl X "sorted") (hm : X.mg "sorted" = none) (ho : PE X o (tVar i))
    (hbase : attributeBase o "items" X.env (eval o X.env) = eval o X.env := by rfl) (hline : (apos.endLine == cpos.line) = true := by rfl)
    (hs : starEach [.Call (.Attribute o "items" apos) [] [] cpos] X.env = (false, eval (.Call (.Attribute o "items" apos) [] [] cpos) X.env) :: starEach [] X.env := by rfl) (hpl : (backTo pos (starEach [] X.env)).any (·.1) = false := by rfl) :
    PE X (.Call (.Name "sorted" p) [.Call (.Attribute o "items" apos) [] [] cpos] [] pos) (liftE X.K R (sItems i)) := by
  refine PE.weak (pe_callB (DS.cr_sortedItemsK hc hu) hg hm (by decide +kernel) (pa_one (pe_bm0 PySem.F.plainAttrs_dict PySem.F.slot_dict_items PySem.F.type_dict_items DS.mt_itemsK ho hbase hline) hs) (by decide) (by decide) hs hpl) fun σ H Q ⟨pins, G, ρ, As, s, k⟩ => ?_
  have k : KontE X.K R pins σ G H As Q (match (dkOf (getS ρ i)).bind strKs with
    | some xs => if xs.length < 64 ∧ (xs.map (·.1)).Nodup then .ok (.ls ((sortK xs).map pairD)) ρ else .stuck
    | none => .stuck) := k
  split at k
  · rename_i xs hx
    split at k
    · rename_i hz
      obtain ⟨kvs, h1, h2⟩ := Option.bind_eq_some_iff.mp hx
      obtain ⟨a, es, w1, w2, w3⟩ := dk_at s (dkOf_eq h1)
      obtain ⟨ks, rfl, r2⟩ := strKs_rep w3 h2
      refine ⟨_, w1, .inr (.inr (.inl ⟨rfl, .inl ⟨_, w2⟩⟩)), a, _, rfl, rfl, w2, fun q nq => ?_⟩
      have lk : ks.length = xs.length := All2.len r2
      have keys : ks.map (·.1) = xs.map (·.1) := all2_keys (fun _ _ h => h.1) r2
      refine ⟨q, a, ks, rfl, upd_same, by rw [upd_ne (ne_of_none w2 nq)]; exact w2, by omega, by rw [keys]; exact hz.2, fun H5 l5 ps e5 nl5 perm srt hl5 hz5 hn5 => ?_⟩
      have eH : Same H H5 := (same_new nq _ : Same H _).trans e5
      have nlH : H l5 = none := (same_new nq _ : Same H _).free nl5
      have npH : ∀ z ∈ ps, H z.1 = none := fun z hz' => (same_new nq _ : Same H _).free (hn5 z hz')
      have gl : ∀ b, H b = none → G b = none := fun b h => s.sub.free h
      -- the pairs are shared
      let G5 : Hp := fun b => match G b with
        | some u => some u
        | none => if (ps.any fun z => z.1 == b) = true then H5 b else none
      have g5 : ∀ b u, G b = some u → G5 b = some u := fun b u h => by show (match G b with | some u => some u | none => _) = _; rw [h]
      have g5z : ∀ z ∈ ps, G5 z.1 = some (.tup [.str z.2.1, .ref z.2.2]) := fun z hz' => by
        show (match G z.1 with | some u => some u | none => _) = _
        rw [gl _ (npH z hz')]
        show (if (ps.any fun y => y.1 == z.1) = true then H5 z.1 else none) = _
        rw [if_pos (List.any_eq_true.mpr ⟨z, hz', by simp⟩)]
        exact hz5 z hz'
      have g5n : ∀ b, G b = none → (∀ z ∈ ps, z.1 ≠ b) → G5 b = none := fun b h n => by
        show (match G b with | some u => some u | none => _) = _
        rw [h]
        show (if (ps.any fun y => y.1 == b) = true then H5 b else none) = _
        rw [if_neg]
        intro c
        obtain ⟨z, hz', e⟩ := List.any_eq_true.mp c
        exact n z hz' (by simpa using e)
      have sub5 : Sub G5 H5 := fun b u h => by
        cases hb : G b with
        | some v =>
          rw [g5 b v hb] at h
          cases h
          exact eH b _ (s.sub b _ hb)
        | none =>
          by_cases c : ∃ z ∈ ps, z.1 = b
          · obtain ⟨z, hz', rfl⟩ := c
            rw [g5z z hz'] at h
            cases h
            exact hz5 z hz'
          · rw [g5n b hb fun z hz' e => c ⟨z, hz', e⟩] at h
            cases h
      have r5 := items_rep r2 hz.2 perm srt
      have dps : ∀ {ps' : List (Addr × Str × Addr)} {ys : List (Str × PyData)}, All2 (fun (z : Addr × Str × Addr) (x : Str × PyData) => z.2.1 = x.1 ∧ Dp X.K G (.ref z.2.2) x.2) ps' ys → (∀ z ∈ ps', z ∈ ps) → DpAll X.K G5 (ps'.map fun z => V.ref z.1) (ys.map pairD) := by
        intro ps'
        induction ps' with
        | nil =>
          intro ys h _
          cases ys with
          | nil => exact .nil
          | cons _ _ => exact h.elim
        | cons z ps' ih =>
          intro ys h hin
          cases ys with
          | nil => exact h.elim
          | cons y ys =>
            refine .cons (.tup (SqT.of (g5z z (hin z List.mem_cons_self))) (.cons ?_ (.cons (dp_same g5 h.1.2) .nil))) (ih h.2 fun w hw => hin w (List.mem_cons_of_mem _ hw))
            rw [h.1.1]
            exact .str _
      have hl5z : ∀ z ∈ ps, z.1 ≠ l5 := fun z hz' e => by
        have := hz5 z hz'
        rw [e, hl5] at this
        cases this
      have g : Grow G H G5 H5 [l5] := ⟨⟨g5, fun b u h _ => eH b u h, fun b h h2 _ => g5n b h fun z hz' e => h2 (by rw [← e]; exact npH z hz'), fun b hb => .inr (by rw [List.mem_singleton.mp hb]; exact nlH)⟩, sub5, by simp⟩
      exact KontE.grow s (T := []) k g (.ls (g5n _ (gl _ nlH) hl5z) hl5 (dps r5 fun _ h => h))
    · exact k.elim
  · exact k.elim
end
end Vs
namespace Vs
open PySem PySem.Spec PyProof.Rows L2 Ww
/-! ### the law itself -/
def spLaw (K : PySem.W.Frag) : Sp := fun vs H Q _ => ∃ (a : Addr) (ns : List Int), vs = [.ref a] ∧ SqL K H a (ns.map V.int) ∧ ns.length ≤ 63 ∧ ∀ H', Q (.bl true) H'
def LawOk (F : FF) : Prop := ∀ ns : List Int, ns.length ≤ 63 → ∃ ss, F [.dat (.list (ns.map .int))] = .ok (.dat (.bool true)) ss
theorem spLaw_of {K : PySem.W.Frag} {F : FF} (h : LawOk F) {vs : List V} {H : Hp} {Q : VK} {E : XK} (l : spLaw K vs H Q E) : spF K cl0 F vs H Q E := by
  obtain ⟨a, ns, rfl, hs, hl, q⟩ := l
  obtain ⟨ss, e⟩ := h ns hl
  refine ⟨H, [.dat (.list (ns.map .int))], [], .cons (.dat (.lst hs (dps_ints ns))) .nil, .nil, Sub.refl H, ?_⟩
  rw [e]
  intro G' H' v Bs As' _ _ r _ _
  rw [dat_bool r]
  exact q H'
/-- keywords in the parameters' order, the other way about -/
theorem kb_id {K : PySem.W.Frag} {x qual : Str} {st : Stmt} {f : Addr} {fd : FuncData} {ps : List Str} (F : Fun K x qual st f fd)
    (h : ∀ (kV doc pm : Value) (an : Option Addr) (cdv ct : Value) (ws : List Value), ws.length = ps.length → bindArgs (PySem.W.fnOf x qual (defArgs st) (defBody st) (defScope st) .none kV doc pm an cdv ct) ⟨[], ps.zip ws⟩ = pure (ps.zip ws)) :
    KB0 K fd ps ps (fun ws => ws) (fun zs => zs) := by
  obtain ⟨oc, od, kV, doc, pm, an, cdv, ct, osl, rfl, lk, hcd⟩ := F.ex
  exact ⟨fun s ws hl => .of_eq (h kV doc pm an cdv ct ws hl), fun r => r⟩
theorem vals_rev {zs : List V} {ws : List Value} (r : Vals zs ws) : Vals zs.reverse ws.reverse := by
  induction r with
  | nil => exact .nil
  | cons a _ ih =>
    rw [List.reverse_cons, List.reverse_cons]
    exact Vals.append ih (.cons a .nil)
theorem kb_rev {K : PySem.W.Frag} {x qual : Str} {st : Stmt} {f : Addr} {fd : FuncData} {ps : List Str} (F : Fun K x qual st f fd)
    (h : ∀ (kV doc pm : Value) (an : Option Addr) (cdv ct : Value) (ws : List Value), ws.length = ps.length → bindArgs (PySem.W.fnOf x qual (defArgs st) (defBody st) (defScope st) .none kV doc pm an cdv ct) ⟨[], ps.reverse.zip ws⟩ = pure (ps.zip ws.reverse)) :
    KB0 K fd ps ps.reverse (fun ws => ws.reverse) (fun zs => zs.reverse) := by
  obtain ⟨oc, od, kV, doc, pm, an, cdv, ct, osl, rfl, lk, hcd⟩ := F.ex
  exact ⟨fun s ws hl => .of_eq (h kV doc pm an cdv ct ws (by rw [hl, List.length_reverse])), fun r => vals_rev r⟩
end Vs

namespace Vs
open PySem PySem.Spec PyProof.Rows L2 Ww
/-! ### lent to a call whose later arguments change it, too -/
def lnG (i : Nat) (os : List AO) (ρ : En) : Option Sl → Rs (List AO)
  | some (.val o) => .ok (.ln i o :: os) (ρ.set i .no)
  | some (.bor o) => .ok (.ln i o :: os) (ρ.set i .lent)
  | _ => .stuck
def lendC (i : Nat) (g : CF) : CF := fun ρ => match getS ρ i with
  | some _ => (g ρ).bind fun os ρ1 => lnG i os ρ1 ρ1[i]?
  | none => .stuck
section
variable {R : RK} {X : Cx}
theorem pa_lendC {e : Expr} {es : List Expr} {i : Nat} {g : CF} (h1 : PE X e (tVar i)) (h2 : PA X es (liftC X.K R g)) (hs : starEach (e :: es) X.env = (false, eval e X.env) :: starEach es X.env := by rfl) : PA X (e :: es) (liftC X.K R (lendC i g)) := by
  refine PA.weak (pa_cons h1 h2 hs) fun σ H Q ⟨pins, G, ρ, As, s, k⟩ => ?_
  unfold lendC at k
  split at k
  · rename_i o0 hg
    obtain ⟨v, hv⟩ := Slots.has s.slots hg
    refine ⟨v, hv, pins, G, ρ, As, s, ?_⟩
    refine Kont.bind (T := []) (Q := Q) s.nd (fun a z => nomatch z) k fun os ρ1 G1 H1 As1 vs Bs e1 nd1 r1 s1 k1 => ?_
    have nd1' : (Bs ++ As1).Nodup := by simpa using nd1
    unfold lnG at k1
    split at k1
    · rename_i o ho
      obtain ⟨v', B, Cs, a1, a2, a3, a4, a5⟩ := Slots.out (y := .no) trivial s1.slots (getS_val ho)
      cases (Option.some.inj (Option.some.inj (hv.symm.trans a1)) : v = v')
      have n2 := a4 s1.nd
      have nd2 : ((B ++ Bs) ++ Cs).Nodup := by
        have q : (Bs ++ (B ++ Cs)).Nodup := List.nodup_append.mpr ⟨(List.nodup_append.mp nd1').1, n2, fun a ha b hb z => (List.nodup_append.mp nd1').2.2 a ha b ((a3 b).2 hb) z⟩
        rw [List.append_assoc]
        exact nd_swap q
      refine Kont.now (Bs := B ++ Bs) (Cs := Cs) k1 ⟨a5, (List.nodup_append.mp n2).2.1, s1.sub, s1.pin.set trivial⟩ (fun a z => ?_) nd2 (.b a1 a2 r1)
      simp only [List.mem_append, List.nil_append] at z ⊢
      rcases z with (z | z) | z
      · exact .inr ((a3 a).2 (List.mem_append_left _ z))
      · exact .inl z
      · exact .inr ((a3 a).2 (List.mem_append_right _ z))
    · rename_i o ho
      obtain ⟨v', B, Cs, a1, a2, a3, a4, a5⟩ := Slots.out (y := .lent) trivial s1.slots (getS_bor ho)
      cases (Option.some.inj (Option.some.inj (hv.symm.trans a1)) : v = v')
      have n2 := a4 s1.nd
      have nd2 : ((B ++ Bs) ++ Cs).Nodup := by
        have q : (Bs ++ (B ++ Cs)).Nodup := List.nodup_append.mpr ⟨(List.nodup_append.mp nd1').1, n2, fun a ha b hb z => (List.nodup_append.mp nd1').2.2 a ha b ((a3 b).2 hb) z⟩
        rw [List.append_assoc]
        exact nd_swap q
      refine Kont.now (Bs := B ++ Bs) (Cs := Cs) k1 ⟨a5, (List.nodup_append.mp n2).2.1, s1.sub, s1.pin.lent ho⟩ (fun a z => ?_) nd2 (.b a1 a2 r1)
      simp only [List.mem_append, List.nil_append] at z ⊢
      rcases z with (z | z) | z
      · exact .inr ((a3 a).2 (List.mem_append_left _ z))
      · exact .inl z
      · exact .inr ((a3 a).2 (List.mem_append_right _ z))
    · exact k1.elim
  · exact k.elim
end
end Vs

/-! What the parts of a def compute, as rewriting -/
namespace Vs
open PySem PySem.Spec PyProof.Rows L2 Ww
section
variable {α γ : Type} {ρ : En} {i : Nat}
theorem elim_eq {α β : Type} (o : Option α) (n : β) (s : α → β) : o.elim n s = match o with | some a => s a | none => n := by cases o <;> rfl
@[simp] theorem x_bind_ok (a : α) (ρ : En) (k : α → En → Rs γ) : (Rs.ok a ρ).bind k = k a ρ := (rfl)
@[simp] theorem x_bind_er (c : Str) (o : O) (ρ : En) (k : α → En → Rs γ) : (Rs.er c o ρ : Rs α).bind k = .er c o ρ := (rfl)
@[simp] theorem x_bind_st (k : α → En → Rs γ) : (Rs.stuck : Rs α).bind k = .stuck := (rfl)
@[simp] theorem x_bindS_ok (a : α) (ρ : En) (k : α → En → Out) : (Rs.ok a ρ).bindS k = k a ρ := (rfl)
@[simp] theorem x_bindS_er (c : Str) (o : O) (ρ : En) (k : α → En → Out) : (Rs.er c o ρ : Rs α).bindS k = .er c o ρ := (rfl)
@[simp] theorem x_bindS_st (k : α → En → Out) : (Rs.stuck : Rs α).bindS k = .stuck := (rfl)
@[simp] theorem x_bindX_ok (a : α) (ρ : En) (k : α → En → Rs γ) : (Rs.ok a ρ).bindX k = k a ρ := (rfl)
@[simp] theorem x_seq_nx (ρ : En) (k : En → Out) : (Out.nx ρ).seq k = k ρ := (rfl)
@[simp] theorem x_seq_rt (o : O) (ρ : En) (k : En → Out) : (Out.rt o ρ).seq k = .rt o ρ := (rfl)
@[simp] theorem x_seq_bk (ρ : En) (k : En → Out) : (Out.bk ρ).seq k = .bk ρ := (rfl)
@[simp] theorem x_seq_ct (ρ : En) (k : En → Out) : (Out.ct ρ).seq k = .ct ρ := (rfl)
@[simp] theorem x_seq_er (c : Str) (o : O) (ρ : En) (k : En → Out) : (Out.er c o ρ).seq k = .er c o ρ := (rfl)
@[simp] theorem x_seq_st (k : En → Out) : (Out.stuck).seq k = .stuck := (rfl)
@[simp] theorem x_dv_dat (d : PyData) : (O.dat d).dv = some d := (rfl)
@[simp] theorem x_dv_ls (ds : List PyData) : (O.ls ds).dv = some (.list ds) := (rfl)
@[simp] theorem x_lv_list (ds : List PyData) : (O.dat (.list ds)).lv = some ds := (rfl)
@[simp] theorem x_lv_ls (ds : List PyData) : (O.ls ds).lv = some ds := (rfl)
@[simp] theorem x_lv_tuple (ds : List PyData) : (O.dat (.tuple ds)).lv = none := (rfl)
@[simp] theorem x_lv_str (z : Str) : (O.dat (.str z)).lv = none := (rfl)
@[simp] theorem x_sv_list (ds : List PyData) : (O.dat (.list ds)).sv = some ds := (rfl)
@[simp] theorem x_sv_tuple (ds : List PyData) : (O.dat (.tuple ds)).sv = some ds := (rfl)
@[simp] theorem x_sv_ls (ds : List PyData) : (O.ls ds).sv = some ds := (rfl)
@[simp] theorem x_get_val (o : O) : (Sl.val o).get = some o := (rfl)
@[simp] theorem x_get_bor (o : O) : (Sl.bor o).get = some o := (rfl)
@[simp] theorem x_getS (ρ : En) (i : Nat) : getS ρ i = (ρ[i]?).bind Sl.get := (rfl)
@[simp] theorem x_opd_tmp (ρ : En) (o : O) : (Opd.tmp o).get ρ = some o := (rfl)
@[simp] theorem x_opd_slot (ρ : En) (i : Nat) : (Opd.slot i).get ρ = (ρ[i]?).bind Sl.get := (rfl)
@[simp] theorem x_fin1 (F : O → Option O) (a : O) (ρ : En) : fin1 F (some a) ρ = (F a).elim .stuck fun o => .ok o ρ := by unfold fin1; cases h : F a <;> simp [h]
@[simp] theorem x_fin2 (F : O → O → Option O) (a b : O) (ρ : En) : fin2 F (some a) (some b) ρ = (F a b).elim .stuck fun o => .ok o ρ := by unfold fin2; cases h : F a b <;> simp [h]
@[simp] theorem x_fin3 (F : O → O → O → Option O) (a b c : O) (ρ : En) : fin3 F (some a) (some b) (some c) ρ = (F a b c).elim .stuck fun o => .ok o ρ := by unfold fin3; cases h : F a b c <;> simp [h]
@[simp] theorem x_op1 (F : O → Option O) (f : PF) (ρ : En) : op1 F f ρ = (f ρ).bind fun p ρ1 => fin1 F (p.get ρ1) ρ1 := (rfl)
@[simp] theorem x_op1c (F : O → Option O) (f : PF) (ρ : En) : op1c F f ρ = (f ρ).bind fun p ρ1 => fin1 F (p.get ρ1) ρ1 := (rfl)
@[simp] theorem x_op2 (F : O → O → Option O) (f g : PF) (ρ : En) : op2 F f g ρ = (f ρ).bind fun p ρ1 => (g ρ1).bind fun q ρ2 => fin2 F (p.get ρ2) (q.get ρ2) ρ2 := (rfl)
@[simp] theorem x_op3 (F : O → O → O → Option O) (f g h : PF) (ρ : En) : op3 F f g h ρ = (f ρ).bind fun p ρ1 => (g ρ1).bind fun q ρ2 => (h ρ2).bind fun u ρ3 => fin3 F (p.get ρ3) (q.get ρ3) (u.get ρ3) ρ3 := (rfl)
@[simp] theorem x_op2c (c : O → Bool) (F : O → O → Option O) (f g : PF) (ρ : En) : op2c c F f g ρ = (f ρ).bind fun p ρ1 => (p.get ρ1).elim .stuck fun a => if c a = true then (g ρ1).bind fun q ρ2 => fin2 F (p.get ρ2) (q.get ρ2) ρ2 else .stuck := by unfold op2c; congr 1; funext p ρ1; cases p.get ρ1 <;> rfl
@[simp] theorem x_slotF (i : Nat) (ρ : En) : slotF i ρ = (getS ρ i).elim .stuck fun _ => .ok (.slot i) ρ := by unfold slotF; cases getS ρ i <;> rfl
@[simp] theorem x_tmpF (f : EF) (ρ : En) : tmpF f ρ = (f ρ).bind fun o ρ1 => .ok (.tmp o) ρ1 := (rfl)
@[simp] theorem x_cF (d : PyData) (ρ : En) : cF d ρ = .ok (.dat d) ρ := (rfl)
def varK (i : Nat) (ρ : En) : Option Sl → Res
  | some (.val (.dat d)) => .ok (.dat d) ρ
  | some (.val (.ls ds)) => .ok (.dat (.list ds)) (ρ.set i (.val (.dat (.list ds))))
  | some (.bor (.dat d)) => .ok (.dat d) ρ
  | _ => .stuck
@[simp] theorem x_varF (i : Nat) (ρ : En) : varF i ρ = varK i ρ ρ[i]? := by unfold varF varK; rfl
@[simp] theorem x_varK1 (d : PyData) : varK i ρ (some (.val (.dat d))) = .ok (.dat d) ρ := (rfl)
@[simp] theorem x_varK2 (ds : List PyData) : varK i ρ (some (.val (.ls ds))) = .ok (.dat (.list ds)) (ρ.set i (.val (.dat (.list ds)))) := (rfl)
@[simp] theorem x_varK3 (d : PyData) : varK i ρ (some (.bor (.dat d))) = .ok (.dat d) ρ := (rfl)
def movK (i : Nat) (ρ : En) : Option Sl → Res
  | some (.val o) => .ok o (ρ.set i .no)
  | some (.bor (.dat d)) => .ok (.dat d) ρ
  | _ => .stuck
@[simp] theorem x_movF (i : Nat) (ρ : En) : movF i ρ = movK i ρ ρ[i]? := by unfold movF movK; rfl
@[simp] theorem x_movK1 (o : O) : movK i ρ (some (.val o)) = .ok o (ρ.set i .no) := (rfl)
@[simp] theorem x_movK3 (d : PyData) : movK i ρ (some (.bor (.dat d))) = .ok (.dat d) ρ := (rfl)
def tstK (ρ : En) : O → Rs Bool
  | .dat (.bool b) => .ok b ρ
  | _ => .stuck
@[simp] theorem x_tstF (f : EF) (ρ : En) : tstF f ρ = (f ρ).bind fun o ρ1 => tstK ρ1 o := by unfold tstF tstK; rfl
@[simp] theorem x_tstK (b : Bool) : tstK ρ (.dat (.bool b)) = .ok b ρ := (rfl)
@[simp] theorem x_truF (f : PF) (ρ : En) : truF f ρ = (f ρ).bind fun p ρ1 => (p.get ρ1).elim .stuck fun o => (trO o).elim .stuck fun b => .ok b ρ1 := by unfold truF; congr 1; funext p ρ1; cases p.get ρ1 with
  | none => rfl
  | some o => simp only [Option.elim]; cases trO o <;> rfl
@[simp] theorem x_notT (f : TF) (ρ : En) : notT f ρ = (f ρ).bind fun b ρ1 => .ok (!b) ρ1 := (rfl)
@[simp] theorem x_andT (f g : TF) (ρ : En) : andT f g ρ = (f ρ).bind fun b ρ1 => if b = true then g ρ1 else .ok false ρ1 := (rfl)
@[simp] theorem x_orT (f g : TF) (ρ : En) : orT f g ρ = (f ρ).bind fun b ρ1 => if b = true then .ok true ρ1 else g ρ1 := (rfl)
@[simp] theorem x_ifE (t : TF) (f g : EF) (ρ : En) : ifE t f g ρ = (t ρ).bind fun b ρ1 => if b = true then f ρ1 else g ρ1 := (rfl)
def blK (ρ : En) (t : Res) (e : Res) : O → Res
  | .dat (.bool b) => if b = true then t else e
  | _ => .stuck
@[simp] theorem x_blK (t e : Res) (b : Bool) : blK ρ t e (.dat (.bool b)) = if b = true then t else e := (rfl)
@[simp] theorem x_andE (f g : EF) (ρ : En) : andE f g ρ = (f ρ).bind fun o ρ1 => blK ρ1 (g ρ1) (.ok (.dat (.bool false)) ρ1) o := by
  unfold andE blK
  congr 1
  funext o ρ1
  split <;> first | rfl | skip
  rename_i h1 h2
  split
  · rename_i b
    cases b
    · exact (h2 rfl).elim
    · exact (h1 rfl).elim
  · rfl
@[simp] theorem x_orE (f g : EF) (ρ : En) : orE f g ρ = (f ρ).bind fun o ρ1 => blK ρ1 (.ok (.dat (.bool true)) ρ1) (g ρ1) o := by
  unfold orE blK
  congr 1
  funext o ρ1
  split <;> first | rfl | skip
  rename_i h1 h2
  split
  · rename_i b
    cases b
    · exact (h2 rfl).elim
    · exact (h1 rfl).elim
  · rfl
@[simp] theorem x_nilA (ρ : En) : nilA ρ = .ok [] ρ := (rfl)
@[simp] theorem x_consA (f : EF) (g : AF) (ρ : En) : consA f g ρ = (f ρ).bind fun o ρ1 => (g ρ1).bind fun os ρ2 => .ok (o :: os) ρ2 := (rfl)
@[simp] theorem x_dvs_nil : dvs [] = some [] := (rfl)
@[simp] theorem x_dvs_cons (o : O) (os : List O) : dvs (o :: os) = o.dv.bind fun d => (dvs os).map fun ds => d :: ds := by
  show (match o.dv, dvs os with | some d, some ds => some (d :: ds) | _, _ => none) = _
  cases o.dv <;> cases dvs os <;> rfl
theorem sz_lit : sizeLine = 16777216 := sizeLine_eq
/-- not too much; small numbers are told at once -/
def small : Nat → Bool
  | 0 => true | 1 => true | 2 => true | 3 => true | 4 => true | 5 => true | 6 => true | 7 => true | 8 => true | 9 => true | 10 => true | 11 => true | 12 => true
  | n => decide (n ≤ sizeLine)
theorem small_iff (n : Nat) : (small n = true) = (n ≤ sizeLine) := by
  unfold small
  split <;> first | (rw [sz_lit]; simp; done) | simp
theorem small_of {n : Nat} (h : n ≤ 16777216) : small n = true := by rw [small_iff, sz_lit]; exact h
theorem small_lt (n : Nat) : (n < sizeLine) = (small (n + 1) = true) := by rw [small_iff]; rfl
@[simp] theorem small_len {n : Nat} (h : n ≤ 16777216) : small n = true := small_of h
@[simp] theorem x_tupF (g : AF) (ρ : En) : tupF g ρ = (g ρ).bind fun os ρ1 => (dvs os).elim .stuck fun ds => if small (ds.length) = true then .ok (.dat (.tuple ds)) ρ1 else .stuck := by simp only [small_iff]; unfold tupF; congr 1; funext p ρ1; cases dvs p <;> rfl
@[simp] theorem x_lstF (g : AF) (ρ : En) : lstF g ρ = (g ρ).bind fun os ρ1 => (dvs os).elim .stuck fun ds => if small (ds.length) = true then .ok (.ls ds) ρ1 else .stuck := by simp only [small_iff]; unfold lstF; congr 1; funext p ρ1; cases dvs p <;> rfl
@[simp] theorem x_aD (f : EF) (ρ : En) : aD f ρ = (f ρ).bind fun o ρ1 => o.dv.elim .stuck fun d => .ok (.vl (.dat d)) ρ1 := by unfold aD; congr 1; funext o ρ1; cases o.dv <;> rfl
@[simp] theorem x_aT (f : EF) (ρ : En) : aT f ρ = (f ρ).bind fun o ρ1 => .ok (.vl o) ρ1 := (rfl)
def lnK (i : Nat) (ρ : En) : Option Sl → Rs AO
  | some (.val o) => .ok (.ln i o) (ρ.set i .no)
  | some (.bor o) => .ok (.ln i o) (ρ.set i .lent)
  | _ => .stuck
@[simp] theorem x_aB (i : Nat) (ρ : En) : aB i ρ = lnK i ρ ρ[i]? := by unfold aB lnK; rfl
@[simp] theorem x_lnK1 (o : O) : lnK i ρ (some (.val o)) = .ok (.ln i o) (ρ.set i .no) := (rfl)
@[simp] theorem x_lnK2 (o : O) : lnK i ρ (some (.bor o)) = .ok (.ln i o) (ρ.set i .lent) := (rfl)
@[simp] theorem x_nilC (ρ : En) : nilC ρ = .ok [] ρ := (rfl)
@[simp] theorem x_consC (f : C1F) (g : CF) (ρ : En) : consC f g ρ = (f ρ).bind fun o ρ1 => (g ρ1).bind fun os ρ2 => .ok (o :: os) ρ2 := (rfl)
@[simp] theorem x_lendC (g : CF) (ρ : En) : lendC i g ρ = (getS ρ i).elim .stuck fun _ => (g ρ).bind fun os ρ1 => lnG i os ρ1 ρ1[i]? := by unfold lendC; cases getS ρ i <;> rfl
@[simp] theorem x_lnG1 (os : List AO) (o : O) : lnG i os ρ (some (.val o)) = .ok (.ln i o :: os) (ρ.set i .no) := (rfl)
@[simp] theorem x_lnG2 (os : List AO) (o : O) : lnG i os ρ (some (.bor o)) = .ok (.ln i o :: os) (ρ.set i .lent) := (rfl)
@[simp] theorem x_revC (g : CF) (ρ : En) : revC g ρ = (g ρ).bind fun os ρ1 => .ok os.reverse ρ1 := (rfl)
@[simp] theorem x_aoV (x : O) : (AO.vl x).val = x := (rfl)
@[simp] theorem x_aoL (x : O) : (AO.ln i x).val = x := (rfl)
def putK (i : Nat) (o : O) (ρ : En) : Option Sl → En
  | some .no => ρ.set i (.val o)
  | some .lent => ρ.set i (.bor o)
  | _ => ρ
@[simp] theorem x_putB (o : O) : putB i o ρ = putK i o ρ ρ[i]? := by unfold putB putK; rfl
@[simp] theorem x_putK1 (o : O) : putK i o ρ (some .no) = ρ.set i (.val o) := (rfl)
@[simp] theorem x_putK2 (o : O) : putK i o ρ (some .lent) = ρ.set i (.bor o) := (rfl)
@[simp] theorem x_back_nil (ss : List Sl) (ρ : En) : backF [] ss ρ = ρ := by unfold backF; rfl
@[simp] theorem x_back_nil2 (os : List AO) (ρ : En) : backF os [] ρ = ρ := by unfold backF; split <;> first | rfl | (rename_i h; cases h)
@[simp] theorem x_back_vl (o : O) (r : List AO) (s : Sl) (ss : List Sl) (ρ : En) : backF (.vl o :: r) (s :: ss) ρ = backF r ss ρ := by rw [backF]; exact fun _ _ _ z => nomatch z
@[simp] theorem x_back_ln (o x : O) (r : List AO) (ss : List Sl) (ρ : En) : backF (.ln i o :: r) (.bor x :: ss) ρ = backF r ss (putB i x ρ) := by rw [backF]
@[simp] theorem x_back_no (o : AO) (r : List AO) (ss : List Sl) (ρ : En) : backF (o :: r) (.no :: ss) ρ = backF r ss ρ := by rw [backF]; exact fun _ _ _ _ z => nomatch z
def clK (os : List AO) (ρ : En) : FRs → Res
  | .ok o ss => .ok o (backF os ss ρ)
  | .er c o ss => .er c o (backF os ss ρ)
  | .stuck => .stuck
@[simp] theorem x_callF (F : FF) (g : CF) (ρ : En) : callF F g ρ = (g ρ).bind fun os ρ1 => clK os ρ1 (F (os.map AO.val)) := by unfold callF clK; rfl
@[simp] theorem x_clK (os : List AO) (o : O) (ss : List Sl) : clK os ρ (.ok o ss) = .ok o (backF os ss ρ) := (rfl)
@[simp] theorem x_clE (os : List AO) (c : Str) (o : O) (ss : List Sl) : clK os ρ (.er c o ss) = .er c o (backF os ss ρ) := (rfl)
@[simp] theorem x_seqS (f g : SF) (ρ : En) : seqS f g ρ = (f ρ).seq g := (rfl)
@[simp] theorem x_nxS (ρ : En) : nxS ρ = .nx ρ := (rfl)
@[simp] theorem x_bkS (ρ : En) : bkS ρ = .bk ρ := (rfl)
@[simp] theorem x_ctS (ρ : En) : ctS ρ = .ct ρ := (rfl)
@[simp] theorem x_noS (ρ : En) : noS ρ = .stuck := (rfl)
@[simp] theorem x_retS (f : EF) (ρ : En) : retS f ρ = (f ρ).bindS fun o ρ1 => .rt o ρ1 := (rfl)
@[simp] theorem x_retN (ρ : En) : retN ρ = .rt (.dat .none) ρ := (rfl)
@[simp] theorem x_exS (f : EF) (ρ : En) : exS f ρ = (f ρ).bindS fun _ ρ1 => .nx ρ1 := (rfl)
@[simp] theorem x_ifS (t : TF) (f g : SF) (ρ : En) : ifS t f g ρ = (t ρ).bindS fun b ρ1 => if b = true then f ρ1 else g ρ1 := (rfl)
def stK (i : Nat) (o : O) (ρ : En) : Option Sl → Option En
  | some .no => some (ρ.set i (.val o))
  | some (.val _) => some (ρ.set i (.val o))
  | _ => none
@[simp] theorem x_stO (o : O) : stO i o ρ = stK i o ρ ρ[i]? := by unfold stO stK; rfl
@[simp] theorem x_stK1 (o : O) : stK i o ρ (some .no) = some (ρ.set i (.val o)) := (rfl)
@[simp] theorem x_stK2 (o x : O) : stK i o ρ (some (.val x)) = some (ρ.set i (.val o)) := (rfl)
/-- a slot that may be stored -/
def Fr (s : Sl) : Prop := s = .no ∨ ∃ o, s = .val o
theorem Fr.no : Fr .no := .inl rfl
theorem Fr.val {o : O} : Fr (.val o) := .inr ⟨o, rfl⟩
theorem x_fr {s : Sl} (h : Fr s) (o : O) : stK i o ρ (some s) = some (ρ.set i (.val o)) := by
  rcases h with rfl | ⟨_, rfl⟩ <;> rfl
@[simp] theorem x_setS (f : EF) (ρ : En) : setS i f ρ = (f ρ).bindS fun o ρ1 => (stO i o ρ1).elim .stuck .nx := by unfold setS; congr 1; funext o ρ1; cases stO i o ρ1 <;> rfl
@[simp] theorem x_nmT (d : PyData) (ρ : En) : (nmT i).f d ρ = stO i (.dat d) ρ := (rfl)
@[simp] theorem x_nilTs (ρ : En) : nilTs.f [] ρ = some ρ := (rfl)
@[simp] theorem x_consTs (t : Tg) (u : Tgs) (d : PyData) (ds : List PyData) (ρ : En) : (consTs t u).f (d :: ds) ρ = (t.f d ρ).bind fun ρ1 => u.f ds ρ1 := (rfl)
@[simp] theorem x_tupT (n : Nat) (t : Tgs) (ds : List PyData) (ρ : En) : (tupT n t).f (.tuple ds) ρ = if ds.length = n then t.f ds ρ else none := (rfl)
@[simp] theorem x_tupTl (n : Nat) (t : Tgs) (ds : List PyData) (ρ : En) : (tupT n t).f (.list ds) ρ = if ds.length = n then t.f ds ρ else none := (rfl)
@[simp] theorem x_asgS (t : Tg) (f : EF) (ρ : En) : asgS t f ρ = (f ρ).bindS fun o ρ1 => o.dv.elim .stuck fun d => (t.f d ρ1).elim .stuck .nx := by unfold asgS; congr 1; funext o ρ1; cases o.dv with
  | none => rfl
  | some d => simp only [Option.elim]; cases t.f d ρ1 <;> rfl
def par2K (i j : Nat) (ρ1 : En) : List O → Out
  | [a, b] => ((stO i a ρ1).bind (stO j b)).elim .stuck .nx
  | _ => .stuck
@[simp] theorem x_par2S (j : Nat) (g : AF) (ρ : En) : par2S i j g ρ = (g ρ).bindS fun os ρ1 => par2K i j ρ1 os := by 
  unfold par2S par2K; congr 1; funext os ρ1
  match os with
  | [] => rfl
  | [_] => rfl
  | [a, b] => simp only []; cases (stO i a ρ1).bind (stO j b) <;> rfl
  | _ :: _ :: _ :: _ => rfl
@[simp] theorem x_par2K (j : Nat) (a b : O) : par2K i j ρ [a, b] = ((stO i a ρ).bind (stO j b)).elim .stuck .nx := (rfl)
def par3K (i j l : Nat) (ρ1 : En) : List O → Out
  | [a, b, c] => (((stO i a ρ1).bind (stO j b)).bind (stO l c)).elim .stuck .nx
  | _ => .stuck
@[simp] theorem x_par3S (j l : Nat) (g : AF) (ρ : En) : par3S i j l g ρ = (g ρ).bindS fun os ρ1 => par3K i j l ρ1 os := by 
  unfold par3S par3K; congr 1; funext os ρ1
  match os with
  | [] => rfl
  | [_] => rfl
  | [_, _] => rfl
  | [a, b, c] => simp only []; cases ((stO i a ρ1).bind (stO j b)).bind (stO l c) <;> rfl
  | _ :: _ :: _ :: _ :: _ => rfl
@[simp] theorem x_par3K (j l : Nat) (a b c : O) : par3K i j l ρ [a, b, c] = (((stO i a ρ).bind (stO j b)).bind (stO l c)).elim .stuck .nx := (rfl)
/-! walks -/
def seqK (ρ : En) : O → Rs (List PyData)
  | .dat (.list ds) => .ok ds ρ
  | .ls ds => .ok ds ρ
  | .dat (.tuple ds) => .ok ds ρ
  | _ => .stuck
@[simp] theorem x_itS (f : EF) (ρ : En) : itS f ρ = (f ρ).bind fun o ρ1 => seqK ρ1 o := by unfold itS seqK; rfl
@[simp] theorem x_seqK1 (ds : List PyData) : seqK ρ (.dat (.list ds)) = .ok ds ρ := (rfl)
@[simp] theorem x_seqK2 (ds : List PyData) : seqK ρ (.ls ds) = .ok ds ρ := (rfl)
@[simp] theorem x_seqK3 (ds : List PyData) : seqK ρ (.dat (.tuple ds)) = .ok ds ρ := (rfl)
/-- a number in the range of a range -/
def rngN : Nat → Bool
  | 0 => true | 1 => true | 2 => true | 3 => true
  | n => decide (n ≤ 4611686018427387903)
def rngB : Int → Bool
  | .ofNat n => rngN n
  | .negSucc n => rngN n
theorem rngN_iff (n : Nat) : rngN n = true ↔ n ≤ 4611686018427387903 := by
  unfold rngN
  split <;> simp
theorem rngB_iff (n : Int) : (rngB n = true) = (-(2 ^ 62) ≤ n ∧ n < 2 ^ 62) := by
  cases n with
  | ofNat n => rw [show rngB (.ofNat n) = rngN n from rfl, rngN_iff]; apply propext; simp; omega
  | negSucc n => rw [show rngB (.negSucc n) = rngN n from rfl, rngN_iff]; apply propext; omega
@[simp] theorem rngB_of {n : Int} (h1 : -4611686018427387904 ≤ n) (h2 : n < 4611686018427387904) : rngB n = true := by rw [rngB_iff]; omega
@[simp] theorem x_rng1 (f : PF) (ρ : En) : rng1 f ρ = (f ρ).bind fun p ρ1 => ((p.get ρ1).bind dvI).elim .stuck fun n => if rngB n = true then .ok ((List.range n.toNat).map fun i : Nat => .int ((0 : Int) + (i : Int))) ρ1 else .stuck := by simp only [rngB_iff]; unfold rng1; congr 1; funext p ρ1; cases (p.get ρ1).bind dvI <;> rfl
@[simp] theorem x_rng2 (f g : PF) (ρ : En) : rng2 f g ρ = (f ρ).bind fun p ρ1 => (g ρ1).bind fun q ρ2 => ((p.get ρ2).bind dvI).elim .stuck fun m => ((q.get ρ2).bind dvI).elim .stuck fun n => if rngB m = true ∧ rngB n = true then .ok ((List.range (n - m).toNat).map fun i : Nat => .int (m + (i : Int))) ρ2 else .stuck := by simp only [rngB_iff, and_assoc]; unfold rng2; congr 1; funext p ρ1; congr 1; funext q ρ2; cases (p.get ρ2).bind dvI <;> cases (q.get ρ2).bind dvI <;> rfl
@[simp] theorem x_dvI (n : Int) : dvI (.dat (.int n)) = some n := (rfl)
def strK (ρ : En) : O → Rs (List PyData)
  | .dat (.str z) => .ok (z.cps.toList.map fun c => .str ⟨#[c]⟩) ρ
  | _ => .stuck
@[simp] theorem x_strI (f : EF) (ρ : En) : strI f ρ = (f ρ).bind fun o ρ1 => strK ρ1 o := by unfold strI strK; rfl
@[simp] theorem x_strK (z : Str) : strK ρ (.dat (.str z)) = .ok (z.cps.toList.map fun c => .str ⟨#[c]⟩) ρ := (rfl)
def zipK (ρ : En) : PyData → PyData → Rs (List PyData)
  | .list xs, .list ys => .ok ((xs.zip ys).map fun z => .tuple [z.1, z.2]) ρ
  | .tuple xs, .tuple ys => .ok ((xs.zip ys).map fun z => .tuple [z.1, z.2]) ρ
  | _, _ => .stuck
@[simp] theorem x_zipI (f g : EF) (ρ : En) : zipI f g ρ = (shE f ρ).bind fun a ρ1 => (shE g ρ1).bind fun b ρ2 => zipK ρ2 a b := by unfold zipI zipK; rfl
@[simp] theorem x_zipK1 (xs ys : List PyData) : zipK ρ (.list xs) (.list ys) = .ok ((xs.zip ys).map fun z => .tuple [z.1, z.2]) ρ := (rfl)
@[simp] theorem x_zipK2 (xs ys : List PyData) : zipK ρ (.tuple xs) (.tuple ys) = .ok ((xs.zip ys).map fun z => .tuple [z.1, z.2]) ρ := (rfl)
@[simp] theorem x_shE (f : EF) (ρ : En) : shE f ρ = (f ρ).bind fun o ρ1 => o.dv.elim .stuck fun d => .ok d ρ1 := by unfold shE; congr 1; funext o ρ1; cases o.dv <;> rfl
@[simp] theorem x_forS (it : IF) (t : Tg) (body : SF) (ρ : En) : forS it t body ρ = (it ρ).bindS fun ds ρ1 => loopF t body ds ρ1 := (rfl)
@[simp] theorem x_loop_nil (t : Tg) (body : SF) (ρ : En) : loopF t body [] ρ = .nx ρ := (rfl)
def loopK (k : En → Out) : Out → Out
  | .nx ρ2 => k ρ2
  | .ct ρ2 => k ρ2
  | .bk ρ2 => .nx ρ2
  | .rt o ρ2 => .rt o ρ2
  | .er c o ρ2 => .er c o ρ2
  | .stuck => .stuck
theorem x_loop_cons (t : Tg) (body : SF) (d : PyData) (ds : List PyData) (ρ : En) : loopF t body (d :: ds) ρ = (t.f d ρ).elim .stuck fun ρ1 => loopK (loopF t body ds) (body ρ1) := by 
  rw [loopF]
  cases h : t.f d ρ with
  | none => simp [h]
  | some ρ1 =>
    simp only [h, Option.elim]
    cases h2 : body ρ1 <;> simp [loopK]
@[simp] theorem x_loopK1 (k : En → Out) : loopK k (.nx ρ) = k ρ := (rfl)
@[simp] theorem x_loopK2 (k : En → Out) : loopK k (.ct ρ) = k ρ := (rfl)
@[simp] theorem x_loopK3 (k : En → Out) : loopK k (.bk ρ) = .nx ρ := (rfl)
@[simp] theorem x_loopK4 (k : En → Out) (o : O) : loopK k (.rt o ρ) = .rt o ρ := (rfl)
@[simp] theorem x_loopK5 (k : En → Out) (c : Str) (o : O) : loopK k (.er c o ρ) = .er c o ρ := (rfl)
/-- one way through a loop's body that goes on -/
theorem loop_nx {t : Tg} {body : SF} {d : PyData} {ds : List PyData} {ρ ρ1 ρ2 : En} (h : t.f d ρ = some ρ1) (hb : body ρ1 = .nx ρ2 ∨ body ρ1 = .ct ρ2) : loopF t body (d :: ds) ρ = loopF t body ds ρ2 := by
  rw [x_loop_cons, h]
  rcases hb with e | e <;> simp [e]
theorem loop_rt {t : Tg} {body : SF} {d : PyData} {ds : List PyData} {ρ ρ1 ρ2 : En} {o : O} (h : t.f d ρ = some ρ1) (hb : body ρ1 = .rt o ρ2) : loopF t body (d :: ds) ρ = .rt o ρ2 := by
  rw [x_loop_cons, h]; simp [hb]
theorem loop_bk {t : Tg} {body : SF} {d : PyData} {ds : List PyData} {ρ ρ1 ρ2 : En} (h : t.f d ρ = some ρ1) (hb : body ρ1 = .bk ρ2) : loopF t body (d :: ds) ρ = .nx ρ2 := by
  rw [x_loop_cons, h]; simp [hb]
/-! comprehensions -/
@[simp] theorem x_yesT (ρ : En) : yesT ρ = .ok true ρ := (rfl)
@[simp] theorem x_wipe_nil (ρ : En) : wipeR ρ [] = ρ := (rfl)
@[simp] theorem x_wipe_cons (ρ : En) (v : Nat) (vs : List Nat) : wipeR ρ (v :: vs) = (wipeR ρ vs).set v .no := (rfl)
def restK (i : Nat) (ρ : En) : Option Sl → En
  | some (.val (.dat d)) => match ρ[i]? with
    | some .no => ρ.set i (.val (.dat d))
    | _ => ρ
  | _ => ρ
@[simp] theorem x_rest_nil (ρ1 ρ : En) : restF ρ1 [] ρ = ρ := (rfl)
@[simp] theorem x_rest_cons (ρ1 ρ : En) (is : List Nat) : restF ρ1 (i :: is) ρ = restK i (restF ρ1 is ρ) ρ1[i]? := by
  unfold restK
  first
    | (rw [restF]; done)
    | (rw [restF]; rfl)
@[simp] theorem x_restK_no : restK i ρ (some .no) = ρ := (rfl)
@[simp] theorem x_restK_bor (o : O) : restK i ρ (some (.bor o)) = ρ := (rfl)
@[simp] theorem x_restK_ls (ds : List PyData) : restK i ρ (some (.val (.ls ds))) = ρ := (rfl)
@[simp] theorem x_restK_lent : restK i ρ (some .lent) = ρ := (rfl)
theorem x_restK_dat (d : PyData) (h : ρ[i]? = some .no) : restK i ρ (some (.val (.dat d))) = ρ.set i (.val (.dat d)) := by unfold restK; rw [h]
@[simp] theorem x_lcF (it : IF) (t : Tg) (c : TF) (e : EF) (own : List Nat) (ρ : En) : lcF it t c e own ρ = (it ρ).bind fun ds ρ1 => if small (ds.length) = true then lcFin own ρ1 [] (lcL t c e own ds (wipeR ρ1 own)) else .stuck := by simp only [small_iff]; rfl
@[simp] theorem x_lcFin (own : List Nat) (ρ1 : En) (acc xs : List PyData) (ρ2 : En) : lcFin own ρ1 acc (.ok xs ρ2) = .ok (.ls (acc ++ xs)) (restF ρ1 own ρ2) := (rfl)
@[simp] theorem x_lcL_nil (t : Tg) (c : TF) (e : EF) (own : List Nat) (ρ : En) : lcL t c e own [] ρ = .ok [] ρ := (rfl)
theorem x_lcL_cons (t : Tg) (c : TF) (e : EF) (own : List Nat) (d : PyData) (ds : List PyData) (ρ : En) : lcL t c e own (d :: ds) ρ = (t.f d ρ).elim .stuck fun ρ1 => (c ρ1).bindX fun b ρ2 => if b = true then (e ρ2).bindX fun o ρ3 => o.dv.elim .stuck fun x => (lcL t c e own ds (wipeR ρ3 own)).bindX fun xs ρ4 => .ok (x :: xs) ρ4
      else lcL t c e own ds (wipeR ρ2 own) := by rw [lcL]; cases t.f d ρ with
  | none => rfl
  | some ρ1 =>
    simp only [Option.elim]
    congr 1; funext b ρ2; split
    · congr 1; funext o ρ3; cases o.dv <;> rfl
    · rfl
/-! lists, dicts in slots -/
def updK (i : Nat) (c : O) (ρ : En) : Option Sl → En
  | some (.val _) => ρ.set i (.val c)
  | some (.bor _) => ρ.set i (.bor c)
  | _ => ρ
@[simp] theorem x_updS (c : O) : updS i c ρ = updK i c ρ ρ[i]? := by unfold updS updK; rfl
@[simp] theorem x_updK1 (c o : O) : updK i c ρ (some (.val o)) = ρ.set i (.val c) := (rfl)
@[simp] theorem x_updK2 (c o : O) : updK i c ρ (some (.bor o)) = ρ.set i (.bor c) := (rfl)
@[simp] theorem x_isL_ls (ds : List PyData) : isL (some (.ls ds)) = true := (rfl)
@[simp] theorem x_isL_dat (d : PyData) : isL (some (.dat d)) = false := (rfl)
@[simp] theorem x_isL_dk (kvs : List (L2.Key × PyData)) : isL (some (.dk kvs)) = false := (rfl)
@[simp] theorem x_isD_ls (ds : List PyData) : isD (some (.ls ds)) = false := (rfl)
@[simp] theorem x_isD_dat (d : PyData) : isD (some (.dat d)) = false := (rfl)
@[simp] theorem x_isD_dk (kvs : List (L2.Key × PyData)) : isD (some (.dk kvs)) = true := (rfl)
@[simp] theorem x_finM (c : O) (d : PyData) (ρ : En) : finM i (some (c, d)) ρ = .ok (.dat d) (updS i c ρ) := (rfl)
@[simp] theorem x_mm0 (F : O → Ch) (ρ : En) : mm0 i F ρ = (getS ρ i).elim .stuck fun c => if isL (some c) = true then finM i (F c) ρ else .stuck := by unfold mm0; cases getS ρ i <;> rfl
@[simp] theorem x_mm1 (F : O → PyData → Ch) (f : EF) (ρ : En) : mm1 i F f ρ = if isL (getS ρ i) = true then (shE f ρ).bind fun d ρ1 => (getS ρ1 i).elim .stuck fun c => finM i (F c d) ρ1 else .stuck := by unfold mm1; congr 1; congr 1; funext d ρ1; cases getS ρ1 i <;> rfl
@[simp] theorem x_mm2 (F : O → PyData → PyData → Ch) (f g : EF) (ρ : En) : mm2 i F f g ρ = if isL (getS ρ i) = true then (shE f ρ).bind fun d ρ1 => (shE g ρ1).bind fun e ρ2 => (getS ρ2 i).elim .stuck fun c => finM i (F c d e) ρ2 else .stuck := by unfold mm2; congr 1; congr 1; funext d ρ1; congr 1; funext e ρ2; cases getS ρ2 i <;> rfl
@[simp] theorem x_appO (ds : List PyData) (d : PyData) : appO (.ls ds) d = if small (ds.length + 1) = true then some (.ls (ds ++ [d]), .none) else none := by simp only [small_iff]; rfl
@[simp] theorem x_popO (ds : List PyData) (d : PyData) : popO (.ls (ds ++ [d])) = some (.ls ds, d) := by simp [popO]
@[simp] theorem x_popO2 (ds : List PyData) (d e : PyData) : popO (.ls (ds ++ [d, e])) = some (.ls (ds ++ [d]), e) := by
  rw [show ds ++ [d, e] = (ds ++ [d]) ++ [e] by simp, x_popO]
@[simp] theorem x_popO1 (d : PyData) : popO (.ls [d]) = some (.ls [], d) := (rfl)
@[simp] theorem x_clearO (ds : List PyData) : clearO (.ls ds) = some (.ls [], .none) := (rfl)
@[simp] theorem x_revO (ds : List PyData) : revO (.ls ds) = some (.ls ds.reverse, .none) := (rfl)
@[simp] theorem x_stS (F : O → PyData → PyData → Option O) (ix e : EF) (ρ : En) : stS i F ix e ρ = (shE e ρ).bindS fun d ρ1 => (getS ρ1 i).elim .stuck fun _ => (shE ix ρ1).bindS fun j ρ2 => (getS ρ2 i).elim .stuck fun c => (F c j d).elim .stuck fun c' => .nx (updS i c' ρ2) := by unfold stS; congr 1; funext d ρ1; cases getS ρ1 i with
  | none => rfl
  | some c =>
    simp only [Option.elim]
    congr 1; funext j ρ2; cases getS ρ2 i with
    | none => rfl
    | some c => simp only []; cases F c j d <;> rfl
@[simp] theorem x_stA_ls (ds : List PyData) (ix d : PyData) : stA (.ls ds) ix d = setAt (.ls ds) ix d := (rfl)
@[simp] theorem x_stA_dk (kvs : List (L2.Key × PyData)) (ix d : PyData) : stA (.dk kvs) ix d = putAt (.dk kvs) ix d := (rfl)
@[simp] theorem x_setAt (ds : List PyData) (k : Int) (d : PyData) : setAt (.ls ds) (.int k) d = (ixN ds.length k).map fun j => .ls (ds.set j d) := (rfl)
@[simp] theorem x_keyD_int (n : Int) : keyD (.int n) = some (.inl n) := (rfl)
@[simp] theorem x_keyD_str (z : Str) : keyD (.str z) = some (.inr z) := (rfl)
@[simp] theorem x_putAt (kvs : List (L2.Key × PyData)) (ix d : PyData) : putAt (.dk kvs) ix d = (keyD ix).elim none fun k => if small (kvs.length + 1) = true then some (.dk (putD kvs k d)) else none := by simp only [small_iff]; unfold putAt; cases keyD ix <;> rfl
@[simp] theorem x_dkOf (kvs : List (L2.Key × PyData)) : dkOf (some (.dk kvs)) = some kvs := (rfl)
@[simp] theorem x_look (kvs : List (L2.Key × PyData)) (d : PyData) : look (some (.dk kvs)) d = (keyD d).map fun k => valD kvs k := by unfold look; simp only [x_dkOf]; cases keyD d <;> rfl
@[simp] theorem x_newD (ρ : En) : newD ρ = .ok (.dk []) ρ := (rfl)
def valK (ρ : En) : Option (Option PyData) → Res
  | some (some v) => .ok (.dat v) ρ
  | _ => .stuck
@[simp] theorem x_dIx (f : EF) (ρ : En) : dIx i f ρ = if isD (getS ρ i) = true then (shE f ρ).bind fun d ρ1 => valK ρ1 (look (getS ρ1 i) d) else .stuck := by unfold dIx valK; rfl
@[simp] theorem x_valK (v : PyData) : valK ρ (some (some v)) = .ok (.dat v) ρ := (rfl)
@[simp] theorem x_dGet1 (f : EF) (ρ : En) : dGet1 i f ρ = if isD (getS ρ i) = true then (shE f ρ).bind fun d ρ1 => (look (getS ρ1 i) d).elim .stuck fun v => .ok (.dat (v.getD .none)) ρ1 else .stuck := by unfold dGet1; congr 1; congr 1; funext d ρ1; cases look (getS ρ1 i) d <;> rfl
@[simp] theorem x_dGet2 (f g : EF) (ρ : En) : dGet2 i f g ρ = if isD (getS ρ i) = true then (shE f ρ).bind fun d ρ1 => (shE g ρ1).bind fun e ρ2 => (look (getS ρ2 i) d).elim .stuck fun v => .ok (.dat (v.getD e)) ρ2 else .stuck := by unfold dGet2; congr 1; congr 1; funext d ρ1; congr 1; funext e ρ2; cases look (getS ρ2 i) d <;> rfl
@[simp] theorem x_dIn (f : EF) (ρ : En) : dIn i f ρ = (shE f ρ).bind fun d ρ1 => (look (getS ρ1 i) d).elim .stuck fun v => .ok (.dat (.bool v.isSome)) ρ1 := by unfold dIn; congr 1; funext d ρ1; cases look (getS ρ1 i) d <;> rfl
@[simp] theorem x_dNin (f : EF) (ρ : En) : dNin i f ρ = (shE f ρ).bind fun d ρ1 => (look (getS ρ1 i) d).elim .stuck fun v => .ok (.dat (.bool (!v.isSome))) ρ1 := by unfold dNin; congr 1; funext d ρ1; cases look (getS ρ1 i) d <;> rfl
@[simp] theorem x_dSetd (f g : EF) (ρ : En) : dSetd i f g ρ = if isD (getS ρ i) = true then (shE f ρ).bind fun d ρ1 => (shE g ρ1).bind fun e ρ2 => (dkOf (getS ρ2 i)).elim .stuck fun kvs => (keyD d).elim .stuck fun k => if small (kvs.length + 1) = true then (valD kvs k).elim (.ok (.dat e) (updS i (.dk (putD kvs k e)) ρ2)) (fun v => .ok (.dat v) ρ2) else .stuck else .stuck := by
  simp only [small_iff]
  unfold dSetd
  congr 1; congr 1; funext d ρ1; congr 1; funext e ρ2
  cases dkOf (getS ρ2 i) with
  | none => rfl
  | some kvs =>
    cases keyD d with
    | none => rfl
    | some k =>
      simp only [Option.elim]
      congr 1
      cases valD kvs k <;> rfl
@[simp] theorem x_sItems (ρ : En) : sItems i ρ = ((dkOf (getS ρ i)).bind strKs).elim .stuck fun xs => if xs.length < 64 ∧ (xs.map (·.1)).Nodup then .ok (.ls ((sortK xs).map pairD)) ρ else .stuck := by
  unfold sItems
  cases (dkOf (getS ρ i)).bind strKs <;> rfl
@[simp] theorem x_ixS (f : EF) (ρ : En) : ixS i f ρ = if Vs.isD (getS ρ i) = true then dIx i f ρ else op2 ixO (slotF i) (tmpF f) ρ := (rfl)
@[simp] theorem x_inS (f : EF) (ρ : En) : inS i f ρ = if Vs.isD (getS ρ i) = true then dIn i f ρ else op2 inO (tmpF f) (slotF i) ρ := (rfl)
@[simp] theorem x_ninS (f : EF) (ρ : En) : ninS i f ρ = if Vs.isD (getS ρ i) = true then dNin i f ρ else op2 ninO (tmpF f) (slotF i) ρ := (rfl)
@[simp] theorem x_nilP (ρ : En) : nilP ρ = .ok [] ρ := (rfl)
@[simp] theorem x_consP (f g : EF) (h : PrF) (ρ : En) : consP f g h ρ = (shE f ρ).bind fun k ρ1 => (shE g ρ1).bind fun v ρ2 => (h ρ2).bind fun r ρ3 => .ok ((k, v) :: r) ρ3 := (rfl)
@[simp] theorem x_keysOf_nil : keysOf [] = some [] := (rfl)
@[simp] theorem x_keysOf_cons (k v : PyData) (r : List (PyData × PyData)) : keysOf ((k, v) :: r) = (keyD k).bind fun kk => (keysOf r).map fun rr => (kk, v) :: rr := by
  show (match keyD k, keysOf r with | some kk, some rr => some ((kk, v) :: rr) | _, _ => none) = _
  cases keyD k <;> cases keysOf r <;> rfl
@[simp] theorem x_dispF (h : PrF) (ρ : En) : dispF h ρ = (h ρ).bind fun ps ρ1 => (keysOf ps).elim .stuck fun kvs => if kvs.length ≤ 15 then .ok (.dk (mergeD [] kvs)) ρ1 else .stuck := by unfold dispF; congr 1; funext ps ρ1; cases keysOf ps <;> rfl
/-! operations -/
@[simp] theorem x_bo (b : Bool) : bo b = some (.dat (.bool b)) := (rfl)
@[simp] theorem x_add_i (i j : Int) : addO (.dat (.int i)) (.dat (.int j)) = some (.dat (.int (i + j))) := (rfl)
@[simp] theorem x_add_s (x y : Str) : addO (.dat (.str x)) (.dat (.str y)) = if small (x.length + y.length) = true then some (.dat (.str (x ++ y))) else none := by simp only [small_iff]; rfl
@[simp] theorem x_add_t (xs ys : List PyData) : addO (.dat (.tuple xs)) (.dat (.tuple ys)) = if xs ≠ [] ∧ small (xs.length + ys.length) = true then some (.dat (.tuple (xs ++ ys))) else none := by simp only [small_iff]; rfl
@[simp] theorem x_add_l1 (xs ys : List PyData) : addO (.ls xs) (.ls ys) = if small (xs.length + ys.length) = true then some (.ls (xs ++ ys)) else none := by simp only [small_iff]; rfl
@[simp] theorem x_add_l2 (xs ys : List PyData) : addO (.dat (.list xs)) (.ls ys) = if small (xs.length + ys.length) = true then some (.ls (xs ++ ys)) else none := by simp only [small_iff]; rfl
@[simp] theorem x_add_l3 (xs ys : List PyData) : addO (.ls xs) (.dat (.list ys)) = if small (xs.length + ys.length) = true then some (.ls (xs ++ ys)) else none := by simp only [small_iff]; rfl
@[simp] theorem x_add_l4 (xs ys : List PyData) : addO (.dat (.list xs)) (.dat (.list ys)) = if small (xs.length + ys.length) = true then some (.ls (xs ++ ys)) else none := by simp only [small_iff]; rfl
@[simp] theorem x_sub_i (i j : Int) : subO (.dat (.int i)) (.dat (.int j)) = some (.dat (.int (i - j))) := (rfl)
@[simp] theorem x_mul_i (i j : Int) : mulO (.dat (.int i)) (.dat (.int j)) = if (Wid i ∧ Wid j) ∨ nar i = true ∨ nar j = true then some (.dat (.int (i * j))) else none := (rfl)
theorem nar_of {i : Int} (h1 : -18446744073709551616 < i) (h2 : i < 18446744073709551616) : nar i = true := by
  unfold nar
  rw [decide_eq_true_eq]
  omega
@[simp] theorem x_fdiv_i (i j : Int) : fdivO (.dat (.int i)) (.dat (.int j)) = if 0 < j ∧ Wid j then some (.dat (.int (i / j))) else none := (rfl)
@[simp] theorem x_mod_i (i j : Int) : modO (.dat (.int i)) (.dat (.int j)) = if 0 < j then some (.dat (.int (i % j))) else none := (rfl)
theorem powOk_s {i j : Int} (h0 : 0 ≤ j) (h1 : j ≤ 1000000) (h : i.natAbs < 2 ^ 64) : powOk i j = true := by
  unfold powOk
  rw [Bool.or_eq_true, decide_eq_true_eq, decide_eq_true_eq]
  exact .inl ⟨h0, h1, h⟩
theorem powOk_b {i j : Int} (h0 : 0 ≤ j) (h1 : j ≤ 64) (h : i.natAbs < 2 ^ 1024) : powOk i j = true := by
  unfold powOk
  rw [Bool.or_eq_true, decide_eq_true_eq, decide_eq_true_eq]
  exact .inr ⟨h0, h1, h⟩
@[simp] theorem powOk_10_6 : powOk 10 6 = true := powOk_s (by decide) (by decide) (by decide)
@[simp] theorem powOk_10_7 : powOk 10 7 = true := powOk_s (by decide) (by decide) (by decide)
@[simp] theorem powOk_10_9 : powOk 10 9 = true := powOk_s (by decide) (by decide) (by decide)
@[simp] theorem powOk_10_12 : powOk 10 12 = true := powOk_s (by decide) (by decide) (by decide)
@[simp] theorem powOk_10_15 : powOk 10 15 = true := powOk_s (by decide) (by decide) (by decide)
@[simp] theorem powOk_10_18 : powOk 10 18 = true := powOk_s (by decide) (by decide) (by decide)
@[simp] theorem powOk_10_30 : powOk 10 30 = true := powOk_s (by decide) (by decide) (by decide)
@[simp] theorem powOk_10_31 : powOk 10 31 = true := powOk_s (by decide) (by decide) (by decide)
@[simp] theorem powOk_10_33 : powOk 10 33 = true := powOk_s (by decide) (by decide) (by decide)
@[simp] theorem powOk_10_36 : powOk 10 36 = true := powOk_s (by decide) (by decide) (by decide)
@[simp] theorem powOk_10_40 : powOk 10 40 = true := powOk_s (by decide) (by decide) (by decide)
@[simp] theorem x_pow_i (i j : Int) : powO (.dat (.int i)) (.dat (.int j)) = if powOk i j = true then some (.dat (.int (i ^ j.toNat))) else none := (rfl)
@[simp] theorem x_neg_i (i : Int) : negO (.dat (.int i)) = some (.dat (.int (-i))) := (rfl)
@[simp] theorem x_lt_i (i j : Int) : ltO (.dat (.int i)) (.dat (.int j)) = bo (decide (i < j)) := (rfl)
@[simp] theorem x_lt_s (i j : Str) : ltO (.dat (.str i)) (.dat (.str j)) = bo (decide (i.cps.toList < j.cps.toList)) := (rfl)
@[simp] theorem x_le_i (i j : Int) : leO (.dat (.int i)) (.dat (.int j)) = bo (decide (i ≤ j)) := (rfl)
@[simp] theorem x_gt_i (i j : Int) : gtO (.dat (.int i)) (.dat (.int j)) = bo (decide (j < i)) := (rfl)
@[simp] theorem x_ge_i (i j : Int) : geO (.dat (.int i)) (.dat (.int j)) = bo (decide (j ≤ i)) := (rfl)
@[simp] theorem x_eqO (a b : PyData) : eqO (.dat a) (.dat b) = if min a.depth b.depth ≤ 64 then bo (PyData.eqv a b) else none := (rfl)
@[simp] theorem x_neO (a b : PyData) : neO (.dat a) (.dat b) = if min a.depth b.depth ≤ 64 then bo (!PyData.eqv a b) else none := (rfl)
@[simp] theorem x_neO_ls (a b : List PyData) : neO (.ls a) (.ls b) = if min (PyData.list a).depth (PyData.list b).depth ≤ 64 then bo (!PyData.eqv (.list a) (.list b)) else none := (rfl)
@[simp] theorem x_eqO_ls (a b : List PyData) : eqO (.ls a) (.ls b) = if min (PyData.list a).depth (PyData.list b).depth ≤ 64 then bo (PyData.eqv (.list a) (.list b)) else none := (rfl)
@[simp] theorem x_eqO_ls1 (a : List PyData) (b : PyData) : eqO (.ls a) (.dat b) = if min (PyData.list a).depth b.depth ≤ 64 then bo (PyData.eqv (.list a) b) else none := (rfl)
@[simp] theorem x_eqO_ls2 (b : List PyData) (a : PyData) : eqO (.dat a) (.ls b) = if min a.depth (PyData.list b).depth ≤ 64 then bo (PyData.eqv a (.list b)) else none := (rfl)
@[simp] theorem x_neO_ls1 (a : List PyData) (b : PyData) : neO (.ls a) (.dat b) = if min (PyData.list a).depth b.depth ≤ 64 then bo (!PyData.eqv (.list a) b) else none := (rfl)
@[simp] theorem x_neO_ls2 (b : List PyData) (a : PyData) : neO (.dat a) (.ls b) = if min a.depth (PyData.list b).depth ≤ 64 then bo (!PyData.eqv a (.list b)) else none := (rfl)
@[simp] theorem x_in_s (i j : Str) : inO (.dat (.str i)) (.dat (.str j)) = bo (strIn i j) := (rfl)
@[simp] theorem x_nin_s (i j : Str) : ninO (.dat (.str i)) (.dat (.str j)) = bo (!strIn i j) := (rfl)
theorem x_in_sq (a b : O) (d : PyData) (xs : List PyData) (ha : a.dv = some d) (hb : b.sv = some xs) : inO a b = if min (PyData.depthAll xs) d.depth ≤ 60 then bo (xs.any fun y => PyData.eqv y d) else none := by
  unfold inO
  split
  · cases hb
  · simp [ha, hb]
theorem x_nin_sq (a b : O) (d : PyData) (xs : List PyData) (ha : a.dv = some d) (hb : b.sv = some xs) : ninO a b = if min (PyData.depthAll xs) d.depth ≤ 60 then bo (!xs.any fun y => PyData.eqv y d) else none := by
  unfold ninO
  split
  · cases hb
  · simp [ha, hb]
@[simp] theorem x_in_1 (d : PyData) (xs : List PyData) : inO (.dat d) (.dat (.list xs)) = if min (PyData.depthAll xs) d.depth ≤ 60 then bo (xs.any fun y => PyData.eqv y d) else none := x_in_sq _ _ _ _ rfl rfl
@[simp] theorem x_in_2 (d : PyData) (xs : List PyData) : inO (.dat d) (.dat (.tuple xs)) = if min (PyData.depthAll xs) d.depth ≤ 60 then bo (xs.any fun y => PyData.eqv y d) else none := x_in_sq _ _ _ _ rfl rfl
@[simp] theorem x_in_3 (d : PyData) (xs : List PyData) : inO (.dat d) (.ls xs) = if min (PyData.depthAll xs) d.depth ≤ 60 then bo (xs.any fun y => PyData.eqv y d) else none := x_in_sq _ _ _ _ rfl rfl
@[simp] theorem x_nin_1 (d : PyData) (xs : List PyData) : ninO (.dat d) (.dat (.list xs)) = if min (PyData.depthAll xs) d.depth ≤ 60 then bo (!xs.any fun y => PyData.eqv y d) else none := x_nin_sq _ _ _ _ rfl rfl
@[simp] theorem x_nin_2 (d : PyData) (xs : List PyData) : ninO (.dat d) (.dat (.tuple xs)) = if min (PyData.depthAll xs) d.depth ≤ 60 then bo (!xs.any fun y => PyData.eqv y d) else none := x_nin_sq _ _ _ _ rfl rfl
@[simp] theorem x_nin_3 (d : PyData) (xs : List PyData) : ninO (.dat d) (.ls xs) = if min (PyData.depthAll xs) d.depth ≤ 60 then bo (!xs.any fun y => PyData.eqv y d) else none := x_nin_sq _ _ _ _ rfl rfl
@[simp] theorem x_ix_s (z : Str) (i : Int) : ixO (.dat (.str z)) (.dat (.int i)) = if small (z.length) = true then (atI z.cps.toList i).map (fun c => .dat (.str ⟨#[c]⟩)) else none := by simp only [small_iff]; rfl
theorem x_ix_sq (a : O) (i : Int) (ds : List PyData) (h : a.sv = some ds) : ixO a (.dat (.int i)) = (atI ds i).map .dat := by
  unfold ixO
  split
  · cases h
  · rename_i e
    cases e
    simp [h]
  · rename_i n1 n2
    exact (n1 i rfl).elim
@[simp] theorem x_ix_1 (i : Int) (ds : List PyData) : ixO (.dat (.list ds)) (.dat (.int i)) = (atI ds i).map .dat := x_ix_sq _ _ _ rfl
@[simp] theorem x_ix_2 (i : Int) (ds : List PyData) : ixO (.dat (.tuple ds)) (.dat (.int i)) = (atI ds i).map .dat := x_ix_sq _ _ _ rfl
@[simp] theorem x_ix_3 (i : Int) (ds : List PyData) : ixO (.ls ds) (.dat (.int i)) = (atI ds i).map .dat := x_ix_sq _ _ _ rfl
/-- items by small numbers -/
@[simp] theorem x_at0 {α : Type} (a : α) (r : List α) : atI (a :: r) 0 = some a := by simp [atI, ixN]
@[simp] theorem x_at1 {α : Type} (a b : α) (r : List α) : atI (a :: b :: r) 1 = some b := by
  have h : (1 : Int) < (r.length : Int) + 1 + 1 := by omega
  simp [atI, ixN, h]
@[simp] theorem x_at2 {α : Type} (a b c : α) (r : List α) : atI (a :: b :: c :: r) 2 = some c := by
  have h : (2 : Int) < (r.length : Int) + 1 + 1 + 1 := by omega
  simp [atI, ixN, h]
@[simp] theorem x_at3 {α : Type} (a b c d : α) (r : List α) : atI (a :: b :: c :: d :: r) 3 = some d := by
  have h : (3 : Int) < (r.length : Int) + 1 + 1 + 1 + 1 := by omega
  simp [atI, ixN, h]
@[simp] theorem x_at4 {α : Type} (a b c d e : α) (r : List α) : atI (a :: b :: c :: d :: e :: r) 4 = some e := by
  have h : (4 : Int) < (r.length : Int) + 1 + 1 + 1 + 1 + 1 := by omega
  simp [atI, ixN, h]
theorem x_atN {α : Type} (xs : List α) (j : Nat) (h : j < xs.length) : atI xs (j : Int) = some xs[j] := by
  simp [atI, ixN, h]
@[simp] theorem x_len_s (z : Str) : lenO (.dat (.str z)) = if small (z.length) = true then some (.dat (.int z.length)) else none := by simp only [small_iff]; rfl
@[simp] theorem x_len_1 (ds : List PyData) : lenO (.dat (.list ds)) = some (.dat (.int ds.length)) := (rfl)
@[simp] theorem x_len_2 (ds : List PyData) : lenO (.dat (.tuple ds)) = some (.dat (.int ds.length)) := (rfl)
@[simp] theorem x_len_3 (ds : List PyData) : lenO (.ls ds) = some (.dat (.int ds.length)) := (rfl)
@[simp] theorem x_tr_none : trO (.dat .none) = some false := (rfl)
@[simp] theorem x_tr_bool (b : Bool) : trO (.dat (.bool b)) = some b := (rfl)
@[simp] theorem x_tr_int (i : Int) : trO (.dat (.int i)) = some (i != 0) := (rfl)
@[simp] theorem x_tr_str (z : Str) : trO (.dat (.str z)) = if small (z.length) = true then some ((z.length : Int) != 0) else none := by simp only [small_iff]; rfl
@[simp] theorem x_tr_list (ds : List PyData) : trO (.dat (.list ds)) = some (!ds.isEmpty) := (rfl)
@[simp] theorem x_tr_tuple (ds : List PyData) : trO (.dat (.tuple ds)) = some (!ds.isEmpty) := (rfl)
@[simp] theorem x_tr_ls (ds : List PyData) : trO (.ls ds) = some (!ds.isEmpty) := (rfl)
@[simp] theorem x_tr_dk (kvs : List (L2.Key × PyData)) : trO (.dk kvs) = some (!kvs.isEmpty) := (rfl)
@[simp] theorem x_not_b (b : Bool) : notO (.dat (.bool b)) = some (.dat (.bool !b)) := (rfl)
@[simp] theorem x_isN_none : isNO (.dat .none) = some (.dat (.bool true)) := (rfl)
theorem x_isN {d : PyData} (h : d ≠ .none) : isNO (.dat d) = some (.dat (.bool false)) := by cases d <;> first | exact (h rfl).elim | rfl
@[simp] theorem x_isN_ls (ds : List PyData) : isNO (.ls ds) = some (.dat (.bool false)) := (rfl)
@[simp] theorem x_isN_tuple (ds : List PyData) : isNO (.dat (.tuple ds)) = some (.dat (.bool false)) := (rfl)
@[simp] theorem x_isN_list (ds : List PyData) : isNO (.dat (.list ds)) = some (.dat (.bool false)) := (rfl)
@[simp] theorem x_isN_str (z : Str) : isNO (.dat (.str z)) = some (.dat (.bool false)) := (rfl)
@[simp] theorem x_isN_int (z : Int) : isNO (.dat (.int z)) = some (.dat (.bool false)) := (rfl)
@[simp] theorem x_isN_bool (z : Bool) : isNO (.dat (.bool z)) = some (.dat (.bool false)) := (rfl)
@[simp] theorem x_notN_none : notNO (.dat .none) = some (.dat (.bool false)) := (rfl)
@[simp] theorem x_notN_ls (ds : List PyData) : notNO (.ls ds) = some (.dat (.bool true)) := (rfl)
@[simp] theorem x_notN_tuple (ds : List PyData) : notNO (.dat (.tuple ds)) = some (.dat (.bool true)) := (rfl)
@[simp] theorem x_notN_list (ds : List PyData) : notNO (.dat (.list ds)) = some (.dat (.bool true)) := (rfl)
@[simp] theorem x_notN_str (z : Str) : notNO (.dat (.str z)) = some (.dat (.bool true)) := (rfl)
@[simp] theorem x_notN_int (z : Int) : notNO (.dat (.int z)) = some (.dat (.bool true)) := (rfl)
@[simp] theorem x_int_i (i : Int) : intO (.dat (.int i)) = some (.dat (.int i)) := (rfl)
@[simp] theorem x_int_b (b : Bool) : intO (.dat (.bool b)) = some (.dat (.int (if b then 1 else 0))) := (rfl)
@[simp] theorem x_isa_list (ns : List String) (ds : List PyData) : isaO ns (.dat (.list ds)) = some (.dat (.bool (ns.any fun n => isA "list" n))) := (rfl)
@[simp] theorem x_isa_ls (ns : List String) (ds : List PyData) : isaO ns (.ls ds) = some (.dat (.bool (ns.any fun n => isA "list" n))) := (rfl)
@[simp] theorem x_isa_tuple (ns : List String) (ds : List PyData) : isaO ns (.dat (.tuple ds)) = some (.dat (.bool (ns.any fun n => isA "tuple" n))) := (rfl)
@[simp] theorem x_isa_str (ns : List String) (z : Str) : isaO ns (.dat (.str z)) = some (.dat (.bool (ns.any fun n => isA "str" n))) := (rfl)
@[simp] theorem x_isa_int (ns : List String) (z : Int) : isaO ns (.dat (.int z)) = some (.dat (.bool (ns.any fun n => isA "int" n))) := (rfl)
@[simp] theorem x_isa_bool (ns : List String) (z : Bool) : isaO ns (.dat (.bool z)) = some (.dat (.bool (ns.any fun n => isA "bool" n))) := (rfl)
@[simp] theorem x_isa_none (ns : List String) : isaO ns (.dat .none) = some (.dat (.bool (ns.any fun n => isA "NoneType" n))) := (rfl)
@[simp] theorem x_list (a : O) : listO a = a.sv.map .ls := (rfl)
@[simp] theorem x_tuple_ls (ds : List PyData) : tupleO (.ls ds) = some (.dat (.tuple ds)) := (rfl)
@[simp] theorem x_tuple_l (ds : List PyData) : tupleO (.dat (.list ds)) = some (.dat (.tuple ds)) := (rfl)
@[simp] theorem x_tuple_t (ds : List PyData) : tupleO (.dat (.tuple ds)) = some (.dat (.tuple ds)) := (rfl)
@[simp] theorem x_isStr (z : Str) : isStr (.dat (.str z)) = true := (rfl)
@[simp] theorem x_isLst1 (ds : List PyData) : isLst (.ls ds) = true := (rfl)
@[simp] theorem x_isLst2 (ds : List PyData) : isLst (.dat (.list ds)) = true := (rfl)
@[simp] theorem x_revL1 (ds : List PyData) : revLO (.ls ds) = some (.ls ds.reverse) := (rfl)
@[simp] theorem x_revL2 (ds : List PyData) : revLO (.dat (.list ds)) = some (.ls ds.reverse) := (rfl)
/-! loops by what stays -/
theorem loop_inv {t : Tg} {body : SF} {ds : List PyData} {ρ : En} (I : Nat → En → Prop) (h0 : I 0 ρ)
    (step : ∀ i d ρ, ds[i]? = some d → I i ρ → ∃ ρ1 ρ2, t.f d ρ = some ρ1 ∧ (body ρ1 = .nx ρ2 ∨ body ρ1 = .ct ρ2) ∧ I (i + 1) ρ2) : ∃ ρ', loopF t body ds ρ = .nx ρ' ∧ I ds.length ρ' := by
  have go : ∀ (es : List PyData) (k : Nat) (ρ : En), I k ρ → (∀ i, ds[k + i]? = es[i]?) → ∃ ρ', loopF t body es ρ = .nx ρ' ∧ I (k + es.length) ρ' := by
    intro es
    induction es with
    | nil => exact fun k ρ h _ => ⟨ρ, rfl, h⟩
    | cons d es ih =>
      intro k ρ h e
      obtain ⟨ρ1, ρ2, h1, h2, h3⟩ := step k d ρ (by simpa using e 0) h
      obtain ⟨ρ', h4, h5⟩ := ih (k + 1) ρ2 h3 fun i => by
        have := e (i + 1)
        rw [List.getElem?_cons_succ] at this
        rw [← this]
        congr 1
        omega
      refine ⟨ρ', by rw [loop_nx h1 h2]; exact h4, ?_⟩
      rw [List.length_cons]
      rw [show k + (es.length + 1) = k + 1 + es.length by omega]
      exact h5
  obtain ⟨ρ', h1, h2⟩ := go ds 0 ρ h0 fun i => by rw [Nat.zero_add]
  rw [Nat.zero_add] at h2
  exact ⟨ρ', h1, h2⟩
theorem loop_rng {t : Tg} {body : SF} {n : Nat} {lo : Int} {ρ : En} (I : Nat → En → Prop) (h0 : I 0 ρ)
    (step : ∀ i ρ, i < n → I i ρ → ∃ ρ1 ρ2, t.f (.int (lo + (i : Int))) ρ = some ρ1 ∧ (body ρ1 = .nx ρ2 ∨ body ρ1 = .ct ρ2) ∧ I (i + 1) ρ2) : ∃ ρ', loopF t body ((List.range n).map fun i : Nat => .int (lo + (i : Int))) ρ = .nx ρ' ∧ I n ρ' := by
  obtain ⟨ρ', h1, h2⟩ := loop_inv (t := t) (body := body) (ds := (List.range n).map fun i : Nat => .int (lo + (i : Int))) I h0 fun i d ρ hd h => by
    rw [List.getElem?_map] at hd
    obtain ⟨j, hj, rfl⟩ := Option.map_eq_some_iff.mp hd
    obtain ⟨hl, e⟩ := List.getElem?_eq_some_iff.mp hj
    rw [List.getElem_range] at e
    subst e
    rw [List.length_range] at hl
    exact step i ρ hl h
  rw [List.length_map, List.length_range] at h2
  exact ⟨ρ', h1, h2⟩
theorem loop_rng0 {t : Tg} {body : SF} {n : Nat} {ρ : En} (I : Nat → En → Prop) (h0 : I 0 ρ)
    (step : ∀ i ρ, i < n → I i ρ → ∃ ρ1 ρ2, t.f (.int (i : Int)) ρ = some ρ1 ∧ (body ρ1 = .nx ρ2 ∨ body ρ1 = .ct ρ2) ∧ I (i + 1) ρ2) : ∃ ρ', loopF t body ((List.range n).map fun i : Nat => .int (i : Int)) ρ = .nx ρ' ∧ I n ρ' := by
  have := loop_rng (t := t) (body := body) (n := n) (lo := 0) I h0 fun i ρ a b => by rw [Int.zero_add]; exact step i ρ a b
  simpa using this
/-- a while by what stays and what grows less -/
theorem while_inv {t : TF} {body : SF} (I : Nat → En → Prop) (D : En → Prop)
    (step : ∀ m ρ, I m ρ → (∃ ρ1, t ρ = .ok false ρ1 ∧ D ρ1) ∨ ∃ ρ1 ρ2 m', t ρ = .ok true ρ1 ∧ body ρ1 = .nx ρ2 ∧ m' < m ∧ I m' ρ2) : ∀ {m : Nat} {ρ : En}, I m ρ → ∃ ρ', whileS t body ρ = .nx ρ' ∧ D ρ' := by
  intro m
  induction m using Nat.strongRecOn with
  | ind m ih =>
    intro ρ h
    rcases step m ρ h with ⟨ρ1, h1, h2⟩ | ⟨ρ1, ρ2, m', h1, h2, h3, h4⟩
    · exact ⟨ρ1, whileS_done h1, h2⟩
    · obtain ⟨ρ', h5, h6⟩ := ih m' h3 h4
      exact ⟨ρ', whileS_next h1 h2 h5 (fun z => nomatch z), h6⟩
/-- a comprehension whose parts leave the slots as they are -/
theorem lcL_map {t : Tg} {e : EF} {own : List Nat} {ρ : En} (g : PyData → PyData) : ∀ {ds : List PyData}, (∀ d ∈ ds, ∃ ρ1 ρ2 o, t.f d ρ = some ρ1 ∧ e ρ1 = .ok o ρ2 ∧ o.dv = some (g d) ∧ wipeR ρ2 own = ρ) → lcL t yesT e own ds ρ = .ok (ds.map g) ρ
  | [], _ => rfl
  | d :: ds, h => by
    obtain ⟨ρ1, ρ2, o, h1, h2, h3, h4⟩ := h d List.mem_cons_self
    have ih := lcL_map (t := t) (e := e) (own := own) (ρ := ρ) g (ds := ds) fun z hz => h z (List.mem_cons_of_mem _ hz)
    rw [x_lcL_cons, h1]
    simp [h2, h3, h4, ih]
/-- one by one, by what stays -/
theorem lcL_inv {t : Tg} {e : EF} {own : List Nat} (I : Nat → List PyData → En → Prop) : ∀ {ds : List PyData} {k : Nat} {acc : List PyData} {ρ : En}, I k acc ρ →
    (∀ i d acc ρ, d ∈ ds → i < k + ds.length → I i acc ρ → ∃ ρ1 ρ2 o x, t.f d ρ = some ρ1 ∧ e ρ1 = .ok o ρ2 ∧ o.dv = some x ∧ I (i + 1) (acc ++ [x]) (wipeR ρ2 own)) → ∃ xs ρ', lcL t yesT e own ds ρ = .ok xs ρ' ∧ I (k + ds.length) (acc ++ xs) ρ'
  | [], k, acc, ρ, h, _ => ⟨[], ρ, rfl, by simpa using h⟩
  | d :: ds, k, acc, ρ, h, step => by
    obtain ⟨ρ1, ρ2, o, x, h1, h2, h3, h4⟩ := step k d acc ρ List.mem_cons_self (by rw [List.length_cons]; omega) h
    obtain ⟨xs, ρ', h5, h6⟩ := lcL_inv (t := t) (e := e) (own := own) I (ds := ds) h4 fun i d acc ρ hd hi => step i d acc ρ (List.mem_cons_of_mem _ hd) (by rw [List.length_cons]; omega)
    refine ⟨x :: xs, ρ', ?_, ?_⟩
    · rw [x_lcL_cons, h1]
      simp [h2, h3, h5]
    · rw [List.append_assoc] at h6
      rw [List.length_cons, show k + (ds.length + 1) = k + 1 + ds.length by omega]
      exact h6
/-- with a test -/
theorem lcL_filter {t : Tg} {c : TF} {e : EF} {own : List Nat} {ρ : En} (p : PyData → Bool) (g : PyData → PyData) : ∀ {ds : List PyData}, (∀ d ∈ ds, ∃ ρ1 ρ2, t.f d ρ = some ρ1 ∧ c ρ1 = .ok (p d) ρ2 ∧ (p d = false → wipeR ρ2 own = ρ) ∧ (p d = true → ∃ ρ3 o, e ρ2 = .ok o ρ3 ∧ o.dv = some (g d) ∧ wipeR ρ3 own = ρ)) → lcL t c e own ds ρ = .ok ((ds.filter p).map g) ρ
  | [], _ => rfl
  | d :: ds, h => by
    obtain ⟨ρ1, ρ2, h1, h2, h3, h4⟩ := h d List.mem_cons_self
    have ih := lcL_filter (t := t) (c := c) (e := e) (own := own) (ρ := ρ) p g (ds := ds) fun z hz => h z (List.mem_cons_of_mem _ hz)
    rw [x_lcL_cons, h1]
    cases hp : p d with
    | true =>
      obtain ⟨ρ3, o, h5, h6, h7⟩ := h4 hp
      simp [h2, hp, h5, h6, h7, ih]
    | false => simp [h2, hp, h3 hp, ih]
/-! defs -/
@[simp] theorem x_toSl_dat (d : PyData) : toSl (.dat d) = .val (.dat d) := (rfl)
@[simp] theorem x_toSl_ls (ds : List PyData) : toSl (.ls ds) = .bor (.ls ds) := (rfl)
@[simp] theorem x_toSl_dk (kvs : List (L2.Key × PyData)) : toSl (.dk kvs) = .bor (.dk kvs) := (rfl)
@[simp] theorem x_out_no : outSl .no = .no := (rfl)
@[simp] theorem x_out_val (o : O) : outSl (.val o) = .no := (rfl)
@[simp] theorem x_out_bor (o : O) : outSl (.bor o) = .bor o := (rfl)
def outK (np : Nat) : Out → FRs
  | .rt o ρ => .ok o (leave np ρ)
  | .nx ρ => .ok (.dat .none) (leave np ρ)
  | .er c o ρ => .er c o (leave np ρ)
  | _ => .stuck
@[simp] theorem x_outK1 (np : Nat) (o : O) (ρ : En) : outK np (.rt o ρ) = .ok o (leave np ρ) := (rfl)
@[simp] theorem x_outK2 (np : Nat) (ρ : En) : outK np (.nx ρ) = .ok (.dat .none) (leave np ρ) := (rfl)
@[simp] theorem x_outK3 (np : Nat) (c : Str) (o : O) (ρ : En) : outK np (.er c o ρ) = .er c o (leave np ρ) := (rfl)
theorem x_def (np n : Nat) (body : SF) (os : List O) : defF np n body os = if os.length = np then outK np (body (entry n os)) else .stuck := by unfold defF outK; rfl
/-- the slots ahead of the first row, given out -/
theorem x_entry (n : Nat) (os : List O) : entry n os = os.map toSl ++ List.replicate (n - os.length) .no := (rfl)
theorem x_leave (np : Nat) (ρ : En) : leave np ρ = (ρ.take np).map outSl := (rfl)
theorem x_rep0 (x : Sl) : List.replicate 0 x = [] := (rfl)
end
end Vs

namespace Vs
open PySem PySem.Spec PyProof.Rows L2 Ww
/-! ### errors: a class by its name, one value -/
/-- what a walk lets out, told by W -/
def RX (cl : Str → Option Addr) (W : WX) : RK := fun x dd σ H => ∃ C, cl x = some C ∧ W (.ref C) (some dd) σ H
section
variable {K : PySem.W.Frag} {R : RK} {pins σ : L2.St} {G H G' H' : Hp} {As Bs Cs T : List Addr} {Q : VK} {ρ : En} {X : Cx}
theorem call_leS {F : FF} {g : CF} {cl : Str → Option Addr} {E : XK} (σ : L2.St) (H : Hp) (Q : VK) (hE : ∀ c d H, R c d σ H → ∃ C, cl c = some C ∧ E (.ref C) (some d) H) (h : liftE K R (callF F g) σ H Q) : liftC K R g σ H (fun vs H1 => spF K cl F vs H1 Q E) := by
  obtain ⟨pins, G, ρ, As, s, k⟩ := h
  refine ⟨pins, G, ρ, As, s, ?_⟩
  refine Kont.bind (T := []) (Q := Q) s.nd (fun a z => nomatch z) k fun os ρ1 G1 H1 As1 vs Bs e1 nd1 r1 s1 k1 => ?_
  have nd1' : (Bs ++ As1).Nodup := by simpa using nd1
  have k1 : KontE K R pins σ G1 H1 ([] ++ (Bs ++ As1)) Q (match F (os.map AO.val) with
    | .ok o ss => .ok o (backF os ss ρ1)
    | .er c o ss => .er c o (backF os ss ρ1)
    | .stuck => .stuck) := k1
  refine ⟨G1, os.map AO.val, Bs, RepC.os r1, (List.nodup_append.mp nd1').1, s1.sub, ?_⟩
  have stay : ∀ {G' H' : Hp} {Ds As' : List Addr}, Ext G1 H1 Bs G' H' (Ds ++ As') → (Ds ++ As').Nodup → Sub G' H' → ∀ {ss : List Sl}, Slots K G' H' (vs.map some) ss As' → ∃ Cs, Ste K pins G' H' σ (backF os ss ρ1) Cs ∧ (Ds ++ Cs).Nodup ∧ Ext G1 H1 ([] ++ (Bs ++ As1)) G' H' (Ds ++ Cs) := by
    intro G' H' Ds As' e nd sub ss p
    have dj : ∀ a ∈ As1, a ∉ Bs := fun a ha hb => nd_disj nd1' a hb ha
    have s2 := s1.ext e dj sub
    have hA : ∀ a ∈ As1, H1 a ≠ none := fun a m => (s1.slots.there a m).1
    have out : ∀ a ∈ As1, a ∉ Ds ++ As' := fun a ha hb => by
      rcases e.own a hb with w | w
      · exact dj a ha w
      · exact hA a ha w
    have nd2 : (As' ++ As1).Nodup := List.nodup_append.mpr ⟨(List.nodup_append.mp nd).2.1, s1.nd, fun a ha b hb z => by subst z; exact out a hb (List.mem_append_right _ ha)⟩
    obtain ⟨Cs, w1, w2⟩ := Ste.back r1 s2 p nd2
    refine ⟨Cs, w1, List.nodup_append.mpr ⟨(List.nodup_append.mp nd).1, w1.nd, fun a ha b hb z => ?_⟩, ?_⟩
    · subst z
      rcases List.mem_append.mp (w2 a hb) with w | w
      · exact nd_disj nd a ha w
      · exact out a w (List.mem_append_left _ ha)
    · refine ((e.frame As1).perm (fun a => by simp only [List.nil_append, List.mem_append]; exact Or.comm) fun a ha => ?_)
      rcases List.mem_append.mp ha with w | w
      · exact List.mem_append_right _ (List.mem_append_left _ w)
      · rcases List.mem_append.mp (w2 a w) with w | w
        · exact List.mem_append_right _ (List.mem_append_right _ w)
        · exact List.mem_append_left _ w
  cases hF : F (os.map AO.val) with
  | ok o ss =>
    rw [hF] at k1
    intro G' H' v Ds As' e nd r sub p
    obtain ⟨Cs, w1, w2, w3⟩ := stay e nd sub p
    exact k1 G' H' Cs v Ds w3 w2 r w1
  | er c o ss =>
    rw [hF] at k1
    intro G' H' v Ds As' d e nd r sub p hd
    obtain ⟨Cs, w1, w2, w3⟩ := stay e nd sub p
    exact hE c d H' (k1 σ G' H' Cs v Ds d w3 w2 r w1 hd)
  | stuck =>
    rw [hF] at k1
    exact k1

theorem pf_callE {W : WX} {n : Nat} {f : Addr} {fd : FuncData} {ps : List Str} {F : FF} {g : CF} {cl : Str → Option Addr} {x : Str} {p pos : Pos} {e : Expr} {es : List Expr} (Fn : FnOk X.prog X.w X.K X.mg X.base (L2.CX X.prog X.w) n f fd ps (spF X.K cl F)) (hr : Room n X.A) (hg : Gl X x) (hm : X.mg x = some (.ref f)) (hk : PySem.W.keepIn X.K (.ref f) = true) (hb : Binds X.K fd ps [])
    (tk : Takes X W) (ha : PA X (e :: es) (liftC X.K (RX cl W) g)) (hdb : (x == ("__debug__" : Str)) = false := by decide) (he : starEach (e :: es) X.env = (false, eval e X.env) :: starEach es X.env := by rfl) (hpl : (backTo pos (starEach es X.env)).any (·.1) = false := by rfl) :
    PE X (.Call (.Name x p) (e :: es) [] pos) (liftE X.K (RX cl W) (callF F g)) := PE.weak (pe_callS Fn hr hg hm hk hb (E := WE W) (fun σ => passAt tk σ) ha hdb he hpl) fun σ H Q h => call_leS σ H Q (fun _ _ _ z => z) h
/-! the making of an error -/
def spInit (K : PySem.W.Frag) : Sp := fun vs H Q _ => ∃ (a C : Addr) (y : V), vs = [.ref a, y] ∧ OexC K C ∧ PySem.W.findIn K (.ref C) "value" = some none ∧ H a = some (exo a C none) ∧
  ∀ dx, H dx = none → dx ≠ a → Q .non (upd (upd H dx (exd dx [("value", y)])) a (exo a C (some dx)))
def raiseS (x : Str) (f : EF) : SF := fun ρ => (shE f ρ).bindS fun d ρ1 => .er x (.dat d) ρ1
/-- a class of errors -/
structure Er (K : PySem.W.Frag) (mg : Str → Option Value) (x : Str) (C fI : Addr) : Prop where
  g : mg x = some (.ref C)
  o : OexC K C
  v : PySem.W.findIn K (.ref C) "value" = some none
  i : PySem.W.findIn K (.ref C) "__init__" = some (some (.ref fI))
  t : PySem.W.typeIn K (.ref fI) = some (.type "function")
theorem upd_del {H : Hp} {a dx : Addr} {u v w o : HO} (ha : H a = none) (hn : dx ≠ a) : upd (del (upd (upd (upd H a u) dx v) a w) a) dx o = upd H dx o := by
  funext b
  by_cases h1 : b = dx
  · subst h1
    rw [upd_same, upd_same]
  · rw [upd_ne h1, upd_ne h1]
    by_cases h2 : b = a
    · subst h2
      rw [del_same, ha]
    · rw [del_ne h2, upd_ne h2, upd_ne h1, upd_ne h2]
theorem s_raise {W : WX} {cl : Str → Option Addr} {n : Nat} {x : Str} {C fI : Addr} {fd : FuncData} {ps : List Str} {f : EF} {e : Expr} {p pos pos2 : Pos} (T : Er X.K X.mg x C fI) (F1 : FnOk X.prog X.w X.K X.mg X.base CX0 n fI fd ps (spInit X.K)) (hr : Room (n + 1) X.A) (hb : Binds X.K fd ps []) (hc : X.calm = true) (hcl : cl x = some C) (hg : Gl X x)
    (tk : Takes X W) (h : PE X e (liftE X.K (RX cl W) f)) (hdb : (x == ("__debug__" : Str)) = false := by decide) (he : starEach (e :: []) X.env = (false, eval e X.env) :: starEach [] X.env := by rfl) (hpl : (backTo pos (starEach [] X.env)).any (·.1) = false := by rfl) :
    PS X (.Raise (some (.Call (.Name x p) [e] [] pos)) none pos2) (liftS X.K (RX cl W) (raiseS x f)) := by
  refine PS.weak (ps_raise hc tk (pmk_oex T.o T.i T.t F1 hr hb .nil pass0 hg T.g (pa_one h he) hdb he hpl)) fun D σ H ⟨pins, G, ρ, As, s, k⟩ => ?_
  refine shE_le (α := Nat) (rel2 := RepO X.K) σ H _ ⟨pins, G, ρ, As, s, ?_⟩
  refine Kont.bindS k fun d ρ1 G1 H1 As1 v Bs e1 nd1 r1 s1 k1 => ?_
  obtain ⟨rfl, dp⟩ := r1
  refine ⟨by show 1 ≤ 1000; decide, fun a ha => ⟨a, C, v, rfl, T.o, T.v, upd_same, fun dx hdx hne => ⟨rfl, dx, [("value", v)], upd_same, ?_, ?_, ?_⟩⟩⟩
  · rw [upd_ne hne, upd_same]
  · rw [upd_ne hne] at hdx
    exact hdx
  · rw [upd_ne hne] at hdx
    rw [upd_del ha hne]
    have nd1' : As1.Nodup := by simpa using nd1
    have sb : Sub G1 (upd H1 dx (.xd [("value", v)])) := fun b o q => by
      have q2 := s1.sub b o q
      rw [upd_ne (ne_of_none q2 hdx)]
      exact q2
    have ex : Ext G1 H1 ([] ++ As1) G1 (upd H1 dx (.xd [("value", v)])) ([] ++ As1) := ⟨Sub.refl G1, fun b o q _ => by rw [upd_ne (ne_of_none q hdx)]; exact q, fun b q _ _ => q, fun b q => .inl q⟩
    have k2 : ErOk X.K (RX cl W) pins G1 H1 ([] ++ As1) x (.dat d) ρ1 := k1
    have ex2 : Ext G1 H1 [] G1 (upd H1 dx (.xd [("value", v)])) [] := ⟨Sub.refl G1, fun b o q _ => by rw [upd_ne (ne_of_none q hdx)]; exact q, fun b q _ _ => q, fun b q => .inl q⟩
    obtain ⟨C', h1, h2⟩ := k2 σ G1 (upd H1 dx (.xd [("value", v)])) As1 v [] dx ex (by simpa using nd1') (.dat dp) (s1.ext ex2 (fun _ _ z => nomatch z) sb) upd_same
    cases (Option.some.inj (hcl.symm.trans h1) : C = C')
    exact h2
/-- __init__ of the errors -/
theorem init_ok {K : PySem.W.Frag} {H : Hp} {vs : List V} {Q : VK} {E : XK} (h : spInit K vs H Q E) :
    (tSeq (tDrop (tVeI K (tCons (tVar 0) (tCons (tVar 1) tNil)))) (tOst K "value" (tVar 0) (tVar 1))) { nx := fun _ H' => Q .non H', rt := Q } (L2.start ["self", "value"] vs) H := by
  obtain ⟨a, C, y, rfl, T, hv, ea, q⟩ := h
  exact ⟨.ref a, rfl, y, rfl, a, C, [y], rfl, (show 1 ≤ 1000 by decide), T, ea, y, rfl, .ref a, rfl, a, C, rfl, T, hv, .inl ⟨ea, fun dx hd hne => q dx hd hne⟩⟩
end
end Vs

namespace Vs
open PySem PySem.Spec PyProof.Rows L2 Ww
/-! ### try .. except -/
/-- which classes a clause takes, of those that the table names -/
def Mt (K : PySem.W.Frag) (cl : Str → Option Addr) (c : Value) (mt : Str → Option Bool) : Prop := ∀ x b, mt x = some b → ∃ C, cl x = some C ∧ PySem.W.exmOne K (.ref C) c = some b
/-- a slot emptied at a suite's end -/
def unI (i : Nat) : Out → Out
  | .nx ρ => .nx (ρ.set i .no)
  | .rt o ρ => .rt o ρ
  | .bk ρ => .bk (ρ.set i .no)
  | .ct ρ => .ct (ρ.set i .no)
  | .er _ _ _ => .stuck
  | .stuck => .stuck
def isNo : Option Sl → Bool
  | some .no => true
  | _ => false
theorem isNo_eq {x : Option Sl} (h : isNo x = true) : x = some .no := by
  unfold isNo at h
  split at h
  · rfl
  · cases h
/-- the clause's suite, behind the body's end -/
def catI (i : Nat) (mt : Str → Option Bool) (h : PyData → SF) : Out → Out
  | .er x (.dat d) ρ => match mt x with
    | some true => if isNo ρ[i]? = true then unI i (h d ρ) else .stuck
    | some false => .er x (.dat d) ρ
    | none => .stuck
  | .er _ _ _ => .stuck
  | r => r
theorem Slots.setNo {K : PySem.W.Frag} {G H : Hp} (x : Option V) : ∀ {σ : L2.St} {ρ : En} {As : List Addr} {i : Nat}, Slots K G H σ ρ As → ρ[i]? = some .no → Slots K G H (σ.set i x) ρ As
  | _, _, _, i, .nil, h => by simp at h
  | _, _, _, 0, .no r, _ => .no r
  | _, _, _, i + 1, .no r, h => .no (Slots.setNo x (i := i) r (by simpa using h))
  | _, _, _, 0, .lent r, h => by simp at h
  | _, _, _, i + 1, .lent r, h => .lent (Slots.setNo x (i := i) r (by simpa using h))
  | _, _, _, 0, .val q r, h => by simp at h
  | _, _, _, i + 1, .val q r, h => .val q (Slots.setNo x (i := i) r (by simpa using h))
  | _, _, _, 0, .bor q r, h => by simp at h
  | _, _, _, i + 1, .bor q r, h => .bor q (Slots.setNo x (i := i) r (by simpa using h))
section
variable {K : PySem.W.Frag} {R : RK} {pins σ : L2.St} {G H G' H' : Hp} {As Bs Cs T : List Addr} {Q : VK} {ρ : En} {X : Cx}
theorem Ste.setNo {i : Nat} (x : Option V) (s : Ste K pins G H σ ρ As) (h : ρ[i]? = some .no) : Ste K pins G H (σ.set i x) ρ As := by
  refine ⟨s.slots.setNo x h, s.nd, s.sub, by rw [List.length_set]; exact s.pin.1, fun j hj => ?_⟩
  by_cases e : i = j
  · subst e
    rcases hj with hj | ⟨o, hj⟩ <;> rw [h] at hj <;> cases hj
  · rw [List.getElem?_set_ne e]
    exact s.pin.2 j hj
theorem Ste.unset (i : Nat) (s : Ste K pins G H σ ρ As) : ∃ Cs, Ste K pins G H (σ.set i none) (ρ.set i .no) Cs ∧ ∀ a ∈ Cs, a ∈ As := by
  obtain ⟨Cs, h1, h2, h3⟩ := Slots.unset i s.slots s.nd
  refine ⟨Cs, ⟨h1, h3, s.sub, by rw [List.length_set]; exact s.pin.1, fun j hj => ?_⟩, h2⟩
  by_cases e : i = j
  · subst e
    by_cases hl : i < ρ.length
    · rw [List.getElem?_set_self hl] at hj
      rcases hj with hj | ⟨o, hj⟩ <;> cases hj
    · rw [List.getElem?_eq_none (by rw [List.length_set]; omega)] at hj
      rcases hj with hj | ⟨o, hj⟩ <;> cases hj
  · rw [List.getElem?_set_ne e] at hj ⊢
    exact s.pin.2 j hj
/-- in a suite: the error stands in slot i, its value in its dict -/
def liftH (K : PySem.W.Frag) (R : RK) (cl : Str → Option Addr) (i : Nat) (a : Addr) (cls : Value) (d : Option Addr) (h : PyData → SF) : TS := fun D σ H => ∃ pins G ρ As x C dd v dat, cl x = some C ∧ cls = .ref C ∧ d = some dd ∧ H dd = some (.xd [("value", v)]) ∧ σ[i]? = some (some (.ref a)) ∧ Dp K G v dat ∧ Ste K pins G H σ ρ As ∧ KontS K R pins G H As D (h dat ρ)
theorem s_tryAs {W : WX} {cl : Str → Option Addr} {mt : Str → Option Bool} {x n : Str} {c : Value} {i : Nat} {body suite : List Stmt} {b₀ : Stmt} {np pos pos' : Pos} {f : SF} {h : PyData → SF} (hs : X.stack = X.env :: X.outer) (hf : X.env.frame = some X.env.locals) (hN : X.N.Nodup) (hi : X.N[i]? = some n) (hln : X.env.kindOf n = some .local) (hc : Names X x c) (hm : Mt X.K cl c mt) (tk : Takes X W)
    (hb : ∀ (W' : WX) (pn : List (Addr × Obj)) (xe : Value → Shared → Prop), Takes (X.tr pn xe) W' → PassesOwn (model X.prog X.w) X.A X.env xe → PSs (X.tr pn xe) body (liftS X.K (RX cl W') f))
    (hsu : ∀ (a : Addr) (oe : Obj) (cls : Value) (d : Option Addr) (pn : List (Addr × Obj)), Zc cls d oe → (∃ vs, oe.data = .fields vs) → PSs (X.suite a ((a, oe) :: pn)) (b₀ :: suite) (liftH X.K (RX cl W) cl i a cls d h)) :
    PS X (.Try body [.ExceptHandler (some (.Name x np)) (some n) (b₀ :: suite) pos'] [] [] pos) (liftS X.K (RX cl W) (fun ρ => catI i mt h (f ρ))) := by
  refine PS.weak (ps_try_as hs hf hN hi hln hc tk (tb := fun W' => liftS X.K (RX cl W') f) (ts := fun a cls d => liftH X.K (RX cl W) cl i a cls d h) hb hsu) fun D σ H ⟨pins, G, ρ, As, s, k⟩ => ⟨pins, G, ρ, As, s, ?_⟩
  have k : KontS X.K (RX cl W) pins G H As D (catI i mt h (f ρ)) := k
  cases hfr : f ρ with
  | nx ρ1 => rw [hfr] at k; exact k
  | rt o ρ1 => rw [hfr] at k; exact k
  | bk ρ1 => rw [hfr] at k; exact k
  | ct ρ1 => rw [hfr] at k; exact k
  | stuck => rw [hfr] at k; exact k
  | er y o ρ1 =>
    rw [hfr] at k
    cases o with
    | ls ds => exact k.elim
    | dk kvs => exact k.elim
    | tp es => exact k.elim
    | lt es => exact k.elim
    | ll es => exact k.elim
    | dat d =>
      intro σ' G' H' As' v Bs dd e nd r st hd
      cases r with
      | dat dp =>
      cases hmt : mt y with
      | none =>
        have k : KontS X.K (RX cl W) pins G H As D .stuck := by
          have : catI i mt h (.er y (.dat d) ρ1) = .stuck := by unfold catI; simp [hmt]
          rw [← this]; exact k
        exact k.elim
      | some b =>
        obtain ⟨C, h1, h2⟩ := hm y b hmt
        refine ⟨C, h1, b, h2, fun hb => ?_, fun hb => ?_⟩
        · subst hb
          intro a ha
          by_cases hno : isNo ρ1[i]? = true
          · have k : KontS X.K (RX cl W) pins G H As D (unI i (h d ρ1)) := by
              have : catI i mt h (.er y (.dat d) ρ1) = unI i (h d ρ1) := by unfold catI; simp [hmt, hno]
              rw [← this]; exact k
            have hno' := isNo_eq hno
            have hlen : i < σ'.length := by
              rw [st.slots.len]
              exact (List.getElem?_eq_some_iff.mp hno').1
            have k := KontS.re k e
            have st2 := st.setNo (some (.ref a)) hno'
            refine ⟨pins, G', ρ1, As', y, C, dd, v, d, h1, rfl, rfl, hd, List.getElem?_set_self hlen, dp, st2, ?_⟩
            cases hh : h d ρ1 with
            | nx ρ2 =>
              rw [hh] at k
              intro σ2 G2 H2 As2 e2 s2
              obtain ⟨Cs, w1, w2⟩ := s2.unset i
              exact k _ G2 H2 Cs (by simpa using e2.less w2) w1
            | rt o ρ2 =>
              rw [hh] at k
              have k2 : KontS X.K (RX cl W) pins G' H' As' D (.rt o ρ2) := by simpa [unI] using k
              exact fun a b c d e f => k2 a b c d e f
            | bk ρ2 =>
              rw [hh] at k
              intro σ2 G2 H2 As2 e2 s2
              obtain ⟨Cs, w1, w2⟩ := s2.unset i
              exact k _ G2 H2 Cs (by simpa using e2.less w2) w1
            | ct ρ2 =>
              rw [hh] at k
              intro σ2 G2 H2 As2 e2 s2
              obtain ⟨Cs, w1, w2⟩ := s2.unset i
              exact k _ G2 H2 Cs (by simpa using e2.less w2) w1
            | er z o ρ2 => rw [hh] at k; exact k.elim
            | stuck => rw [hh] at k; exact k.elim
          · have k : KontS X.K (RX cl W) pins G H As D .stuck := by
              have : catI i mt h (.er y (.dat d) ρ1) = .stuck := by unfold catI; simp [hmt, hno]
              rw [← this]; exact k
            exact k.elim
        · subst hb
          have k : KontS X.K (RX cl W) pins G H As D (.er y (.dat d) ρ1) := by
            have : catI i mt h (.er y (.dat d) ρ1) = .er y (.dat d) ρ1 := by unfold catI; simp [hmt]
            rw [← this]; exact k
          obtain ⟨C', h3, h4⟩ := (show ErOk X.K (RX cl W) pins G H As y (.dat d) ρ1 from k) σ' G' H' As' v [] dd (by simpa using e) (by simpa using nd) (.dat dp) st hd
          cases (Option.some.inj (h1.symm.trans h3) : C = C')
          exact h4
/-- x = e.value, the suite's first row -/
theorem s_hval {a : Addr} {oe : Obj} {cls : Value} {d : Option Addr} {pn : List (Addr × Obj)} {cl : Str → Option Addr} {i j : Nat} {y : Str} {e : Expr} {p1 p2 pos : Pos} {rest : List Stmt} {g : SF} (hall : ∀ x C, cl x = some C → XfC X.K C ∧ PySem.W.findIn X.K (.ref C) "value" = some none)
    (hz : Zc cls d oe) (hf : ∃ vs, oe.data = .fields vs) (he : PE (X.suite a ((a, oe) :: pn)) e (tVar i)) (hN : X.N.Nodup) (hj : X.N[j]? = some y) (hl : Loc X.env.scope y) (hr : PSs (X.suite a ((a, oe) :: pn)) rest (liftS X.K R g))
    (hb : attributeBase e "value" X.env (eval e X.env) = eval e X.env := by rfl) (hsw : swapsWith (.Attribute e "value" p2) (some (.Name y p1)) pos.line X.env = pure false := by rfl) (hfn : X.fn y = true ∨ X.env.scope.names.lookup y = some .local := by first | exact .inl rfl | exact .inr rfl | assumption) :
    PSs (X.suite a ((a, oe) :: pn)) (.Assign [.Name y p1] (.Attribute e "value" p2) pos :: rest) (liftH X.K R cl i a cls d (fun dat => seqS (setS j (cF dat)) g)) := by
  have hE : PE (X.suite a ((a, oe) :: pn)) (.Attribute e "value" p2) (fun σ H Q => ∃ x C, cl x = some C ∧ tXf a cls d C "value" (tVar i) σ H Q) := by
    refine ⟨fun pins s σ H Q I ⟨x, C, hc, w⟩ => ?_⟩
    obtain ⟨t1, t2⟩ := hall x C hc
    exact (pe_xf t1 t2 hz hf he hb).run pins s σ H Q I w
  refine PSs.weak (pss_cons (ps_set (X := X.suite a ((a, oe) :: pn)) (i := j) hN hj hl hE hsw hfn) hr) fun D σ H w => ?_
  obtain ⟨pins, G, ρ, As, x, C, dd, v, dat, hcl, hcls, hd, hdd, hσ, dp, st, k⟩ := w
  refine ⟨x, C, hcl, .ref a, hσ, rfl, hcls, dd, [("value", v)], v, hd, hdd, by simp [List.lookup], ?_⟩
  have k : KontS X.K R pins G H As D ((setS j (cF dat) ρ).seq g) := k
  cases h2 : stO j (.dat dat) ρ with
  | none =>
    have e : setS j (cF dat) ρ = .stuck := by rw [x_setS, x_cF, x_bindS_ok, h2]; rfl
    rw [e] at k
    exact k.elim
  | some ρ2 =>
    have e : setS j (cF dat) ρ = .nx ρ2 := by rw [x_setS, x_cF, x_bindS_ok, h2]; rfl
    rw [e] at k
    obtain ⟨Cs, w1, w2⟩ := st.put (.dat dp) (by simpa using st.nd) h2
    exact ⟨pins, G, ρ2, Cs, w1, KontS.re (show KontS X.K R pins G H As D (g ρ2) from k) (Ext.refl.less fun b z => by simpa using w2 b z)⟩
/-- its only row -/
theorem s_hval1 {a : Addr} {oe : Obj} {cls : Value} {d : Option Addr} {pn : List (Addr × Obj)} {cl : Str → Option Addr} {i j : Nat} {y : Str} {e : Expr} {p1 p2 pos : Pos} (hall : ∀ x C, cl x = some C → XfC X.K C ∧ PySem.W.findIn X.K (.ref C) "value" = some none)
    (hz : Zc cls d oe) (hf : ∃ vs, oe.data = .fields vs) (he : PE (X.suite a ((a, oe) :: pn)) e (tVar i)) (hN : X.N.Nodup) (hj : X.N[j]? = some y) (hl : Loc X.env.scope y)
    (hb : attributeBase e "value" X.env (eval e X.env) = eval e X.env := by rfl) (hsw : swapsWith (.Attribute e "value" p2) (some (.Name y p1)) pos.line X.env = pure false := by rfl) (hfn : X.fn y = true ∨ X.env.scope.names.lookup y = some .local := by first | exact .inl rfl | exact .inr rfl | assumption) :
    PSs (X.suite a ((a, oe) :: pn)) [.Assign [.Name y p1] (.Attribute e "value" p2) pos] (liftH X.K R cl i a cls d (fun dat => seqS (setS j (cF dat)) nxS)) := s_hval hall hz hf he hN hj hl ss_nil hb hsw hfn
end
end Vs

namespace Vs
open PySem PySem.Spec PyProof.Rows L2 Ww
section
variable {K : PySem.W.Frag} {R : RK} {pins σ : L2.St} {G H G' H' : Hp} {As Bs Cs T : List Addr} {Q : VK} {ρ : En} {X : Cx}
theorem pe_callQS {W : WX} {k : Nat} {f : Addr} {fd : FuncData} {ps ks : List Str} {sp : Sp} {x : Str} {p pos : Pos} {kws : List Keyword} {tk : TA} {g : List Value → List Value} {gV : List V → List V} (F : FnOk X.prog X.w X.K X.mg X.base (L2.CX X.prog X.w) k f fd ps sp) (hr : Room k X.A) (hg : Gl X x) (hm : X.mg x = some (.ref f)) (hk : PySem.W.keepIn X.K (.ref f) = true) (hb : KB0 X.K fd ps ks g gV) (tkx : Takes X W)
    (hkw : PK X kws tk) (hall : (backToKw pos (keywordEach kws X.env)).all (·.1.isSome) = true := by rfl) (hks : (backToKw pos (keywordEach kws X.env)).filterMap (·.1) = ks := by rfl)
    (hdb : (x == ("__debug__" : Str)) = false := by decide)
    (hpl : ((backTo pos (starEach [] X.env)).any (·.1) || (backToKw pos (keywordEach kws X.env)).any (·.1.isNone)) = false := by rfl) :
    PE X (.Call (.Name x p) [] kws pos) (fun σ H Q => tk σ H fun zs H2 => zs.length = ks.length ∧ sp (gV zs) H2 Q (WE W σ)) := by
  refine ⟨fun pins s σ H Q I h => ?_⟩
  refine wpAny_Call_Name_kw (ld_glob I hg hm ?_ hdb)
  refine PySem.W.callWith_KW0 (h₀ := X.base) I.ok.mod.kin hk hall (thn (hkw.run pos pins s σ H _ I h) fun ws s2 ⟨zs, H2, I2, rz, hl, q2⟩ => ⟨I2.kIn, ?_⟩) hpl
  rw [hks]
  refine wpAny_call (codeAny_mono (F.run X.A X.stack s2 H2 ⟨[], ks.zip ws⟩ (g ws) (gV zs) Q (WE W σ) hr I2.env0 (hb.to s2 ws (rz.length.symm.trans hl)) (hb.rel rz) q2) fun r s' hq => ?_)
  match r, hq with
  | .error e, hq => exact passAt tkx σ pins H2 s2 e s' I2 hq
  | .ok (.ret u), hq => exact I2.after hq
  | .ok .next, hq => exact hq.elim
  | .ok .brk, hq => exact hq.elim
  | .ok .cont, hq => exact hq.elim
theorem pf_callKE {W : WX} {n : Nat} {f : Addr} {fd : FuncData} {ps ks : List Str} {F : FF} {g : CF} {cl : Str → Option Addr} {x : Str} {p pos : Pos} {kws : List Keyword} (Fn : FnOk X.prog X.w X.K X.mg X.base (L2.CX X.prog X.w) n f fd ps (spF X.K cl F)) (hr : Room n X.A) (hg : Gl X x) (hm : X.mg x = some (.ref f)) (hk : PySem.W.keepIn X.K (.ref f) = true) (hb : KB0 X.K fd ps ks (fun ws => ws) (fun zs => zs))
    (tk : Takes X W) (hkw : PK X kws (liftC X.K (RX cl W) g)) (hw : Wants F ks.length) (hall : (backToKw pos (keywordEach kws X.env)).all (·.1.isSome) = true := by rfl) (hks : (backToKw pos (keywordEach kws X.env)).filterMap (·.1) = ks := by rfl)
    (hdb : (x == ("__debug__" : Str)) = false := by decide) (hpl : ((backTo pos (starEach [] X.env)).any (·.1) || (backToKw pos (keywordEach kws X.env)).any (·.1.isNone)) = false := by rfl) :
    PE X (.Call (.Name x p) [] kws pos) (liftE X.K (RX cl W) (callF F g)) := by
  refine PE.weak (pe_callQS Fn hr hg hm hk hb tk hkw hall hks hdb hpl) fun σ H Q h => ?_
  have q : liftC X.K (RX cl W) g σ H fun vs H1 => spF X.K cl F vs H1 Q (WE W σ) := call_leS σ H Q (fun _ _ _ z => z) h
  obtain ⟨pins, G, ρ, As, s, k⟩ := q
  refine ⟨pins, G, ρ, As, s, ?_⟩
  cases hgρ : g ρ with
  | ok os ρ1 =>
    rw [hgρ] at k
    intro G' H' As' v Bs e nd r st
    have z : spF X.K cl F v H' Q (WE W σ) := k G' H' As' v Bs e nd r st
    exact ⟨spF_wants hw z, z⟩
  | er c o ρ1 => rw [hgρ] at k; exact k
  | stuck => rw [hgρ] at k; exact k
theorem pf_callKRE {W : WX} {n : Nat} {f : Addr} {fd : FuncData} {ps ks : List Str} {F : FF} {g : CF} {cl : Str → Option Addr} {x : Str} {p pos : Pos} {kws : List Keyword} (Fn : FnOk X.prog X.w X.K X.mg X.base (L2.CX X.prog X.w) n f fd ps (spF X.K cl F)) (hr : Room n X.A) (hg : Gl X x) (hm : X.mg x = some (.ref f)) (hk : PySem.W.keepIn X.K (.ref f) = true) (hb : KB0 X.K fd ps ks (fun ws => ws.reverse) (fun zs => zs.reverse))
    (tk : Takes X W) (hkw : PK X kws (liftC X.K (RX cl W) g)) (hw : Wants F ks.length) (hall : (backToKw pos (keywordEach kws X.env)).all (·.1.isSome) = true := by rfl) (hks : (backToKw pos (keywordEach kws X.env)).filterMap (·.1) = ks := by rfl)
    (hdb : (x == ("__debug__" : Str)) = false := by decide) (hpl : ((backTo pos (starEach [] X.env)).any (·.1) || (backToKw pos (keywordEach kws X.env)).any (·.1.isNone)) = false := by rfl) :
    PE X (.Call (.Name x p) [] kws pos) (liftE X.K (RX cl W) (callF F (revC g))) := by
  refine PE.weak (pe_callQS Fn hr hg hm hk hb tk hkw hall hks hdb hpl) fun σ H Q h => ?_
  have q0 : liftC X.K (RX cl W) (revC g) σ H fun vs H1 => spF X.K cl F vs H1 Q (WE W σ) := call_leS σ H Q (fun _ _ _ z => z) h
  have q := revC_le σ H _ q0
  obtain ⟨pins, G, ρ, As, s, k⟩ := q
  refine ⟨pins, G, ρ, As, s, ?_⟩
  cases hgρ : g ρ with
  | ok os ρ1 =>
    rw [hgρ] at k
    intro G' H' As' v Bs e nd r st
    have z : spF X.K cl F v.reverse H' Q (WE W σ) := k G' H' As' v Bs e nd r st
    exact ⟨by have w2 := spF_wants hw z; rw [List.length_reverse] at w2; exact w2, z⟩
  | er c o ρ1 => rw [hgρ] at k; exact k
  | stuck => rw [hgρ] at k; exact k
/-- a def that may raise -/
theorem defE {vs : List V} {np n : Nat} {body : SF} {cl : Str → Option Addr} {E : XK} {N : List Str} (hN : N.length = n) (h : spF K cl (defF np n body) vs H Q E) (hnp : np ≤ n) :
    liftS K (RX cl (fun cls d _ H => E cls d H)) body { nx := fun _ H' => Q .non H', rt := Q } (L2.start N vs) H := def_ok hN h hnp fun _ _ _ _ z => z
/-! abs -/
def absO : O → Option O
  | .dat (.int i) => some (.dat (.int (if i < 0 then -i else i)))
  | _ => none
theorem prim_abs : Prim1 K (fun x H Q => ∃ i, [x] = [V.int i] ∧ Q (.int (if i < 0 then -i else i)) H) absO := by
  intro G H x a o B Q s ra h k
  unfold absO at h
  split at h
  · cases Option.some.inj h
    exact ⟨_, by rw [dat_int ra], Grow.dat s (.int _) k⟩
  · cases h
@[simp] theorem x_abs (i : Int) : absO (.dat (.int i)) = some (.dat (.int (if i < 0 then -i else i))) := (rfl)
/-! rewriting -/
@[simp] theorem x_raiseS (x : Str) (f : EF) (ρ : En) : raiseS x f ρ = (shE f ρ).bindS fun d ρ1 => .er x (.dat d) ρ1 := (rfl)
def tryS (i : Nat) (mt : Str → Option Bool) (f : SF) (h : PyData → SF) : SF := fun ρ => catI i mt h (f ρ)
@[simp] theorem x_tryS (i : Nat) (mt : Str → Option Bool) (f : SF) (h : PyData → SF) (ρ : En) : tryS i mt f h ρ = catI i mt h (f ρ) := (rfl)
@[simp] theorem x_cat_nx (i : Nat) (mt : Str → Option Bool) (h : PyData → SF) (ρ : En) : catI i mt h (.nx ρ) = .nx ρ := (rfl)
@[simp] theorem x_cat_rt (i : Nat) (mt : Str → Option Bool) (h : PyData → SF) (o : O) (ρ : En) : catI i mt h (.rt o ρ) = .rt o ρ := (rfl)
@[simp] theorem x_cat_bk (i : Nat) (mt : Str → Option Bool) (h : PyData → SF) (ρ : En) : catI i mt h (.bk ρ) = .bk ρ := (rfl)
@[simp] theorem x_cat_ct (i : Nat) (mt : Str → Option Bool) (h : PyData → SF) (ρ : En) : catI i mt h (.ct ρ) = .ct ρ := (rfl)
theorem x_cat_yes {i : Nat} {mt : Str → Option Bool} {h : PyData → SF} {x : Str} {d : PyData} {ρ : En} (hm : mt x = some true) (hn : ρ[i]? = some .no) : catI i mt h (.er x (.dat d) ρ) = unI i (h d ρ) := by
  unfold catI
  simp [hm, hn, isNo]
theorem x_cat_no {i : Nat} {mt : Str → Option Bool} {h : PyData → SF} {x : Str} {d : PyData} {ρ : En} (hm : mt x = some false) : catI i mt h (.er x (.dat d) ρ) = .er x (.dat d) ρ := by
  unfold catI
  simp [hm]
@[simp] theorem x_un_nx (i : Nat) (ρ : En) : unI i (.nx ρ) = .nx (ρ.set i .no) := (rfl)
@[simp] theorem x_un_rt (i : Nat) (o : O) (ρ : En) : unI i (.rt o ρ) = .rt o ρ := (rfl)
end
/-- a table of classes -/
def clT (t : List (Str × Addr)) (x : Str) : Option Addr := t.lookup x
def mtT (t : List (Str × Bool)) (x : Str) : Option Bool := t.lookup x
theorem mt_nil {K : PySem.W.Frag} {c : Value} : Mt K (clT []) c (mtT []) := fun _ _ h => nomatch h
theorem mt_cons {K : PySem.W.Frag} {c : Value} {y : Str} {C : Addr} {b : Bool} {t : List (Str × Addr)} {u : List (Str × Bool)} (h : PySem.W.exmOne K (.ref C) c = some b) (r : Mt K (clT t) c (mtT u)) : Mt K (clT ((y, C) :: t)) c (mtT ((y, b) :: u)) := by
  intro x b' hx
  unfold mtT at hx
  unfold clT
  rw [List.lookup_cons] at hx ⊢
  cases e : (x == y) with
  | true =>
    rw [e] at hx
    cases Option.some.inj (show some b = some b' from hx)
    exact ⟨C, rfl, h⟩
  | false =>
    rw [e] at hx
    exact r x b' hx
theorem lookup_mem2 {t : List (Str × Addr)} {x : Str} {C : Addr} (h : t.lookup x = some C) : (x, C) ∈ t := PySem.mem_of_lookup h
theorem hall_of {K : PySem.W.Frag} {t : List (Str × Addr)} (h : ∀ p ∈ t, XfC K p.2 ∧ PySem.W.findIn K (.ref p.2) "value" = some none) : ∀ x C, clT t x = some C → XfC K C ∧ PySem.W.findIn K (.ref C) "value" = some none := fun x C e => h (x, C) (lookup_mem2 e)
theorem clT_at {t : List (Str × Addr)} {y : Str} {C : Addr} : clT ((y, C) :: t) y = some C := by unfold clT; rw [List.lookup_cons, beq_self_eq_true]
theorem clT_on {t : List (Str × Addr)} {x y : Str} {C D : Addr} (h : (x == y) = false) (r : clT t x = some D) : clT ((y, C) :: t) x = some D := by
  unfold clT at r ⊢
  rw [List.lookup_cons, h]
  exact r
theorem exm_of {K : PySem.W.Frag} {S C : Addr} {b : Bool} (h1 : PySem.W.subIn K (.ref C) (.type "BaseException") = some true) (h2 : PySem.W.isClsIn K C = true) (h3 : PySem.W.typeIn K (.ref C) = some (.type "type")) (h4 : PySem.W.subIn K (.ref S) (.ref C) = some b) :
    PySem.W.exmOne K (.ref S) (.ref C) = some b := by
  have e1 : (PySem.W.subIn K (.ref C) (.type "BaseException") == some true) = true := by rw [h1] <;> rfl
  have e2 : ((PySem.W.clsIn K C).isSome && PySem.W.typeIn K (.ref C) == some (.type "type")) = true := by
    have h2' : (PySem.W.clsIn K C).isSome = true := h2
    rw [h2', h3] <;> rfl
  show (if (PySem.W.subIn K (.ref C) (.type "BaseException") == some true) = true then (if ((PySem.W.clsIn K C).isSome && PySem.W.typeIn K (.ref C) == some (.type "type")) = true then PySem.W.subIn K (.ref S) (.ref C) else none) else none) = some b
  rw [if_pos e1, if_pos e2]
  exact h4
end Vs

namespace Vs
open PySem PySem.Spec PyProof.Rows L2 Ww
/-! ### a test that is asked of all as data: what is one's own stays one's own -/
def frO (o : O) : Sl := match o.dv with
  | some d => .val (.dat d)
  | none => .no
def frS : Sl → Sl
  | .val o => frO o
  | .bor o => frO o
  | _ => .no
def frz (ρ : En) : En := ρ.map frS
def frT (f : TF) : TF := fun ρ => match f (frz ρ) with
  | .ok b _ => .ok b ρ
  | _ => .stuck
section
variable {K : PySem.W.Frag} {R : RK} {pins σ : L2.St} {G H G' H' : Hp} {As Bs Cs T : List Addr} {Q : VK} {ρ : En} {X : Cx}
theorem frO_gap (o : O) : frO o = .no ∨ ∃ d, frO o = .val (.dat d) := by
  unfold frO
  cases o.dv with
  | none => exact .inl rfl
  | some d => exact .inr ⟨d, rfl⟩
theorem frS_gap (s : Sl) : frS s = .no ∨ ∃ d, frS s = .val (.dat d) := by
  cases s with
  | no => exact .inl rfl
  | lent => exact .inl rfl
  | val o => exact frO_gap o
  | bor o => exact frO_gap o
theorem RepO.frozen {v : V} {o : O} {σ : L2.St} {ρ : En} {B As : List Addr} (r : RepO K G H v o B) (ih : As.Nodup → Sub G H → ∃ G', Ext G H As G' H [] ∧ Sub G' H ∧ Slots K G' H σ (frz ρ) []) (nd : (B ++ As).Nodup) (s : Sub G H) :
    ∃ G', Ext G H (B ++ As) G' H [] ∧ Sub G' H ∧ Slots K G' H (some v :: σ) (frO o :: frz ρ) [] := by
  obtain ⟨n1, n2, n3⟩ := List.nodup_append.mp nd
  obtain ⟨G2, e2, s2, p2⟩ := ih n2 s
  have r' := r.ext e2 fun a ha hb => n3 a ha a hb rfl
  unfold frO
  split
  · rename_i d hd
    obtain ⟨G3, e3, s3, d3⟩ := r'.share n1 s2 hd
    refine ⟨G3, (e2.frame B).trans (e3.perm (fun a => by simp) fun a z => nomatch z), s3, ?_⟩
    exact .val (B := []) (As := []) (.dat d3) (p2.ext e3 fun a z => nomatch z)
  · exact ⟨G2, ((e2.frame B).less fun a z => nomatch z), s2, .no p2⟩
theorem Slots.freeze (r : Slots K G H σ ρ As) : As.Nodup → Sub G H → ∃ G', Ext G H As G' H [] ∧ Sub G' H ∧ Slots K G' H σ (frz ρ) [] := by
  induction r with
  | nil => exact fun _ s => ⟨G, Ext.refl, s, .nil⟩
  | no _ ih =>
    intro nd s
    obtain ⟨G2, e2, s2, p2⟩ := ih nd s
    exact ⟨G2, e2, s2, .no p2⟩
  | lent _ ih =>
    intro nd s
    obtain ⟨G2, e2, s2, p2⟩ := ih nd s
    exact ⟨G2, e2, s2, .no p2⟩
  | val q _ ih => exact fun nd s => q.frozen ih nd s
  | bor q _ ih => exact fun nd s => q.frozen ih nd s
theorem frT_ok {e : Expr} {f : TF} (h : PT X e (liftT X.K R f)) : PT X e (liftT X.K R (frT f)) := by
  refine PT.weak h fun σ H Q ⟨pins, G, ρ, As, s, k⟩ => ?_
  unfold frT at k
  split at k
  · rename_i b ρ' hf
    obtain ⟨G1, e1, s1, sl⟩ := s.slots.freeze s.nd s.sub
    refine ⟨pins, G1, frz ρ, [], ⟨sl, .nil, s1, s.pin.1, fun i hi => ?_⟩, ?_⟩
    · have hm : (frz ρ)[i]? = (ρ[i]?).map frS := by unfold frz; rw [List.getElem?_map]
      exfalso
      cases hr : ρ[i]? with
      | none =>
        rw [hr] at hm
        rcases hi with z | ⟨o, z⟩ <;> rw [hm] at z <;> cases z
      | some x =>
        rw [hr] at hm
        have hm : (frz ρ)[i]? = some (frS x) := hm
        rcases frS_gap x with z | ⟨d, z⟩
        · rw [z] at hm
          rcases hi with y | ⟨o, y⟩ <;> rw [hm] at y <;> cases y
        · rw [z] at hm
          rcases hi with y | ⟨o, y⟩ <;> rw [hm] at y <;> cases y
    · rw [hf]
      intro G' H' As' v Bs e nd r st
      obtain ⟨rfl, rfl⟩ := r
      have kp : ∀ a o, H a = some o → H' a = some o := fun a o z => e.keep a o z fun y => nomatch y
      have sb : Sub G H' := fun a o z => kp a o (s.sub a o z)
      have st' : Ste X.K pins G H' σ ρ As := s.ext (As := []) (Cs := []) ⟨Sub.refl G, fun a o z _ => kp a o z, fun a z _ _ => z, fun a z => nomatch z⟩ (fun a _ z => nomatch z) sb
      exact k G H' As v [] ⟨Sub.refl G, fun a o z _ => kp a o z, fun a z _ _ => z, fun a z => .inl z⟩ s.nd ⟨rfl, rfl⟩ st'
  · exact k.elim

/-! ### a tuple of one's own -/
def elO : O → Option El
  | .dat d => some (.d d)
  | .ls xs => some (.l xs)
  | _ => none
def elsO : List O → Option (List El)
  | [] => some []
  | o :: os => match elO o, elsO os with
    | some e, some es => some (e :: es)
    | _, _ => none
def tpF (g : AF) : EF := fun ρ => (g ρ).bind fun os ρ1 => match elsO os with
  | some es => if es.length ≤ sizeLine then .ok (.tp es) ρ1 else .stuck
  | none => .stuck
theorem RepOs.els {vs : List V} {os : List O} {Bs : List Addr} (r : RepOs K G H vs os Bs) : ∀ {es : List El}, elsO os = some es → RepEls K G H vs es Bs := by
  induction r with
  | nil =>
    intro es h
    cases (Option.some.inj h : [] = es)
    exact .nil
  | cons r _ ih =>
    intro es h
    unfold elsO at h
    split at h
    · rename_i e es' h1 h2
      cases (Option.some.inj h : _ = es)
      cases r with
      | dat q =>
        cases (Option.some.inj h1 : _ = e)
        exact .d q (ih h2)
      | ls g1 g2 g3 =>
        cases (Option.some.inj h1 : _ = e)
        exact .l g1 g2 g3 (ih h2)
      | dk _ _ _ => cases h1
      | tp _ _ _ => cases h1
      | lt _ _ _ => cases h1
      | ll _ _ _ => cases h1
    · cases h
theorem RepEls.len {vs : List V} {es : List El} {Bs : List Addr} (r : RepEls K G H vs es Bs) : vs.length = es.length := by
  induction r with
  | nil => rfl
  | d _ _ ih => simp [ih]
  | l _ _ _ _ ih => simp [ih]
theorem pf_tupO {es : List Expr} {g : AF} {x1 pos} (h : PA X es (liftA X.K R g)) : PE X (.Tuple es x1 pos) (liftE X.K R (tpF g)) := by
  refine PE.weak (pe_tup h) fun σ H Q ⟨pins, G, ρ, As, s, k⟩ => ⟨pins, G, ρ, As, s, ?_⟩
  refine Kont.bind (T := []) (Q := Q) s.nd (fun a z => nomatch z) k fun os ρ1 G1 H1 As1 vs Bs e1 nd1 r1 s1 k1 => ?_
  split at k1
  · rename_i ds hd
    split at k1
    · rename_i hz
      have nd1' : (Bs ++ As1).Nodup := by simpa using nd1
      have re := RepOs.els r1 hd
      refine ⟨by rw [re.len]; exact hz, fun p np => ?_⟩
      have k2 : KontE X.K R pins σ G1 H1 (Bs ++ As1) Q (.ok (.tp ds) ρ1) := by simpa using k1
      have kp : ∀ a o, H1 a = some o → (upd H1 p (.tup vs)) a = some o := fun a o z => by rw [upd_ne (ne_of_none z np)]; exact z
      have sb : Sub G1 (upd H1 p (.tup vs)) := fun a o z => kp a o (s1.sub a o z)
      have hB : ∀ a ∈ Bs ++ As1, H1 a ≠ none := fun a z => by
        rcases List.mem_append.mp z with w | w
        · exact (re.there a w).1
        · exact (s1.slots.there a w).1
      have e3 : Ext G1 H1 (Bs ++ As1) G1 (upd H1 p (.tup vs)) ((p :: Bs) ++ As1) := ⟨Sub.refl _, fun a o z _ => kp a o z, fun a z _ _ => z, fun a z => by
        rcases List.mem_cons.mp z with w | w
        · exact .inr (by rw [w]; exact np)
        · exact .inl w⟩
      have e4 : Ext G1 H1 [] G1 (upd H1 p (.tup vs)) [] := ⟨Sub.refl _, fun a o z _ => kp a o z, fun a z _ _ => z, fun a z => nomatch z⟩
      exact k2 G1 _ As1 (.ref p) (p :: Bs) e3 (List.nodup_cons.mpr ⟨fun z => hB p z np, nd1'⟩)
        (.tp (s1.sub.free np) upd_same (re.stay (Sub.refl _) (fun a _ u z => kp a u z) fun a _ z _ => z)) (s1.ext e4 (fun a _ z => nomatch z) sb)
    · exact k1.elim
  · exact k1.elim

/-! ### a list in such a tuple is changed -/
theorem RepEls.mut {vs : List V} {es : List El} {Bs : List Addr} (r : RepEls K G H vs es Bs) : ∀ {c : Nat} {xs : List PyData}, Bs.Nodup → es[c]? = some (.l xs) → ∃ a, vs[c]? = some (.ref a) ∧ a ∈ Bs ∧ RepO K G H (.ref a) (.ls xs) [a] ∧
    ∀ u ys, RepO K G (upd H a u) (.ref a) (.ls ys) [a] → RepEls K G (upd H a u) vs (es.set c (.l ys)) Bs := by
  induction r with
  | nil =>
    intro c xs _ h
    cases h
  | @d v x vs es Bs q r ih =>
    intro c xs nd h
    cases c with
    | zero => cases (Option.some.inj h)
    | succ c =>
      obtain ⟨a, h1, h2, h3, h4⟩ := ih nd h
      exact ⟨a, h1, h2, h3, fun u ys z => .d q (h4 u ys z)⟩
  | @l b us xs' vs es Bs g1 g2 g3 r ih =>
    intro c xs nd h
    obtain ⟨n1, n2⟩ := List.nodup_cons.mp nd
    cases c with
    | zero =>
      cases (Option.some.inj h)
      refine ⟨b, rfl, List.mem_cons_self, .ls g1 g2 g3, fun u ys z => ?_⟩
      cases z with
      | ls w1 w2 w3 =>
        exact .l w1 w2 w3 (r.stay (Sub.refl _) (fun a ha o z => by rw [upd_ne fun y => n1 (by rw [← y]; exact ha)]; exact z) fun a _ z _ => z)
    | succ c =>
      obtain ⟨a, h1, h2, h3, h4⟩ := ih n2 h
      refine ⟨a, h1, List.mem_cons_of_mem _ h2, h3, fun u ys z => .l g1 ?_ g3 (h4 u ys z)⟩
      rw [upd_ne fun y => n1 (by rw [y]; exact h2)]
      exact g2
theorem Ste.mutTp {i c : Nat} {es : List El} {xs : List PyData} (s : Ste K pins G H σ ρ As) (h : getS ρ i = some (.tp es)) (hc : es[c]? = some (.l xs)) : ∃ t vs a, σ[i]? = some (some (.ref t)) ∧ H t = some (.tup vs) ∧ vs[c]? = some (.ref a) ∧ RepO K G H (.ref a) (.ls xs) [a] ∧
    ∀ u ys, RepO K G (upd H a u) (.ref a) (.ls ys) [a] → ∃ Cs, Ste K pins G (upd H a u) σ (updS i (.tp (es.set c (.l ys))) ρ) Cs ∧ Ext G H As G (upd H a u) Cs := by
  obtain ⟨v, B, Cs, h1, h2, h3, h4, h5⟩ := Slots.out (y := .no) trivial s.slots h
  have nd := h4 s.nd
  cases h2 with
  | @tp t vs _ Bs g1 g2 g3 =>
    obtain ⟨n1, n2⟩ := List.nodup_cons.mp (List.nodup_append.mp nd).1
    obtain ⟨a, q1, q2, q3, q4⟩ := g3.mut n2 hc
    refine ⟨t, vs, a, h1, g2, q1, q3, fun u ys z => ?_⟩
    have ga : G a = none := (q3.there a List.mem_cons_self).2
    have na : a ∉ Cs := fun z => nd_disj nd a (List.mem_cons_of_mem _ q2) z
    have nt : t ≠ a := fun y => n1 (by rw [y]; exact q2)
    have e : Ext G H [a] G (upd H a u) [] := ⟨Sub.refl _, fun b x q n => by rw [upd_ne fun z => n (by rw [z]; exact List.mem_cons_self)]; exact q, fun _ q _ _ => q, fun _ z => nomatch z⟩
    have sub : Sub G (upd H a u) := fun b x q => by rw [upd_ne (ne_of_none q ga)]; exact s.sub b x q
    have h6 := h5.ext e fun b hb z => by rw [List.mem_singleton.mp z] at hb; exact na hb
    have r' : RepO K G (upd H a u) (.ref t) (.tp (es.set c (.l ys))) (t :: Bs) := .tp g1 (by rw [upd_ne nt]; exact g2) (q4 u ys z)
    have hl : i < ρ.length := by
      rcases getS_cases h with z | z <;> exact (List.getElem?_eq_some_iff.mp z).1
    have aA : a ∈ As := (h3 a).2 (List.mem_append_left _ (List.mem_cons_of_mem _ q2))
    have e2 : ∀ Ds : List Addr, (∀ b, b ∈ Ds ↔ b ∈ (t :: Bs) ++ Cs) → Ext G H As G (upd H a u) Ds := fun Ds hD =>
      ⟨Sub.refl _, fun b x q n => by rw [upd_ne fun z => n (by rw [z]; exact aA)]; exact q, fun _ q _ _ => q, fun b hb => .inl ((h3 b).2 ((hD b).1 hb))⟩
    rcases getS_cases h with z | z
    · obtain ⟨Ds, w1, w2, w3⟩ := Slots.into (z := .val (.tp (es.set c (.l ys)))) rfl r' h6 (List.getElem?_set_self hl) trivial h1
      rw [List.set_set] at w1
      have eu : updS i (.tp (es.set c (.l ys))) ρ = ρ.set i (.val (.tp (es.set c (.l ys)))) := by unfold updS; rw [z]
      exact ⟨Ds, ⟨by rw [eu]; exact w1, w3 nd, sub, by rw [eu]; exact s.pin.set trivial⟩, e2 Ds w2⟩
    · obtain ⟨Ds, w1, w2, w3⟩ := Slots.into (z := .bor (.tp (es.set c (.l ys)))) rfl r' h6 (List.getElem?_set_self hl) trivial h1
      rw [List.set_set] at w1
      have eu : updS i (.tp (es.set c (.l ys))) ρ = ρ.set i (.bor (.tp (es.set c (.l ys)))) := by unfold updS; rw [z]
      exact ⟨Ds, ⟨by rw [eu]; exact w1, w3 nd, sub, by rw [eu]; exact s.pin.keepB z⟩, e2 Ds w2⟩
def elF (i c : Nat) (F : O → Ch) : EF := fun ρ => match getS ρ i with
  | some (.tp es) => match es[c]? with
    | some (.l xs) => match F (.ls xs) with
      | some (.ls ys, d) => .ok (.dat d) (updS i (.tp (es.set c (.l ys))) ρ)
      | _ => .stuck
    | _ => .stuck
  | _ => .stuck
/-- the part of a tuple at a slot -/
def tPart1 (K : PySem.W.Frag) (i c : Nat) : TE := fun σ H Q => ∃ t vs x, σ[i]? = some (some (V.ref t)) ∧ SqT K H t vs ∧ vs[c]? = some x ∧ Q x H
theorem el_le0 {i c : Nat} {r : V → List V → Hp → VK → Prop} {F : O → Ch} (p : Mut0 K r F) (σ : L2.St) (H : Hp) (Q : VK) (h : liftE K R (elF i c F) σ H Q) : tBM0 K "list" r (tPart1 K i c) σ H Q := by
  obtain ⟨pins, G, ρ, As, s, k⟩ := h
  unfold elF at k
  split at k
  · rename_i es he
    split at k
    · rename_i xs hx
      split at k
      · rename_i ys d hF
        obtain ⟨t, vs, a, h1, h2, h3, h4, h5⟩ := s.mutTp he hx
        refine ⟨t, vs, .ref a, h1, SqT.of h2, h3, ?_, ?_⟩
        · cases h4 with
          | ls g1 g2 g3 => exact .inl ⟨rfl, _, SqL.of g2⟩
        · refine (p G H a (.ls xs) (.ls ys) d Q s.sub h4 hF).2 fun u v r' dv => ?_
          obtain ⟨Cs, w1, w2⟩ := h5 u ys r'
          exact k G _ Cs v [] w2 w1.nd (.dat dv) w1
      · exact k.elim
    · exact k.elim
  · exact k.elim
theorem el_le1 {i c : Nat} {r : V → List V → Hp → VK → Prop} {F : O → PyData → Ch} {v1 : V} {d1 : PyData} (p : Mut1 K r F) (hd : ∀ G, Dp K G v1 d1) (σ : L2.St) (H : Hp) (Q : VK) (h : liftE K R (elF i c fun o => F o d1) σ H Q) : tBM K "list" r (tPart1 K i c) (tCons (tC v1) tNil) σ H Q := by
  obtain ⟨pins, G, ρ, As, s, k⟩ := h
  unfold elF at k
  split at k
  · rename_i es he
    split at k
    · rename_i xs hx
      split at k
      · rename_i ys d hF
        obtain ⟨t, vs, a, h1, h2, h3, h4, h5⟩ := s.mutTp he hx
        refine ⟨t, vs, .ref a, h1, SqT.of h2, h3, ?_, ?_⟩
        · cases h4 with
          | ls g1 g2 g3 => exact .inl ⟨rfl, _, SqL.of g2⟩
        · refine (p G H a v1 (.ls xs) (.ls ys) d1 d Q s.sub hF).2 h4 (hd G) fun u v r' dv => ?_
          obtain ⟨Cs, w1, w2⟩ := h5 u ys r'
          exact k G _ Cs v [] w2 w1.nd (.dat dv) w1
      · exact k.elim
    · exact k.elim
  · exact k.elim
theorem el_le2 {i c : Nat} {r : V → List V → Hp → VK → Prop} {F : O → PyData → PyData → Ch} {v1 v2 : V} {d1 d2 : PyData} (p : Mut2 K r F) (hd : ∀ G, Dp K G v1 d1) (hd2 : ∀ G, Dp K G v2 d2) (σ : L2.St) (H : Hp) (Q : VK) (h : liftE K R (elF i c fun o => F o d1 d2) σ H Q) : tBM K "list" r (tPart1 K i c) (tCons (tC v1) (tCons (tC v2) tNil)) σ H Q := by
  obtain ⟨pins, G, ρ, As, s, k⟩ := h
  unfold elF at k
  split at k
  · rename_i es he
    split at k
    · rename_i xs hx
      split at k
      · rename_i ys d hF
        obtain ⟨t, vs, a, h1, h2, h3, h4, h5⟩ := s.mutTp he hx
        refine ⟨t, vs, .ref a, h1, SqT.of h2, h3, ?_, ?_⟩
        · cases h4 with
          | ls g1 g2 g3 => exact .inl ⟨rfl, _, SqL.of g2⟩
        · refine (p G H a v1 v2 (.ls xs) (.ls ys) d1 d2 d Q s.sub hF).2 h4 (hd G) (hd2 G) fun u v r' dv => ?_
          obtain ⟨Cs, w1, w2⟩ := h5 u ys r'
          exact k G _ Cs v [] w2 w1.nd (.dat dv) w1
      · exact k.elim
    · exact k.elim
  · exact k.elim
theorem atI_nat {α : Type} {xs : List α} {c : Nat} {x : α} (h : xs[c]? = some x) : L2.atI xs (c : Int) = some x := by
  have hl := (List.getElem?_eq_some_iff.mp h).1
  have e : L2.ixN xs.length (c : Int) = some c := by
    unfold L2.ixN
    simp [hl]
  unfold L2.atI
  rw [e]
  exact h
variable {o e : Expr} {pos : Pos} {f : EF}
theorem pe_part {i c : Nat} {n : Int} (hn : n = (c : Int)) (hv : PE X o (tVar i)) (he : PE X e (tC (.int n))) (hs : PlainIx e := by intro _ _; rfl) : PE X (.Subscript o e pos) (tPart1 X.K i c) := by
  refine PE.weak (pe_ix ix_tup hv he hs) fun σ H Q ⟨t, vs, x, h1, h2, h3, q⟩ => ⟨_, h1, t, vs, n, x, rfl, rfl, h2, ?_, q⟩
  rw [hn]
  exact atI_nat h3
theorem m_elRev {i c : Nat} (h : PE X o (tBM0 X.K "list" rReverse (tPart1 X.K i c))) : PE X o (liftE X.K R (elF i c revO)) := PE.weak h (el_le0 mut_rev)
theorem m_elApp {i c : Nat} {v1 : V} {d1 : PyData} (hd : ∀ G, Dp X.K G v1 d1) (h : PE X o (tBM X.K "list" rAppend (tPart1 X.K i c) (tCons (tC v1) tNil))) : PE X o (liftE X.K R (elF i c fun o => appO o d1)) := PE.weak h (el_le1 mut_append hd)
theorem m_elIns {i c : Nat} {v1 v2 : V} {d1 d2 : PyData} (hd : ∀ G, Dp X.K G v1 d1) (hd2 : ∀ G, Dp X.K G v2 d2) (h : PE X o (tBM X.K "list" rInsert (tPart1 X.K i c) (tCons (tC v1) (tCons (tC v2) tNil)))) : PE X o (liftE X.K R (elF i c fun o => insO o d1 d2)) := PE.weak h (el_le2 mut_insert hd hd2)
end

/-! ### a < b < c -/
def chF (C1 C2 : Int → Int → Bool) (f g h : EF) : TF := fun ρ => (shE f ρ).bind fun a ρ1 => (shE g ρ1).bind fun b ρ2 => match a, b with
  | .int i, .int j => if C1 i j = true then (shE h ρ2).bind fun c ρ3 => match c with
    | .int k => .ok (C2 j k) ρ3
    | _ => .stuck else .ok false ρ2
  | _, _ => .stuck
section
variable {K : PySem.W.Frag} {R : RK} {pins σ : L2.St} {G H G' H' : Hp} {As Bs Cs T : List Addr} {ρ : En} {X : Cx} {a b c : Expr} {f g h : EF} {pos : Pos}
theorem dp_int {v : V} {i : Int} (q : Dp K G v (.int i)) : v = .int i := by cases q; rfl
theorem ch_ok {op op' : CmpOp} {C1 C2 : Int → Int → Bool} (ho : OpR X (compareOp op) (rI0 fun i j => .bl (C1 i j))) (ho' : OpR X (compareOp op') (rI0 fun i j => .bl (C2 i j))) (ha : PE X a (liftE X.K R f)) (hb : PE X b (liftE X.K R g)) (hc : PE X c (liftE X.K R h))
    (hm : lastMarks [op, op'] [b, c] = false := by with_unfolding_all rfl) : PT X (.Compare a [op, op'] [b, c] pos) (liftT X.K R (chF C1 C2 f g h)) := by
  refine PT.weak (pt_chain ho ho' ha hb hc hm) fun σ H Q ⟨pins, G, ρ, As, s, k⟩ => ?_
  refine shE_le (α := Nat) (rel2 := RepO X.K) σ H _ ⟨pins, G, ρ, As, s, ?_⟩
  refine Kont.bind (T := []) (Q := Q) s.nd (fun a z => nomatch z) k fun d ρ1 G1 H1 As1 x Bs e1 nd1 r1 s1 k1 => ?_
  obtain ⟨rfl, dx⟩ := r1
  refine shE_le (α := Nat) (rel2 := RepO X.K) σ H1 _ ⟨pins, G1, ρ1, As1, s1, ?_⟩
  refine Kont.bind (T := []) (Q := Q) s1.nd (fun a z => nomatch z) (by simpa using k1) fun e ρ2 G2 H2 As2 y Bs e2 nd2 r2 s2 k2 => ?_
  obtain ⟨rfl, dy⟩ := r2
  split at k2
  · rename_i i j
    cases dp_int dx
    cases dp_int dy
    refine ⟨i, j, rfl, rfl, C1 i j, rfl, ?_⟩
    split at k2
    · rename_i hC
      rw [hC, if_pos rfl]
      refine shE_le (α := Nat) (rel2 := RepO X.K) σ H2 _ ⟨pins, G2, ρ2, As2, s2, ?_⟩
      refine Kont.bind (T := []) (Q := Q) s2.nd (fun a z => nomatch z) (by simpa using k2) fun l ρ3 G3 H3 As3 z Bs e3 nd3 r3 s3 k3 => ?_
      obtain ⟨rfl, dz⟩ := r3
      split at k3
      · rename_i n
        cases dp_int dz
        exact ⟨j, n, rfl, rfl, C2 j n, rfl, Kont.now k3 s3 (Bs := []) (fun a z => by simpa using z) s3.nd ⟨rfl, rfl⟩⟩
      · exact k3.elim
    · rename_i hC
      rw [if_neg hC]
      exact ⟨false, rfl, Kont.now k2 s2 (Bs := []) (fun a z => by simpa using z) s2.nd ⟨rfl, rfl⟩⟩
  · exact k2.elim
end

/-! ### [*xs, ..] -/
def starA (f : PF) (g : AF) : AF := fun ρ => (f ρ).bind fun p ρ1 => match p.get ρ1 with
  | some o => match o.sv with
    | some ds => (g ρ1).bind fun os ρ2 => .ok (ds.map O.dat ++ os) ρ2
    | none => .stuck
  | none => .stuck
section
variable {K : PySem.W.Frag} {R : RK} {pins σ : L2.St} {G H G' H' : Hp} {As Bs Cs T : List Addr} {ρ : En} {X : Cx}
theorem RepOs.dats {vs ws : List V} {ds : List PyData} {os : List O} (d : DpAll K G vs ds) (r : RepOs K G H ws os Bs) : RepOs K G H (vs ++ ws) (ds.map O.dat ++ os) Bs := by
  induction vs generalizing ds with
  | nil => cases d; exact r
  | cons v vs ih =>
    cases d with
    | cons a q => exact .cons (B := []) (.dat a) (ih q)
theorem pa_starF {e : Expr} {es : List Expr} {f : PF} {g : AF} {p : Pos} (h1 : PE X e (liftP X.K R f)) (h2 : PA X es (liftA X.K R g)) (hs : starEach (.Starred e p :: es) X.env = (true, eval e X.env) :: starEach es X.env := by rfl) : PA X (.Starred e p :: es) (liftA X.K R (starA f g)) := by
  refine PA.weak (StX.pa_star h1 h2 hs) fun σ H Q ⟨pins, G, ρ, As, s, k⟩ => ⟨pins, G, ρ, As, s, ?_⟩
  refine Kont.bind (T := []) (Q := Q) s.nd (fun a z => nomatch z) k fun q ρ1 G1 H1 As1 v Bs e1 nd1 r1 s1 k1 => ?_
  split at k1
  · rename_i o ho
    split at k1
    · rename_i ds hd
      obtain ⟨Cs, rc⟩ := RepP.get r1 s1 ho
      obtain ⟨p', vs, rfl, hp, dp⟩ := rc.sv s1.sub hd
      have nd1' : (Bs ++ As1).Nodup := by simpa using nd1
      refine ⟨p', vs, rfl, hp.symm, pins, G1, ρ1, As1, s1, ?_⟩
      refine Kont.bind (T := Bs) (Q := Q) nd1' (RepP.there r1) (by simpa using k1) fun os ρ2 G2 H2 As2 ws Ds e2 nd2 r2 s2 k2 => ?_
      exact Kont.now (Bs := Ds) k2 s2 (fun a z => List.mem_append_right _ z) (List.nodup_append.mp nd2).2.1 (RepOs.dats (dps_same e2.sub dp) r2)
    · exact k1.elim
  · exact k1.elim
end
/-! ### x, y = a, b where a name is a cell: by way of a tuple -/
section
variable {K : PySem.W.Frag} {R : RK} {pins σ : L2.St} {G H G' H' : Hp} {As Bs Cs T : List Addr} {ρ : En} {X : Cx} {D : Ends}
theorem s_par2T {st : Stmt} {i j : Nat} {g : AF} (h : PS X st (tAsg (tTup (liftA X.K R g)) (gTup X.K 2 (gCons (gName i) (gCons (gName j) gNil))))) : PS X st (liftS X.K R (par2S i j g)) := by
  refine PS.weak h fun D σ H ⟨pins, G, ρ, As, s, k⟩ => ⟨pins, G, ρ, As, s, ?_⟩
  refine Kont.bindS k fun os ρ1 G1 H1 As1 vs Bs e1 nd1 r1 s1 k1 => ?_
  split at k1
  · rename_i a b
    split at k1
    · rename_i ρ2 h2
      obtain ⟨ρ3, h3, h4⟩ := Option.bind_eq_some_iff.mp h2
      cases r1 with
      | @cons v vs _ _ B Bs' ra r1 =>
        cases r1 with
        | @cons w vs _ _ C Bs'' rb r1 =>
          cases r1
          have nd1' : (B ++ (C ++ As1)).Nodup := by simpa using nd1
          refine ⟨by rw [sz_lit]; show 2 ≤ 16777216; decide, fun p np => ⟨p, [v, w], rfl, SqT.of upd_same, rfl, v, [w], rfl, w, [], rfl, rfl, ?_⟩⟩
          have kp : ∀ a o, H1 a = some o → (upd H1 p (.tup [v, w])) a = some o := fun a o z => by rw [upd_ne (ne_of_none z np)]; exact z
          have sb : Sub G1 (upd H1 p (.tup [v, w])) := fun a o z => kp a o (s1.sub a o z)
          have e4 : Ext G1 H1 [] G1 (upd H1 p (.tup [v, w])) [] := ⟨Sub.refl _, fun a o z _ => kp a o z, fun a z _ _ => z, fun a z => nomatch z⟩
          have ra' := ra.ext e4 fun a _ z => nomatch z
          have rb' := rb.ext e4 fun a _ z => nomatch z
          obtain ⟨Cs, s3, l3, n3⟩ := (s1.ext e4 (fun a _ z => nomatch z) sb).putT ra' nd1' h3
          obtain ⟨Ds, s4, l4⟩ := s3.put rb' n3 h4
          have e5 := e4.frame ((B ++ (C ++ [])) ++ As1)
          rw [List.append_nil] at e5
          refine KontS.now (KontS.re k1 e5) s4 fun a z => ?_
          rcases List.mem_append.mp (l4 a z) with w | w
          · simp [w]
          · rcases List.mem_append.mp (l3 a w) with w | w <;> simp [w]
    · exact k1.elim
  · exact k1.elim
end
/-! rewriting -/
@[simp] theorem x_frT (f : TF) (ρ : En) : frT f ρ = match f (frz ρ) with
  | .ok b _ => .ok b ρ
  | _ => .stuck := (rfl)
@[simp] theorem x_frz_nil : frz [] = [] := (rfl)
@[simp] theorem x_frz_cons (s : Sl) (ρ : En) : frz (s :: ρ) = frS s :: frz ρ := (rfl)
@[simp] theorem x_frS_no : frS .no = .no := (rfl)
@[simp] theorem x_frS_lent : frS .lent = .no := (rfl)
@[simp] theorem x_frS_vd (d : PyData) : frS (.val (.dat d)) = .val (.dat d) := (rfl)
@[simp] theorem x_frS_vl (d : List PyData) : frS (.val (.ls d)) = .val (.dat (.list d)) := (rfl)
@[simp] theorem x_frS_vk (d : List (L2.Key × PyData)) : frS (.val (.dk d)) = .no := (rfl)
@[simp] theorem x_frS_vt (d : List El) : frS (.val (.tp d)) = .val (.dat (.tuple (d.map El.dv))) := (rfl)
@[simp] theorem x_frS_bd (d : PyData) : frS (.bor (.dat d)) = .val (.dat d) := (rfl)
@[simp] theorem x_frS_bl (d : List PyData) : frS (.bor (.ls d)) = .val (.dat (.list d)) := (rfl)
@[simp] theorem x_tpF (g : AF) (ρ : En) : tpF g ρ = (g ρ).bind fun os ρ1 => match elsO os with
  | some es => if small es.length = true then .ok (.tp es) ρ1 else .stuck
  | none => .stuck := by simp only [small_iff]; rfl
@[simp] theorem x_els_nil : elsO [] = some [] := (rfl)
@[simp] theorem x_els_d (d : PyData) (os : List O) : elsO (.dat d :: os) = (elsO os).map (El.d d :: ·) := by cases h : elsO os <;> simp [elsO, elO, h]
@[simp] theorem x_els_l (d : List PyData) (os : List O) : elsO (.ls d :: os) = (elsO os).map (El.l d :: ·) := by cases h : elsO os <;> simp [elsO, elO, h]
@[simp] theorem x_chF (C1 C2 : Int → Int → Bool) (f g h : EF) (ρ : En) : chF C1 C2 f g h ρ = (shE f ρ).bind fun a ρ1 => (shE g ρ1).bind fun b ρ2 => match a, b with
  | .int i, .int j => if C1 i j = true then (shE h ρ2).bind fun c ρ3 => match c with
    | .int k => .ok (C2 j k) ρ3
    | _ => .stuck else .ok false ρ2
  | _, _ => .stuck := (rfl)
@[simp] theorem x_starA (f : PF) (g : AF) (ρ : En) : starA f g ρ = (f ρ).bind fun p ρ1 => match p.get ρ1 with
  | some o => match o.sv with
    | some ds => (g ρ1).bind fun os ρ2 => .ok (ds.map O.dat ++ os) ρ2
    | none => .stuck
  | none => .stuck := (rfl)
@[simp] theorem x_elF (i c : Nat) (F : O → Ch) (ρ : En) : elF i c F ρ = match getS ρ i with
  | some (.tp es) => match es[c]? with
    | some (.l xs) => match F (.ls xs) with
      | some (.ls ys, d) => .ok (.dat d) (updS i (.tp (es.set c (.l ys))) ρ)
      | _ => .stuck
    | _ => .stuck
  | _ => .stuck := (rfl)
end Vs

namespace Vs
open PySem PySem.Spec PyProof.Rows L2 Ww
theorem find_ve {K : PySem.W.Frag} : PySem.W.findCls K (.type "ValueError") (.type "type") "__init__" = some (.val (.builtin "ValueError.__init__")) := by kernel_rfl
end Vs

namespace Vs
open PySem PySem.Spec PyProof.Rows L2 Ww
/-! ### {..}[x] -/
def ixK (f g : EF) : EF := fun ρ => (f ρ).bind fun o ρ1 => (shE g ρ1).bind fun d ρ2 => match look (some o) d with
  | some (some v) => .ok (.dat v) ρ2
  | _ => .stuck
section
variable {K : PySem.W.Frag} {R : RK} {pins σ : L2.St} {G H G' H' : Hp} {As Bs Cs T : List Addr} {Q : VK} {ρ : En} {X : Cx} {o e : Expr} {f g : EF} {pos : Pos}
theorem RepO.look {v y : V} {o : O} {d : PyData} {w : Option PyData} {B : List Addr} (r : RepO K G H v o B) (h : look (some o) d = some w) (dy : Dp K G y d) : ∃ a z, v = .ref a ∧ DGet H a y z ∧ (∀ u, w = some u → ∃ x, z = some x ∧ Dp K G x u) := by
  unfold Vs.look at h
  split at h
  · rename_i kvs k hk1 hk2
    cases (Option.some.inj h : valD kvs k = w)
    cases (Option.some.inj (dkOf_eq hk1) : o = .dk kvs)
    cases r with
    | @dk a es _ h1 h2 h3 =>
      have ey := key_dp dy hk2
      obtain ⟨i1, _⟩ := dks_val (k := k) h3
      exact ⟨a, valV es k, rfl, .inl ⟨es, k, .inl h2, ey, rfl⟩, i1⟩
  · cases h
theorem pf_ixK (hu : X.A.units + 1 < cLine) (ho : PE X o (liftE X.K R f)) (he : PE X e (liftE X.K R g)) (hn : NoSl e := by intro _ _; rfl) : PE X (.Subscript o e pos) (liftE X.K R (ixK f g)) := by
  refine PE.weak (pe_dget hu ho he hn) fun σ H Q ⟨pins, G, ρ, As, s, k⟩ => ⟨pins, G, ρ, As, s, ?_⟩
  refine Kont.bind (T := []) (Q := Q) s.nd (fun a z => nomatch z) k fun oo ρ1 G1 H1 As1 v Bs e1 nd1 r1 s1 k1 => ?_
  have nd1' : (Bs ++ As1).Nodup := by simpa using nd1
  refine shS_le σ H1 _ ⟨pins, G1, ρ1, As1, s1, ?_⟩
  refine Kont.bind (T := Bs) (Q := Q) nd1' (fun a z => (r1.there a z).1) (by simpa using k1) fun d ρ2 G2 H2 As2 y Bs2 e2 nd2 r2 s2 k2 => ?_
  obtain ⟨rfl, dy⟩ := r2
  have r1' := r1.ext e2 (nd_disj nd1')
  split at k2
  · rename_i w hl
    obtain ⟨a, z, rfl, hg, hw⟩ := r1'.look hl dy
    obtain ⟨x, rfl, dx⟩ := hw w rfl
    exact ⟨a, x, rfl, hg, Kont.now k2 s2 (Bs := []) (fun a z => List.mem_append_right _ (by simpa using z)) s2.nd (.dat dx)⟩
  · exact k2.elim
end
@[simp] theorem x_ixK (f g : EF) (ρ : En) : ixK f g ρ = (f ρ).bind fun o ρ1 => (shE g ρ1).bind fun d ρ2 => match look (some o) d with
  | some (some v) => .ok (.dat v) ρ2
  | _ => .stuck := (rfl)
end Vs

namespace Vs
open PySem PySem.Spec PyProof.Rows L2 Ww
/-- a module's tuple of texts -/
theorem tup_strs {K : PySem.W.Frag} {G : Hp} {o : Addr} {dd : Option Addr} {its : Array Value} {n : Nat} {sl : Array (Option Value)} (ss : List Str) (l : K.lookup o = some ⟨.type "tuple", dd, .seq its n, sl⟩) (v : Vals (ss.map V.str) its.toList) (hz : ss.length ≤ 100) : Dp K G (.ref o) (.tuple (ss.map PyData.str)) := by
  have hs : its.size ≤ sizeLine := by
    have e := v.length
    rw [List.length_map] at e
    have e2 : its.toList.length = its.size := Array.length_toList
    rw [sz_lit]
    omega
  refine .tup (.inr ⟨_, its, n, l, rfl, rfl, hs, v⟩) ?_
  have go : ∀ ss : List Str, DpAll K G (ss.map V.str) (ss.map PyData.str) := fun ss => by
    induction ss with
    | nil => exact .nil
    | cons s ss ih => exact .cons (.str _) ih
  exact go ss
end Vs

namespace Vs
open PySem PySem.Spec PyProof.Rows L2 Ww
/-! ### a list of tuples of one's own -/
section
variable {K : PySem.W.Frag} {R : RK} {pins σ : L2.St} {G H G' H' : Hp} {As Bs Cs T : List Addr} {Q : VK} {ρ : En} {X : Cx} {D : Ends}
theorem RepTs.len {vs : List V} {ess : List (List El)} {Bs : List Addr} (r : RepTs K G H vs ess Bs) : vs.length = ess.length := by
  induction r with
  | nil => rfl
  | cons _ _ _ _ ih => simp [ih]
theorem RepTs.snoc {vs : List V} {ess : List (List El)} {Bs : List Addr} (r : RepTs K G H vs ess Bs) {t : Addr} {ws : List V} {es : List El} {B : List Addr} (h1 : G t = none) (h2 : H t = some (.tup ws)) (h3 : RepEls K G H ws es B) :
    RepTs K G H (vs ++ [.ref t]) (ess ++ [es]) (Bs ++ (t :: B)) := by
  induction r with
  | nil =>
    have := RepTs.cons h1 h2 h3 RepTs.nil
    rw [List.append_nil] at this
    exact this
  | cons g1 g2 g3 _ ih =>
    rw [List.append_assoc]
    exact .cons g1 g2 g3 ih
/-- a list that grows by a tuple -/
def ltOf : Option Sl → Option (List (List El))
  | some (.val (.ls [])) => some []
  | some (.val (.lt ess)) => some ess
  | _ => none
def tpO : Option Sl → Option (List El)
  | some (.val (.tp es)) => some es
  | _ => none
def apE (i j : Nat) : EF := fun ρ => match ltOf ρ[i]?, tpO ρ[j]? with
  | some ess, some es => if ess.length ≤ 1000 then .ok (.dat .none) ((ρ.set i (.val (.lt (ess ++ [es])))).set j .no) else .stuck
  | _, _ => .stuck
theorem ltOf_inv {x : Option Sl} {ess : List (List El)} (h : ltOf x = some ess) : ∃ o, x = some (.val o) ∧ ∀ {v : V} {B : List Addr}, RepO K G H v o B → ∃ a vs T, v = .ref a ∧ B = a :: T ∧ G a = none ∧ H a = some (.lst vs) ∧ RepTs K G H vs ess T := by
  unfold ltOf at h
  split at h
  · cases Option.some.inj h
    refine ⟨_, rfl, fun r => ?_⟩
    cases r with
    | ls h1 h2 h3 =>
      cases h3
      exact ⟨_, _, _, rfl, rfl, h1, h2, .nil⟩
  · cases Option.some.inj h
    refine ⟨_, rfl, fun r => ?_⟩
    cases r with
    | lt h1 h2 h3 => exact ⟨_, _, _, rfl, rfl, h1, h2, h3⟩
  · cases h
theorem tpO_inv {x : Option Sl} {es : List El} (h : tpO x = some es) : x = some (.val (.tp es)) := by
  unfold tpO at h
  split at h
  · cases Option.some.inj h; rfl
  · cases h
theorem apE_le {i j : Nat} (σ : L2.St) (H : Hp) (Q : VK) (h : liftE K R (apE i j) σ H Q) : tBM K "list" rAppend (tVar i) (tCons (tVar j) tNil) σ H Q := by
  obtain ⟨pins, G, ρ, As, s, k⟩ := h
  unfold apE at k
  split at k
  · rename_i ess es hi hj
    split at k
    · rename_i hz
      obtain ⟨o, hio, inv⟩ := ltOf_inv (K := K) (G := G) (H := H) hi
      have hjo := tpO_inv hj
      have hij : i ≠ j := fun z => by
        subst z
        rw [hjo] at hio
        rw [hjo] at hi
        cases hi
      obtain ⟨v, B, C1, h1, h2, h3, h4, h5⟩ := Slots.out (y := .no) trivial s.slots (getS_val hio)
      obtain ⟨a, vs, T, rfl, rfl, ga, ha, rt⟩ := inv h2
      have hj2 : getS (ρ.set i .no) j = some (.tp es) := getS_val (by rw [List.getElem?_set_ne hij]; exact hjo)
      obtain ⟨w, B2, C2, q1, q2, q3, q4, q5⟩ := Slots.out (y := .no) trivial h5 hj2
      have nd1 := h4 s.nd
      have nd2 := q4 (List.nodup_append.mp nd1).2.1
      cases q2 with
      | @tp t ws _ Bt g1 g2 g3 =>
        refine ⟨_, h1, .inl ⟨rfl, _, SqL.of ha⟩, _, q1, a, vs, .ref t, rfl, rfl, ha, by rw [rt.len, sz_lit]; omega, ?_⟩
        have aA : a ∈ As := (h3 a).2 List.mem_cons_self
        have notT : a ∉ T := fun z => (List.nodup_cons.mp (List.nodup_append.mp nd1).1).1 z
        have notC : a ∉ C1 := fun z => (List.nodup_append.mp nd1).2.2 a List.mem_cons_self a z rfl
        have notB : a ∉ t :: Bt := fun z => notC ((q3 a).2 (List.mem_append_left _ z))
        have notC2 : a ∉ C2 := fun z => notC ((q3 a).2 (List.mem_append_right _ z))
        have kp : ∀ (L : List Addr), a ∉ L → ∀ b ∈ L, ∀ u, H b = some u → (upd H a (.lst (vs ++ [.ref t]))) b = some u := fun L hL b hb u hu => by
          rw [upd_ne fun z => hL (by rw [← z]; exact hb)]; exact hu
        have rt' := rt.stay (Sub.refl G) (kp T notT) fun _ _ z _ => z
        have re' := g3.stay (Sub.refl G) (kp Bt fun z => notB (List.mem_cons_of_mem _ z)) fun _ _ z _ => z
        have ht' := kp (t :: Bt) notB t List.mem_cons_self _ g2
        have ro : RepO K G (upd H a (.lst (vs ++ [.ref t]))) (.ref a) (.lt (ess ++ [es])) (a :: (T ++ (t :: Bt))) := .lt ga upd_same (rt'.snoc g1 ht' re')
        have eC : Ext G H [a] G (upd H a (.lst (vs ++ [.ref t]))) [] := ⟨Sub.refl G, fun b x q n => by rw [upd_ne fun z => n (by rw [z]; exact List.mem_cons_self)]; exact q, fun _ q _ _ => q, fun _ z => nomatch z⟩
        have q6 := q5.ext eC fun b hb z => notC2 (by rw [← List.mem_singleton.mp z]; exact hb)
        have hl : i < ρ.length := (List.getElem?_eq_some_iff.mp hio).1
        have h0 : ((ρ.set i .no).set j .no)[i]? = some .no := by rw [List.getElem?_set_ne hij.symm]; exact List.getElem?_set_self hl
        obtain ⟨Ds, w1, w2, w3⟩ := Slots.into (z := .val (.lt (ess ++ [es]))) rfl ro q6 h0 trivial h1
        have ee : ((ρ.set i .no).set j .no).set i (.val (.lt (ess ++ [es]))) = (ρ.set i (.val (.lt (ess ++ [es])))).set j .no := by
          rw [List.set_comm _ _ hij.symm, List.set_set]
        rw [ee] at w1
        have hmem : ∀ b, b ∈ Ds ↔ b ∈ As := fun b => by
          rw [w2 b, h3 b]
          constructor
          · intro hb
            rcases List.mem_append.mp hb with z | z
            · rcases List.mem_cons.mp z with y | y
              · exact List.mem_append_left _ (by rw [y]; exact List.mem_cons_self)
              · rcases List.mem_append.mp y with x | x
                · exact List.mem_append_left _ (List.mem_cons_of_mem _ x)
                · exact List.mem_append_right _ ((q3 b).2 (List.mem_append_left _ x))
            · exact List.mem_append_right _ ((q3 b).2 (List.mem_append_right _ z))
          · intro hb
            rcases List.mem_append.mp hb with z | z
            · rcases List.mem_cons.mp z with y | y
              · exact List.mem_append_left _ (by rw [y]; exact List.mem_cons_self)
              · exact List.mem_append_left _ (List.mem_cons_of_mem _ (List.mem_append_left _ y))
            · rcases List.mem_append.mp ((q3 b).1 z) with x | x
              · exact List.mem_append_left _ (List.mem_cons_of_mem _ (List.mem_append_right _ x))
              · exact List.mem_append_right _ x
        have ndn : ((a :: (T ++ (t :: Bt))) ++ C2).Nodup := by
          have z1 : (a :: T).Nodup := (List.nodup_append.mp nd1).1
          have z2 := (List.nodup_append.mp nd1).2.2
          have z3 : (((a :: T) ++ ((t :: Bt) ++ C2))).Nodup := List.nodup_append.mpr ⟨z1, nd2, fun x hx y hy e => z2 x hx y ((q3 y).2 hy) e⟩
          simpa [List.append_assoc] using z3
        have sb : Sub G (upd H a (.lst (vs ++ [.ref t]))) := fun b x q => by rw [upd_ne (ne_of_none q ga)]; exact s.sub b x q
        have st : Ste K pins G (upd H a (.lst (vs ++ [.ref t]))) σ ((ρ.set i (.val (.lt (ess ++ [es])))).set j .no) Ds := ⟨w1, w3 ndn, sb, Pin.set (i := j) (x := Sl.no) (Pin.set (i := i) (x := Sl.val (.lt (ess ++ [es]))) s.pin trivial) trivial⟩
        exact k G _ Ds .non [] ⟨Sub.refl G, fun b x q n => by rw [upd_ne fun z => n (by rw [z]; exact aA)]; exact q, fun _ q _ _ => q, fun b hb => .inl ((hmem b).1 hb)⟩ st.nd (.dat .non) st
    · exact k.elim
  · exact k.elim
theorem m_apT {o : Expr} {i j : Nat} (h : PE X o (tBM X.K "list" rAppend (tVar i) (tCons (tVar j) tNil))) : PE X o (liftE X.K R (apE i j)) := PE.weak h apE_le
/-! ### x[c].append(e) with what is worked out -/
def elG (i c : Nat) (F : O → PyData → Ch) (f : EF) : EF := fun ρ => match tpO ρ[i]? with
  | some es => match es[c]? with
    | some (.l xs) => (shE f (ρ.set i .no)).bind fun d ρ1 => match F (.ls xs) d with
      | some (.ls ys, r) => if isNo ρ1[i]? = true then .ok (.dat r) (ρ1.set i (.val (.tp (es.set c (.l ys))))) else .stuck
      | _ => .stuck
    | _ => .stuck
  | _ => .stuck
theorem elG_le {i c : Nat} {r : V → List V → Hp → VK → Prop} {F : O → PyData → Ch} {f : EF} (p : Mut1 K r F) (σ : L2.St) (H : Hp) (Q : VK) (h : liftE K R (elG i c F f) σ H Q) : tBM K "list" r (tPart1 K i c) (tCons (liftE K R f) tNil) σ H Q := by
  obtain ⟨pins, G, ρ, As, s, k⟩ := h
  unfold elG at k
  split at k
  · rename_i es he
    have heo := tpO_inv he
    split at k
    · rename_i xs hx
      obtain ⟨v, B, C1, h1, h2, h3, h4, h5⟩ := Slots.out (y := .no) trivial s.slots (getS_val heo)
      have nd1 := h4 s.nd
      cases h2 with
      | @tp t vs _ Bt g1 g2 g3 =>
        obtain ⟨n1, n2⟩ := List.nodup_cons.mp (List.nodup_append.mp nd1).1
        obtain ⟨a, q1, q2, q3, q4⟩ := g3.mut n2 hx
        refine ⟨t, vs, .ref a, h1, SqT.of g2, q1, ?_, ?_⟩
        · cases q3 with
          | ls y1 y2 y3 => exact .inl ⟨rfl, _, SqL.of y2⟩
        · have s1 : Ste K pins G H σ (ρ.set i .no) C1 := ⟨h5, (List.nodup_append.mp nd1).2.1, s.sub, s.pin.set trivial⟩
          refine shS_le σ H _ ⟨pins, G, ρ.set i .no, C1, s1, ?_⟩
          have k' := Kont.re k (Ext.refl.perm (As2 := As) (fun _ => Iff.rfl) (Bs2 := (t :: Bt) ++ C1) fun b hb => (h3 b).2 hb)
          have there : ∀ b ∈ t :: Bt, H b ≠ none := fun b hb => by
            rcases List.mem_cons.mp hb with z | z
            · rw [z, g2]; exact fun z => nomatch z
            · exact (g3.there b z).1
          refine Kont.bind (T := t :: Bt) (Q := Q) nd1 there k' fun d ρ1 G1 H1 As1 w Bs e1 nd2 r1 s2 k2 => ?_
          obtain ⟨rfl, dw⟩ := r1
          split at k2
          · rename_i ys rr hF
            split at k2
            · rename_i hno
              have hno := isNo_eq hno
              have dj := nd_disj nd1
              have gt1 : G1 t = none := e1.frz t g1 (by rw [g2]; exact fun z => nomatch z) (dj t List.mem_cons_self)
              have ht1 : H1 t = some (.tup vs) := e1.keep t _ g2 (dj t List.mem_cons_self)
              have re1 := g3.stay e1.sub (fun b hb u hu => e1.keep b u hu (dj b (List.mem_cons_of_mem _ hb))) fun b hb x y => e1.frz b x y (dj b (List.mem_cons_of_mem _ hb))
              obtain ⟨a', p1, p2, p3, p4⟩ := re1.mut n2 hx
              cases (Option.some.inj (q1.symm.trans p1) : V.ref a = V.ref a')
              refine (p G1 H1 a w (.ls xs) (.ls ys) d rr Q s2.sub hF).2 p3 dw fun u v r' dv => ?_
              have ga : G1 a = none := (p3.there a List.mem_cons_self).2
              have nt : t ≠ a := fun y => n1 (by rw [y]; exact p2)
              have nd2' : ((t :: Bt) ++ As1).Nodup := by simpa using nd2
              have na : a ∉ As1 := nd_disj nd2' a (List.mem_cons_of_mem _ p2)
              have ro : RepO K G1 (upd H1 a u) (.ref t) (.tp (es.set c (.l ys))) (t :: Bt) := .tp gt1 (by rw [upd_ne nt]; exact ht1) (p4 u ys r')
              have eC : Ext G1 H1 [a] G1 (upd H1 a u) [] := ⟨Sub.refl G1, fun b x q n => by rw [upd_ne fun z => n (by rw [z]; exact List.mem_cons_self)]; exact q, fun _ q _ _ => q, fun _ z => nomatch z⟩
              have sl := s2.slots.ext eC fun b hb z => na (by rw [← List.mem_singleton.mp z]; exact hb)
              obtain ⟨Ds, w1, w2, w3⟩ := Slots.into (z := .val (.tp (es.set c (.l ys)))) rfl ro sl hno trivial h1
              have sb : Sub G1 (upd H1 a u) := fun b x q => by rw [upd_ne (ne_of_none q ga)]; exact s2.sub b x q
              have st : Ste K pins G1 (upd H1 a u) σ (ρ1.set i (.val (.tp (es.set c (.l ys))))) Ds := ⟨w1, w3 nd2', sb, s2.pin.set trivial⟩
              have aT : a ∈ (t :: Bt) ++ As1 := List.mem_append_left _ (List.mem_cons_of_mem _ p2)
              have k3 : KontE K R pins σ G1 H1 ((t :: Bt) ++ As1) Q (.ok (.dat rr) (ρ1.set i (.val (.tp (es.set c (.l ys)))))) := by simpa using k2
              exact k3 G1 _ Ds v [] ⟨Sub.refl G1, fun b x q n => by rw [upd_ne fun z => n (by rw [z]; exact aT)]; exact q, fun _ q _ _ => q, fun b hb => .inl ((w2 b).1 hb)⟩ st.nd (.dat dv) st
            · exact k2.elim
          · exact k2.elim
    · exact k.elim
  · exact k.elim
theorem m_elApG {o : Expr} {i c : Nat} {f : EF} (h : PE X o (tBM X.K "list" rAppend (tPart1 X.K i c) (tCons (liftE X.K R f) tNil))) : PE X o (liftE X.K R (elG i c appO f)) := PE.weak h (elG_le mut_append)
end
end Vs

namespace Vs
open PySem PySem.Spec PyProof.Rows L2 Ww
/-! ### for x in xs, xs tuples of one's own, which are changed and then let go -/
def loopT (j : Nat) (bd : SF) : List (List El) → SF
  | [] => fun ρ => .nx ρ
  | es :: ess => fun ρ => match stO j (.tp es) ρ with
    | none => .stuck
    | some ρ1 => match bd ρ1 with
      | .nx ρ2 => loopT j bd ess ρ2
      | _ => .stuck
def ltAt : Option Sl → Option (List (List El))
  | some (.val (.lt ess)) => some ess
  | _ => none
theorem ltAt_inv {x : Option Sl} {ess : List (List El)} (h : ltAt x = some ess) : x = some (.val (.lt ess)) := by
  unfold ltAt at h
  split at h
  · cases Option.some.inj h; rfl
  · cases h
def forT (i j : Nat) (bd : SF) : SF := fun ρ => match ltAt ρ[i]? with
  | some ess => loopT j bd ess (ρ.set i .no)
  | none => .stuck
section
variable {K : PySem.W.Frag} {R : RK} {pins σ : L2.St} {G H G' H' : Hp} {As Bs Cs T : List Addr} {Q : VK} {ρ : En} {X : Cx} {D : Ends}
theorem s_forT {iter tg : Expr} {body : List Stmt} {bd : SF} {pos : Pos} {i j : Nat} (hp : PassesOwn (model X.prog X.w) X.A X.env X.xe) (hc : X.calm = true) (hi : PI X tg iter (iList X.K (tVar i))) (hg : PG X tg (gName j)) (hb : PSs X body (liftS X.K R bd))
    (hs : ∀ x, foldedSetIterable iter X.env x = pure x := by intro _; rfl) : PS X (.For tg iter body [] pos) (liftS X.K R (forT i j bd)) := by
  refine PS.weak (ps_for hp hc hi hg hb hs) fun D σ H ⟨pins, G, ρ, As, s, k⟩ => ?_
  have k : KontS X.K R pins G H As D (match ltAt ρ[i]? with
    | some ess => loopT j bd ess (ρ.set i .no)
    | none => .stuck) := k
  split at k
  · rename_i ess he
    have heo := ltAt_inv he
    obtain ⟨v, B, C1, h1, h2, h3, h4, h5⟩ := Slots.out (y := .no) trivial s.slots (getS_val heo)
    have nd1 := h4 s.nd
    cases h2 with
    | @lt a vs _ T g1 g2 g3 =>
      refine ⟨_, h1, a, rfl, ⟨vs, SqL.of g2⟩, ?_⟩
      have s1 : Ste X.K pins G H σ (ρ.set i .no) C1 := ⟨h5, (List.nodup_append.mp nd1).2.1, s.sub, Pin.set (i := i) (x := Sl.no) s.pin trivial⟩
      have k1 := KontS.re k (Ext.refl.perm (As2 := As) (fun _ => Iff.rfl) (Bs2 := (a :: T) ++ C1) fun b hb => (h3 b).2 hb)
      refine ⟨fun n m σ' H' => m = ess.length - n ∧ n ≤ ess.length ∧ ∃ G2 ρ2 As2 T2, Ste X.K pins G2 H' σ' ρ2 As2 ∧ H' a = some (.lst vs) ∧ G2 a = none ∧ RepTs X.K G2 H' (vs.drop n) (ess.drop n) T2 ∧ ((a :: T2) ++ As2).Nodup ∧ KontS X.K R pins G2 H' ((a :: T2) ++ As2) D (loopT j bd (ess.drop n) ρ2),
        ⟨_, rfl, Nat.zero_le _, G, ρ.set i .no, C1, T, s1, g2, g1, g3, nd1, k1⟩, ?_⟩
      rintro n m σ' H' ⟨rfl, hn, G2, ρ2, As2, T2, s2, ha, ga, rt, nd2, k2⟩
      have len := g3.len
      by_cases hlt : n < ess.length
      · obtain ⟨es, hes⟩ : ∃ es, es = ess[n] := ⟨_, rfl⟩
        have ed : ess.drop n = es :: ess.drop (n + 1) := by rw [hes]; exact List.drop_eq_getElem_cons hlt
        have hv : n < vs.length := by omega
        have vd : vs.drop n = vs[n] :: vs.drop (n + 1) := List.drop_eq_getElem_cons hv
        have hx0 : vs[n]? = some vs[n] := List.getElem?_eq_getElem hv
        rw [ed] at k2 rt
        rw [vd] at rt
        generalize vs[n] = x0 at *
        cases rt with
        | @cons t ws _ B2 _ _ T3 r1 r2 r3 r4 =>
          refine .inr ⟨⟨vs, .ref t, SqL.of ha, hx0⟩, fun σ3 H3 => ∃ G3 ρ3 As3 T3, Ste X.K pins G3 H3 σ3 ρ3 As3 ∧ H3 a = some (.lst vs) ∧ G3 a = none ∧ RepTs X.K G3 H3 (vs.drop (n + 1)) (ess.drop (n + 1)) T3 ∧ ((a :: T3) ++ As3).Nodup ∧ KontS X.K R pins G3 H3 ((a :: T3) ++ As3) D (loopT j bd (ess.drop (n + 1)) ρ3),
            fun σ3 H3 h3 => ⟨ess.length - (n + 1), by omega, rfl, hlt, h3⟩, fun x H3 hx => ?_⟩
          obtain ⟨eH, y⟩ := hx
          subst eH
          have e2 := y vs (SqL.of ha)
          rw [hx0] at e2
          cases (Option.some.inj e2 : V.ref t = x)
          have k2 : KontS X.K R pins G2 H3 ((a :: ((t :: B2) ++ T3)) ++ As2) D (match stO j (.tp es) ρ2 with
            | none => .stuck
            | some ρ1 => match bd ρ1 with
              | .nx ρ2 => loopT j bd (ess.drop (n + 1)) ρ2
              | _ => .stuck) := k2
          split at k2
          · exact k2.elim
          · rename_i ρ4 h4'
            have nd3 : ((t :: B2) ++ As2).Nodup := by
              have z := (List.nodup_cons.mp (show (a :: (((t :: B2) ++ T3) ++ As2)).Nodup from nd2)).2
              rw [List.append_assoc] at z
              exact (List.nodup_append.mp (nd_swap z)).2.1
            obtain ⟨Cs, s5, l5⟩ := s2.put (.tp r1 r2 r3) nd3 h4'
            refine ⟨pins, G2, ρ4, Cs, s5, ?_⟩
            have hmem : ∀ b ∈ (a :: T3) ++ Cs, b ∈ (a :: ((t :: B2) ++ T3)) ++ As2 := fun b hb => by
              rcases List.mem_append.mp hb with z | z
              · rcases List.mem_cons.mp z with w | w
                · exact List.mem_append_left _ (by rw [w]; exact List.mem_cons_self)
                · exact List.mem_append_left _ (List.mem_cons_of_mem _ (List.mem_append_right _ w))
              · rcases List.mem_append.mp (l5 b z) with w | w
                · exact List.mem_append_left _ (List.mem_cons_of_mem _ (List.mem_append_left _ w))
                · exact List.mem_append_right _ w
            have ndT : ((a :: T3) ++ Cs).Nodup := by
              have z0 : (a :: (((t :: B2) ++ T3) ++ As2)).Nodup := nd2
              obtain ⟨z1, z2⟩ := List.nodup_cons.mp z0
              rw [List.append_assoc] at z2
              have z3 := nd_swap z2
              refine List.nodup_append.mpr ⟨List.nodup_cons.mpr ⟨fun z => z1 (List.mem_append_left _ (List.mem_append_right _ z)), (List.nodup_append.mp z3).1⟩, s5.nd, fun b hb b' hb' eb => ?_⟩
              subst eb
              have hc := l5 b hb'
              rcases List.mem_cons.mp hb with w | w
              · rw [w] at hc
                rcases List.mem_append.mp hc with u | u
                · exact z1 (List.mem_append_left _ (List.mem_append_left _ u))
                · exact z1 (List.mem_append_right _ u)
              · exact (List.nodup_append.mp z3).2.2 b w b hc rfl
            have k3 := KontS.re k2 (Ext.refl.less hmem)
            have aC : a ∉ Cs := fun z => nd_disj ndT a List.mem_cons_self z
            cases hb4 : bd ρ4 with
            | nx ρ6 =>
              rw [hb4] at k3
              intro σ7 G7 H7 As7 e7 s7
              refine ⟨G7, ρ6, As7, T3, s7, e7.keep a _ ha aC, e7.frz a ga (by rw [ha]; exact fun z => nomatch z) aC, ?_, ?_, KontS.re k3 (e7.frame (a :: T3))⟩
              · exact r4.stay e7.sub (fun b hb u hu => e7.keep b u hu (nd_disj ndT b (List.mem_cons_of_mem _ hb))) fun b hb x y => e7.frz b x y (nd_disj ndT b (List.mem_cons_of_mem _ hb))
              · exact nd_frame ndT (fun b hb => by
                  rcases List.mem_cons.mp hb with w | w
                  · rw [w, ha]; exact fun z => nomatch z
                  · exact (r4.there b w).1) e7 s7.nd
            | ct ρ6 => rw [hb4] at k3; exact k3.elim
            | bk ρ6 => rw [hb4] at k3; exact k3.elim
            | rt o ρ6 => rw [hb4] at k3; exact k3.elim
            | er c o ρ6 => rw [hb4] at k3; exact k3.elim
            | stuck => rw [hb4] at k3; exact k3.elim
      · have e : ess.drop n = [] := List.drop_eq_nil_of_le (by omega)
        rw [e] at k2
        exact .inl ⟨⟨vs, SqL.of ha, by omega⟩, KontS.now k2 s2 fun b z => List.mem_append_right _ z⟩
  · exact k.elim
end
/-! rewriting -/
@[simp] theorem x_lt1 : ltOf (some (.val (.ls []))) = some [] := (rfl)
@[simp] theorem x_lt2 (ess : List (List El)) : ltOf (some (.val (.lt ess))) = some ess := (rfl)
@[simp] theorem x_tpO (es : List El) : tpO (some (.val (.tp es))) = some es := (rfl)
@[simp] theorem x_ltAt (ess : List (List El)) : ltAt (some (.val (.lt ess))) = some ess := (rfl)
@[simp] theorem x_apE (i j : Nat) (ρ : En) : apE i j ρ = match ltOf ρ[i]?, tpO ρ[j]? with
  | some ess, some es => if ess.length ≤ 1000 then .ok (.dat .none) ((ρ.set i (.val (.lt (ess ++ [es])))).set j .no) else .stuck
  | _, _ => .stuck := (rfl)
@[simp] theorem x_elG (i c : Nat) (F : O → PyData → Ch) (f : EF) (ρ : En) : elG i c F f ρ = match tpO ρ[i]? with
  | some es => match es[c]? with
    | some (.l xs) => (shE f (ρ.set i .no)).bind fun d ρ1 => match F (.ls xs) d with
      | some (.ls ys, r) => if isNo ρ1[i]? = true then .ok (.dat r) (ρ1.set i (.val (.tp (es.set c (.l ys))))) else .stuck
      | _ => .stuck
    | _ => .stuck
  | _ => .stuck := (rfl)
@[simp] theorem x_isNo : isNo (some Sl.no) = true := (rfl)
@[simp] theorem x_forT (i j : Nat) (bd : SF) (ρ : En) : forT i j bd ρ = match ltAt ρ[i]? with
  | some ess => loopT j bd ess (ρ.set i .no)
  | none => .stuck := (rfl)
@[simp] theorem x_frS_lt (ess : List (List El)) : frS (.val (.lt ess)) = .no := (rfl)
end Vs

namespace Vs
open PySem PySem.Spec PyProof.Rows L2 Ww
/-! ### a comprehension with two fors -/
/-- the inner for; k goes on behind it -/
def lcI (t : Tg) (c : TF) (e : EF) (own : List Nat) (k : En → Rs (List PyData)) : List PyData → En → Rs (List PyData)
  | [], ρ => k ρ
  | d :: ds, ρ => match t.f d ρ with
    | none => .stuck
    | some ρ1 => (c ρ1).bindX fun b ρ2 => if b = true then (e ρ2).bindX fun o ρ3 => match o.dv with
        | some x => (lcI t c e own k ds (wipeR ρ3 own)).bindX fun xs ρ4 => .ok (x :: xs) ρ4
        | none => .stuck
      else lcI t c e own k ds (wipeR ρ2 own)
def lc2L (t : Tg) (c : TF) (it1 : IF) (t1 : Tg) (c1 : TF) (e : EF) (own own1 : List Nat) : List PyData → En → Rs (List PyData)
  | [], ρ => .ok [] ρ
  | d :: ds, ρ => match t.f d ρ with
    | none => .stuck
    | some ρ1 => (c ρ1).bindX fun b ρ2 => if b = true then (it1 ρ2).bindX fun ds1 ρ3 => lcI t1 c1 e own1 (fun ρ4 => lc2L t c it1 t1 c1 e own own1 ds (wipeR ρ4 own)) ds1 (wipeR ρ3 own1)
      else lc2L t c it1 t1 c1 e own own1 ds (wipeR ρ2 own)
def lc2Fin (own : List Nat) (ρ1 : En) (acc : List PyData) (r : Rs (List PyData)) : Res := r.bindX fun xs ρ2 => if (acc ++ xs).length ≤ sizeLine then .ok (.ls (acc ++ xs)) (restF ρ1 own ρ2) else .stuck
def lc2F (it : IF) (t : Tg) (c : TF) (it1 : IF) (t1 : Tg) (c1 : TF) (e : EF) (own own1 : List Nat) : EF := fun ρ => (it ρ).bind fun ds ρ1 => lc2Fin own ρ1 [] (lc2L t c it1 t1 c1 e own own1 ds (wipeR ρ1 own))
section
variable {K : PySem.W.Frag} {R : RK} {pins σ : L2.St} {G H G' H' : Hp} {As Bs Cs T : List Addr} {Q : VK} {ρ : En} {X : Cx} {D : Ends}
theorem lc2Fin_cons {vs : List Nat} {ρ1 : En} {xs : List PyData} {x : PyData} {r : Rs (List PyData)} (k : KontE K R pins σ G H As Q (lc2Fin vs ρ1 xs (r.bindX fun ys ρ4 => .ok (x :: ys) ρ4))) : xs.length < sizeLine ∧ KontE K R pins σ G H As Q (lc2Fin vs ρ1 (xs ++ [x]) r) := by
  cases r with
  | ok ys ρ4 =>
    have k : KontE K R pins σ G H As Q (if (xs ++ (x :: ys)).length ≤ sizeLine then .ok (.ls (xs ++ (x :: ys))) (restF ρ1 vs ρ4) else .stuck) := k
    split at k
    · rename_i hz
      rw [List.length_append, List.length_cons] at hz
      refine ⟨by omega, ?_⟩
      show KontE K R pins σ G H As Q (if ((xs ++ [x]) ++ ys).length ≤ sizeLine then .ok (.ls ((xs ++ [x]) ++ ys)) (restF ρ1 vs ρ4) else .stuck)
      rw [if_pos (by rw [List.append_assoc, List.length_append]; simp; omega), List.append_assoc]
      exact k
    · exact k.elim
  | er c o ρ => exact k.elim
  | stuck => exact k.elim
/-- what stands between two turns: the list that grows, the slots -/
structure Mid (K : PySem.W.Frag) (R : RK) (pins σ0 σ : L2.St) (Q : VK) (L : Addr) (vs : List Nat) (G1 : Hp) (ρ1 : En) (H : Hp) (ρ : En) (r : Rs (List PyData)) : Prop where
  ex : ∃ G As acc xs, Ste K pins G H σ ρ As ∧ Sub G1 G ∧ G L = none ∧ L ∉ As ∧ H L = some (.lst acc) ∧ DpAll K G acc xs ∧ KontE K R pins σ0 G H (L :: As) Q (lc2Fin vs ρ1 xs r)
theorem wipe_sub {vs ws : List Nat} {σ : L2.St} (h : ∀ i ∈ ws, i ∈ vs) : wipe (wipe σ ws) vs = wipe σ vs := by
  refine List.ext_getElem? fun i => ?_
  by_cases hi : i ∈ vs
  · have q : ∀ (τ : L2.St), (wipe τ vs)[i]? = if i < τ.length then some none else none := fun τ => by
      by_cases c : i < τ.length
      · rw [if_pos c]
        have hw : i < (wipe τ vs).length := by rw [wipe_length]; exact c
        cases e : (wipe τ vs)[i]? with
        | none => rw [List.getElem?_eq_none_iff] at e; omega
        | some x =>
          cases x with
          | none => rfl
          | some v => exact absurd hi (wipe_some e).2
      · rw [if_neg c]
        exact List.getElem?_eq_none (by rw [wipe_length]; omega)
    rw [q, q, wipe_length]
  · rw [wipe_out' hi, wipe_out' hi]
    exact wipe_out' fun z => hi (h i z)
/-- the slots emptied again -/
theorem Mid.wiped {σ0 : L2.St} {L : Addr} {vs ws : List Nat} {G1 : Hp} {ρ1 : En} {H : Hp} {ρ : En} {r : Rs (List PyData)} (m : Mid K R pins σ0 σ Q L vs G1 ρ1 H ρ r) : Mid K R pins σ0 (wipe σ ws) Q L vs G1 ρ1 H (wipeR ρ ws) r := by
  obtain ⟨G, As, acc, xs, s, sb, gL, nL, hL, dx, k⟩ := m.ex
  obtain ⟨Bs, s9, l9⟩ := s.wiped ws
  exact ⟨G, Bs, acc, xs, s9, sb, gL, fun z => nL (l9 L z), hL, dx, Kont.re k (Ext.refl.less fun a ha => by
    rcases List.mem_cons.mp ha with w | w
    · rw [w]; exact List.mem_cons_self
    · exact List.mem_cons_of_mem _ (l9 a w))⟩
/-- a test -/
theorem Mid.test {σ0 : L2.St} {L : Addr} {vs : List Nat} {G1 : Hp} {ρ1 : En} {H : Hp} {ρ : En} {c : TF} {f : Bool → En → Rs (List PyData)} {Q1 : Bool → Hp → Prop} (m : Mid K R pins σ0 σ Q L vs G1 ρ1 H ρ ((c ρ).bindX f))
    (step : ∀ b ρ2 H2, Mid K R pins σ0 σ Q L vs G1 ρ1 H2 ρ2 (f b ρ2) → Q1 b H2) : liftT K R0 c σ H Q1 := by
  obtain ⟨G, As, acc, xs, s, sb, gL, nL, hL, dx, k⟩ := m.ex
  refine ⟨pins, G, ρ, As, s, ?_⟩
  cases hc : c ρ with
  | er c o ρ => rw [hc] at k; exact k.elim
  | stuck => rw [hc] at k; exact k.elim
  | ok b ρ6 =>
    rw [hc] at k
    intro G6 H6 As6 b' Bs6 e6 nd6 r6 s6
    obtain ⟨rfl, rfl⟩ := r6
    have e6 : Ext G H As G6 H6 As6 := e6
    refine step _ ρ6 H6 ⟨G6, As6, acc, xs, s6, sb.trans e6.sub, e6.frz L gL (by rw [hL]; exact fun z => nomatch z) nL, fun z => ?_, e6.keep L _ hL nL, dps_same e6.sub dx, Kont.re k (e6.frame [L])⟩
    rcases e6.own L z with w | w
    · exact nL w
    · rw [hL] at w; cases w
/-- an item is put to the list -/
theorem Mid.item {σ0 : L2.St} {L : Addr} {vs ws : List Nat} {G1 : Hp} {ρ1 : En} {H : Hp} {ρ : En} {e : EF} {f : En → Rs (List PyData)} {Nx : Hp → Prop} (m : Mid K R pins σ0 σ Q L vs G1 ρ1 H ρ ((e ρ).bindX fun o ρ3 => match o.dv with
      | some x => (f (wipeR ρ3 ws)).bindX fun xs ρ4 => .ok (x :: xs) ρ4
      | none => .stuck))
    (step : ∀ ρ2 H2, Mid K R pins σ0 (wipe σ ws) Q L vs G1 ρ1 H2 (wipeR ρ2 ws) (f (wipeR ρ2 ws)) → Nx H2) : liftE K R0 e σ H (fun y H7 => ∃ acc, H7 L = some (.lst acc) ∧ acc.length < sizeLine ∧ Nx (upd H7 L (.lst (acc ++ [y])))) := by
  obtain ⟨G, As, acc, xs, s, sb, gL, nL, hL, dx, k⟩ := m.ex
  refine ⟨pins, G, ρ, As, s, ?_⟩
  cases he : e ρ with
  | er c o ρ => rw [he] at k; exact k.elim
  | stuck => rw [he] at k; exact k.elim
  | ok o ρ7 =>
    rw [he] at k
    intro G7 H7 As7 y Bs7 e7 nd7 r7 s7
    have hL7 := e7.keep L _ hL nL
    have gL7 := e7.frz L gL (by rw [hL]; exact fun z => nomatch z) nL
    have nL7 : L ∉ Bs7 ++ As7 := fun z => by
      rcases e7.own L z with w | w
      · exact nL w
      · rw [hL] at w; cases w
    have k7 := Kont.re k (e7.frame [L])
    have k7 : KontE K R pins σ0 G7 H7 ([L] ++ (Bs7 ++ As7)) Q (lc2Fin vs ρ1 xs (match o.dv with
      | some x => (f (wipeR ρ7 ws)).bindX fun xs ρ4 => .ok (x :: xs) ρ4
      | none => .stuck)) := k7
    cases hdv : o.dv with
    | none => rw [hdv] at k7; exact k7.elim
    | some z =>
      rw [hdv] at k7
      obtain ⟨hz, k8⟩ := lc2Fin_cons k7
      obtain ⟨G8, e8, sb8, d8⟩ := RepO.share r7 (List.nodup_append.mp nd7).1 s7.sub hdv
      have s8 := s7.ext e8 (fun a ha hb => nd_disj nd7 a hb ha) sb8
      have gL8 := e8.frz L gL7 (by rw [hL7]; exact fun z => nomatch z) fun w => nL7 (List.mem_append_left _ w)
      have nL8 : L ∉ As7 := fun w => nL7 (List.mem_append_right _ w)
      refine ⟨acc, hL7, by rw [dps_len dx]; exact hz, step ρ7 _ ?_⟩
      have mid : Mid K R pins σ0 σ Q L vs G1 ρ1 (upd H7 L (.lst (acc ++ [y]))) ρ7 (f (wipeR ρ7 ws)) := by
        refine ⟨G8, As7, acc ++ [y], xs ++ [z], ?_, sb.trans (e7.sub.trans e8.sub), gL8, nL8, upd_same, DpAll.app (dps_same (e7.sub.trans e8.sub) dx) (.cons d8 .nil), ?_⟩
        · have eL : Ext G8 H7 [L] G8 (upd H7 L (.lst (acc ++ [y]))) [] := ⟨Sub.refl _, fun a u q n => by rw [upd_ne fun w => n (by rw [w]; exact List.mem_cons_self)]; exact q, fun _ q _ _ => q, fun a q => nomatch q⟩
          refine s8.ext eL (fun a ha hb => ?_) fun a u q => ?_
          · rw [List.mem_singleton.mp hb] at ha
            exact nL8 ha
          · have hne : a ≠ L := fun w => by
              subst w
              rw [gL8] at q; cases q
            rw [upd_ne hne]
            exact sb8 a u q
        · refine Kont.re k8 ⟨e8.sub, fun a u q n => ?_, fun a q h n => e8.frz a q h fun w => n (List.mem_append_right _ (List.mem_append_left _ w)), fun a q => .inl ?_⟩
          · rw [upd_ne fun w => n (by rw [w]; exact List.mem_append_left _ List.mem_cons_self)]
            exact q
          · rcases List.mem_cons.mp q with w | w
            · rw [w]; exact List.mem_append_left _ List.mem_cons_self
            · exact List.mem_append_right _ (List.mem_append_right _ w)
      exact mid.wiped
/-- a target is filled -/
theorem Mid.target {σ0 : L2.St} {L : Addr} {vs ws : List Nat} {G1 : Hp} {ρ1 : En} {H H3 : Hp} {ρ : En} {t : Tg} {d : PyData} {f : En → Rs (List PyData)} {x : V} {Q1 : L2.St → Hp → Prop} (hws : ∀ i ∈ t.ws, i ∈ ws) (m : Mid K R pins σ0 (wipe σ ws) Q L vs G1 ρ1 H ρ (match t.f d ρ with
      | none => .stuck
      | some ρ4 => f ρ4))
    (hx : ∀ G, Sub G1 G → Sub G H → ∃ G3, Grow G H G3 H3 [] ∧ Dp K G3 x d)
    (step : ∀ σ5 ρ4, wipe σ5 ws = wipe σ ws → Mid K R pins σ0 σ5 Q L vs G1 ρ1 H3 ρ4 (f ρ4) → Q1 σ5 H3) : liftG K t x (wipe σ ws) H3 Q1 := by
  obtain ⟨G, As, acc, xs, s, sb, gL, nL, hL, dx, k⟩ := m.ex
  obtain ⟨G3, g3, d3⟩ := hx G sb s.sub
  have s3 := s.ext g3.ext (fun a _ z => nomatch z) g3.sub
  have e3 : Ext G H (L :: As) G3 H3 (L :: As) := (g3.ext.frame (L :: As)).perm (fun a => by simp) fun a ha => by simpa using ha
  cases ht : t.f d ρ with
  | none => rw [ht] at k; exact k.elim
  | some ρ4 =>
    rw [ht] at k
    refine ⟨pins, G3, ρ, As, d, ρ4, s3, d3, ht, fun σ5 As5 s5 l5 ln5 w5 => step σ5 ρ4 ((wipe_eq ln5 w5 hws).trans wipe_wipe) ?_⟩
    exact ⟨G3, As5, acc, xs, s5, sb.trans g3.ext.sub, g3.ext.frz L gL (by rw [hL]; exact fun z => nomatch z) (fun z => nomatch z), fun z => nL (l5 L z), g3.ext.keep L _ hL (fun z => nomatch z), dps_same g3.ext.sub dx, Kont.re k (e3.less fun a ha => by
      rcases List.mem_cons.mp ha with z | z
      · rw [z]; exact List.mem_cons_self
      · exact List.mem_cons_of_mem _ (l5 a z))⟩
end
end Vs

namespace Vs
open PySem PySem.Spec PyProof.Rows L2 Ww
section
variable {K : PySem.W.Frag} {R : RK} {pins σ : L2.St} {G H G' H' : Hp} {As Bs Cs T : List Addr} {Q : VK} {ρ : En} {X : Cx} {D : Ends}
theorem Mid.base {σ0 : L2.St} {L : Addr} {vs : List Nat} {G1 G2 : Hp} {ρ1 : En} {H : Hp} {ρ : En} {r : Rs (List PyData)} (sb : Sub G1 G2) (m : Mid K R pins σ0 σ Q L vs G2 ρ1 H ρ r) : Mid K R pins σ0 σ Q L vs G1 ρ1 H ρ r := by
  obtain ⟨G, As, acc, xs, s, sb2, r⟩ := m.ex
  exact ⟨G, As, acc, xs, s, sb.trans sb2, r⟩
/-- the inner source -/
theorem Mid.iter {σ0 : L2.St} {L : Addr} {vs : List Nat} {G1 : Hp} {ρ1 : En} {H : Hp} {ρ : En} {it : IF} {f : List PyData → En → Rs (List PyData)} {Q1 : It → Hp → Prop} (m : Mid K R pins σ0 σ Q L vs G1 ρ1 H ρ ((it ρ).bindX f))
    (step : ∀ ds ρ2 H2 J G2, Sub G1 G2 → WalkF K G2 J ds → Mid K R pins σ0 σ Q L vs G2 ρ1 H2 ρ2 (f ds ρ2) → Q1 J H2) : liftI K R0 it σ H Q1 := by
  obtain ⟨G, As, acc, xs, s, sb, gL, nL, hL, dx, k⟩ := m.ex
  refine ⟨pins, G, ρ, As, s, ?_⟩
  cases hc : it ρ with
  | er c o ρ => rw [hc] at k; exact k.elim
  | stuck => rw [hc] at k; exact k.elim
  | ok b ρ6 =>
    rw [hc] at k
    intro G6 H6 As6 J Bs6 e6 nd6 r6 s6
    obtain ⟨rfl, wk⟩ := r6
    have e6 : Ext G H As G6 H6 As6 := e6
    refine step b ρ6 H6 J G6 (sb.trans e6.sub) wk ⟨G6, As6, acc, xs, s6, Sub.refl _, e6.frz L gL (by rw [hL]; exact fun z => nomatch z) nL, fun z => ?_, e6.keep L _ hL nL, dps_same e6.sub dx, Kont.re k (e6.frame [L])⟩
    rcases e6.own L z with w | w
    · exact nL w
    · rw [hL] at w; cases w
theorem lc2_le {it it1 : IF} {t t1 : Tg} {c c1 : TF} {e : EF} {vs vs1 : List Nat} (hws : ∀ i ∈ t.ws, i ∈ vs) (hws1 : ∀ i ∈ t1.ws, i ∈ vs1) (hv : ∀ i ∈ vs1, i ∈ vs) (σ : L2.St) (H : Hp) (Q : VK) (h : liftE K R (lc2F it t c it1 t1 c1 e vs vs1) σ H Q) :
    tLc2 (liftI K R it) (liftG K t) (liftT K R0 c) (liftI K R0 it1) (liftG K t1) (liftT K R0 c1) (liftE K R0 e) vs vs1 σ H Q := by
  obtain ⟨pins, G, ρ, As, s, k⟩ := h
  refine ⟨pins, G, ρ, As, s, ?_⟩
  refine Kont.bind (T := []) (Q := Q) s.nd (fun a z => nomatch z) k fun ds ρ1 G1 H1 As1 J Bs e1 nd1 r1 s1 k1 => ?_
  obtain ⟨rfl, wk⟩ := r1
  intro L hL
  have gL : G1 L = none := s1.sub.free hL
  have nL : L ∉ As1 := fun z => (s1.slots.there L z).1 hL
  have eN : Ext G1 H1 As1 G1 (upd H1 L (.lst [])) (L :: As1) := ⟨Sub.refl _, fun a o q _ => by rw [upd_ne (ne_of_none q hL)]; exact q, fun _ q _ _ => q, fun a q => by
    rcases List.mem_cons.mp q with z | z
    · exact .inr (by rw [z]; exact hL)
    · exact .inl z⟩
  obtain ⟨Cs1, sw, lw⟩ := s1.wiped vs
  have sN : Ste K pins G1 (upd H1 L (.lst [])) (wipe σ vs) (wipeR ρ1 vs) Cs1 := by
    refine sw.ext (As := []) (Cs := []) ⟨Sub.refl _, fun a o q _ => by rw [upd_ne (ne_of_none q hL)]; exact q, fun _ q _ _ => q, fun a q => nomatch q⟩ (fun a _ z => nomatch z) fun a o q => by
      rw [upd_ne (ne_of_none (s1.sub a o q) hL)]; exact s1.sub a o q
  have m0 : Mid K R pins σ (wipe σ vs) Q L vs G1 ρ1 (upd H1 L (.lst [])) (wipeR ρ1 vs) (lc2L t c it1 t1 c1 e vs vs1 (ds.drop 0) (wipeR ρ1 vs)) := by
    refine ⟨G1, Cs1, [], [], sN, Sub.refl _, gL, fun z => nL (lw L z), upd_same, .nil, Kont.re (by simpa using k1) (eN.less fun a q => ?_)⟩
    rcases List.mem_cons.mp q with z | z
    · rw [z]; exact List.mem_cons_self
    · exact List.mem_cons_of_mem _ (lw a z)
  refine ⟨fun i m H' => m = ds.length - i ∧ i ≤ ds.length ∧ ∃ ρ0, Mid K R pins σ (wipe σ vs) Q L vs G1 ρ1 H' (wipeR ρ0 vs) (lc2L t c it1 t1 c1 e vs vs1 (ds.drop i) (wipeR ρ0 vs)), ⟨_, rfl, Nat.zero_le _, ρ1, m0⟩, ?_⟩
  rintro i m H' ⟨rfl, hi, ρ0, md⟩
  by_cases hlt : i < ds.length
  · have hd : ds[i]? = some ds[i] := List.getElem?_eq_getElem hlt
    have ed : ds.drop i = ds[i] :: ds.drop (i + 1) := List.drop_eq_getElem_cons hlt
    have hgo : J.go i H' := by
      obtain ⟨G2, As2, acc, xs, s2, sb, _⟩ := md.ex
      exact ((wk G2 H' sb s2.sub).1 i _ hd).1
    have hyl : ∀ x H3, J.yld i H' x H3 → ∀ G2, Sub G1 G2 → Sub G2 H' → ∃ G3, Grow G2 H' G3 H3 [] ∧ Dp K G3 x ds[i] := fun x H3 q G2 sb s2 => ((wk G2 H' sb s2).1 i _ hd).2 x H3 q
    rw [ed] at md
    generalize ds[i] = d at *
    refine .inr ⟨hgo, fun H3 => ∃ ρ0, Mid K R pins σ (wipe σ vs) Q L vs G1 ρ1 H3 (wipeR ρ0 vs) (lc2L t c it1 t1 c1 e vs vs1 (ds.drop (i + 1)) (wipeR ρ0 vs)), fun H3 h3 => ⟨ds.length - (i + 1), by omega, rfl, hlt, h3⟩, fun x H3 hx3 => ?_⟩
    refine Mid.target (f := fun ρ4 => (c ρ4).bindX fun b ρ2 => if b = true then (it1 ρ2).bindX fun ds1 ρ3 => lcI t1 c1 e vs1 (fun ρ4 => lc2L t c it1 t1 c1 e vs vs1 (ds.drop (i + 1)) (wipeR ρ4 vs)) ds1 (wipeR ρ3 vs1)
      else lc2L t c it1 t1 c1 e vs vs1 (ds.drop (i + 1)) (wipeR ρ2 vs)) hws md (hyl x H3 hx3) fun σ5 ρ4 w5 m5 => ⟨w5, Mid.test m5 fun b ρ6 H6 m6 => ?_⟩
    cases b with
    | false =>
      have z := Mid.wiped (ws := vs) m6
      rw [w5] at z
      exact ⟨ρ6, z⟩
    | true =>
      show liftI K R0 it1 σ5 H6 _
      have m6 : Mid K R pins σ σ5 Q L vs G1 ρ1 H6 ρ6 ((it1 ρ6).bindX fun ds1 ρ3 => lcI t1 c1 e vs1 (fun ρ4 => lc2L t c it1 t1 c1 e vs vs1 (ds.drop (i + 1)) (wipeR ρ4 vs)) ds1 (wipeR ρ3 vs1)) := m6
      refine Mid.iter m6 fun ds1 ρ7 H7 J1 G7 sb7 wk1 m7 => ?_
      refine ⟨fun j k H => k = ds1.length - j ∧ j ≤ ds1.length ∧ ∃ ρ0, Mid K R pins σ (wipe σ5 vs1) Q L vs G7 ρ1 H (wipeR ρ0 vs1) (lcI t1 c1 e vs1 (fun ρ4 => lc2L t c it1 t1 c1 e vs vs1 (ds.drop (i + 1)) (wipeR ρ4 vs)) (ds1.drop j) (wipeR ρ0 vs1)), ⟨_, rfl, Nat.zero_le _, ρ7, Mid.wiped m7⟩, ?_⟩
      rintro j k H8 ⟨rfl, hj, ρ8, m8⟩
      by_cases hlt1 : j < ds1.length
      · have hd1 : ds1[j]? = some ds1[j] := List.getElem?_eq_getElem hlt1
        have ed1 : ds1.drop j = ds1[j] :: ds1.drop (j + 1) := List.drop_eq_getElem_cons hlt1
        have hgo1 : J1.go j H8 := by
          obtain ⟨G2, As2, acc, xs, s2, sb, _⟩ := m8.ex
          exact ((wk1 G2 H8 sb s2.sub).1 j _ hd1).1
        have hyl1 : ∀ x H3, J1.yld j H8 x H3 → ∀ G2, Sub G7 G2 → Sub G2 H8 → ∃ G3, Grow G2 H8 G3 H3 [] ∧ Dp K G3 x ds1[j] := fun x H3 q G2 sb s2 => ((wk1 G2 H8 sb s2).1 j _ hd1).2 x H3 q
        rw [ed1] at m8
        generalize ds1[j] = d1 at *
        refine .inr ⟨hgo1, fun H9 => ∃ ρ0, Mid K R pins σ (wipe σ5 vs1) Q L vs G7 ρ1 H9 (wipeR ρ0 vs1) (lcI t1 c1 e vs1 (fun ρ4 => lc2L t c it1 t1 c1 e vs vs1 (ds.drop (i + 1)) (wipeR ρ4 vs)) (ds1.drop (j + 1)) (wipeR ρ0 vs1)), fun H9 h9 => ⟨ds1.length - (j + 1), by omega, rfl, hlt1, h9⟩, fun y H9 hy9 => ?_⟩
        refine Mid.target (f := fun ρ4 => (c1 ρ4).bindX fun b ρ2 => if b = true then (e ρ2).bindX fun o ρ3 => match o.dv with
            | some x => (lcI t1 c1 e vs1 (fun ρ4 => lc2L t c it1 t1 c1 e vs vs1 (ds.drop (i + 1)) (wipeR ρ4 vs)) (ds1.drop (j + 1)) (wipeR ρ3 vs1)).bindX fun xs ρ4 => .ok (x :: xs) ρ4
            | none => .stuck
          else lcI t1 c1 e vs1 (fun ρ4 => lc2L t c it1 t1 c1 e vs vs1 (ds.drop (i + 1)) (wipeR ρ4 vs)) (ds1.drop (j + 1)) (wipeR ρ2 vs1)) hws1 m8 (hyl1 y H9 hy9) fun σ9 ρ9 w9 m9 => ⟨w9, Mid.test m9 fun b1 ρ10 H10 m10 => ?_⟩
        cases b1 with
        | false =>
          have z := Mid.wiped (ws := vs1) m10
          rw [w9] at z
          exact ⟨ρ10, z⟩
        | true =>
          have m10 : Mid K R pins σ σ9 Q L vs G7 ρ1 H10 ρ10 ((e ρ10).bindX fun o ρ3 => match o.dv with
            | some x => (lcI t1 c1 e vs1 (fun ρ4 => lc2L t c it1 t1 c1 e vs vs1 (ds.drop (i + 1)) (wipeR ρ4 vs)) (ds1.drop (j + 1)) (wipeR ρ3 vs1)).bindX fun xs ρ4 => .ok (x :: xs) ρ4
            | none => .stuck) := m10
          exact Mid.item (Nx := fun H9 => ∃ ρ0, Mid K R pins σ (wipe σ5 vs1) Q L vs G7 ρ1 H9 (wipeR ρ0 vs1) (lcI t1 c1 e vs1 (fun ρ4 => lc2L t c it1 t1 c1 e vs vs1 (ds.drop (i + 1)) (wipeR ρ4 vs)) (ds1.drop (j + 1)) (wipeR ρ0 vs1))) (f := fun ρ => lcI t1 c1 e vs1 (fun ρ4 => lc2L t c it1 t1 c1 e vs vs1 (ds.drop (i + 1)) (wipeR ρ4 vs)) (ds1.drop (j + 1)) ρ) m10 fun ρ11 H11 m11 => by
            rw [w9] at m11
            exact ⟨ρ11, m11⟩
      · have ee : ds1.drop j = [] := List.drop_eq_nil_of_le (by omega)
        rw [ee] at m8
        have hst : J1.stop j H8 := by
          obtain ⟨G2, As2, acc, xs, s2, sb, _⟩ := m8.ex
          exact (wk1 G2 H8 sb s2.sub).2 j (by omega)
        have z := Mid.base sb7 (Mid.wiped (ws := vs) m8)
        rw [wipe_sub hv, w5] at z
        exact .inl ⟨hst, wipeR ρ8 vs1, z⟩
  · have ee : ds.drop i = [] := List.drop_eq_nil_of_le (by omega)
    rw [ee] at md
    obtain ⟨G2, As2, acc, xs, s2, sb, g2, n2, hL2, hx, k2⟩ := md.ex
    refine .inl ⟨(wk G2 H' sb s2.sub).2 i (by omega), ?_⟩
    have k2 : KontE K R pins σ G2 H' (L :: As2) Q (if (xs ++ []).length ≤ sizeLine then .ok (.ls (xs ++ [])) (restF ρ1 vs (wipeR ρ0 vs)) else .stuck) := k2
    split at k2
    · rw [List.append_nil] at k2
      have su : Ste K pins G2 H' σ (wipeR ρ0 vs) As2 := ⟨s2.slots.unwipe vs, s2.nd, s2.sub, Pin.unwipe s2.pin⟩
      obtain ⟨Cs, sr, lr⟩ := Ste.rest s1 sb vs su
      exact Kont.now k2 sr (Bs := [L]) (fun a ha => by
        rcases List.mem_append.mp ha with z | z
        · rw [List.mem_singleton.mp z]; exact List.mem_cons_self
        · exact List.mem_cons_of_mem _ (lr a z)) (List.nodup_append.mpr ⟨by simp, sr.nd, fun a ha b hb z => by
          rw [List.mem_singleton.mp ha] at z; subst z; exact n2 (lr _ hb)⟩) (.ls g2 hL2 hx)
    · exact k2.elim
variable {elt tg iter tg1 iter1 : Expr} {ifs ifs1 : List Expr} {scope : Scope} {own : List (Str × Nat)} {vs1 : List Nat} {pos : Pos}
theorem pf_lc2 (it : IF) (t : Tg) (c : TF) (it1 : IF) (t1 : Tg) (c1 : TF) (e : EF) (vs1 : List Nat) (hc : X.calm = true) (hN : X.N.Nodup) (hi : PI X tg iter (liftI X.K R it)) (ok : BlkOk X.N X.env.scope scope own)
    (hg : ∀ (s : Shared) (H : Hp) (C : Addr) (cl : List (Str × Addr)) (fp : List Addr), PG (X.blk s H scope (compEnvC scope cl C X.env) fp) tg (liftG X.K t)) (ht : ∀ (s : Shared) (H : Hp) (C : Addr) (cl : List (Str × Addr)) (fp : List Addr), PTs (X.blk s H scope (compEnvC scope cl C X.env) fp) ifs (liftT X.K R0 c))
    (hi1 : ∀ (s : Shared) (H : Hp) (C : Addr) (cl : List (Str × Addr)) (fp : List Addr), PI (X.blk s H scope (compEnvC scope cl C X.env) fp) tg1 iter1 (liftI X.K R0 it1))
    (hg1 : ∀ (s : Shared) (H : Hp) (C : Addr) (cl : List (Str × Addr)) (fp : List Addr), PG (X.blk s H scope (compEnvC scope cl C X.env) fp) tg1 (liftG X.K t1)) (ht1 : ∀ (s : Shared) (H : Hp) (C : Addr) (cl : List (Str × Addr)) (fp : List Addr), PTs (X.blk s H scope (compEnvC scope cl C X.env) fp) ifs1 (liftT X.K R0 c1))
    (he : ∀ (s : Shared) (H : Hp) (C : Addr) (cl : List (Str × Addr)) (fp : List Addr), PE (X.blk s H scope (compEnvC scope cl C X.env) fp) elt (liftE X.K R0 e)) (hws : ∀ i ∈ t.ws, i ∈ own.map (·.2)) (hws1 : ∀ i ∈ t1.ws, i ∈ vs1) (hv : ∀ i ∈ vs1, i ∈ own.map (·.2)) (hs : ∀ x, foldedSetIterable iter X.env x = pure x := by intro _; rfl) (hs1 : ∀ env x, foldedSetIterable iter1 env x = pure x := by intro _ _; rfl) :
    PE X (.ListComp elt [⟨tg, iter, ifs, 0⟩, ⟨tg1, iter1, ifs1, 0⟩] scope pos) (liftE X.K R (lc2F it t c it1 t1 c1 e (own.map (·.2)) vs1)) := PE.weak (pe_lc2 hc hN hi ok hv hg ht hi1 hg1 ht1 he hs hs1) (lc2_le hws hws1 hv)
theorem s_setLc2 (it : IF) (t : Tg) (c : TF) (it1 : IF) (t1 : Tg) (c1 : TF) (e : EF) (vs1 : List Nat) {i : Nat} {y : Str} {py spos : Pos} (hc : X.calm = true) (hN : X.N.Nodup) (hy : X.N[i]? = some y) (hyl : X.env.scope.names.lookup y = some .local) (hsw : swapsWith (.ListComp elt [⟨tg, iter, ifs, 0⟩, ⟨tg1, iter1, ifs1, 0⟩] scope pos) (some (.Name y py)) spos.line X.env = pure true) (hi : PI X tg iter (liftI X.K R it)) (ok : BlkOk X.N X.env.scope scope own)
    (hg : ∀ (s : Shared) (H : Hp) (C : Addr) (cl : List (Str × Addr)) (fp : List Addr), PG (X.blk s H scope (compEnvC scope cl C X.env) fp) tg (liftG X.K t)) (ht : ∀ (s : Shared) (H : Hp) (C : Addr) (cl : List (Str × Addr)) (fp : List Addr), PTs (X.blk s H scope (compEnvC scope cl C X.env) fp) ifs (liftT X.K R0 c))
    (hi1 : ∀ (s : Shared) (H : Hp) (C : Addr) (cl : List (Str × Addr)) (fp : List Addr), PI (X.blk s H scope (compEnvC scope cl C X.env) fp) tg1 iter1 (liftI X.K R0 it1))
    (hg1 : ∀ (s : Shared) (H : Hp) (C : Addr) (cl : List (Str × Addr)) (fp : List Addr), PG (X.blk s H scope (compEnvC scope cl C X.env) fp) tg1 (liftG X.K t1)) (ht1 : ∀ (s : Shared) (H : Hp) (C : Addr) (cl : List (Str × Addr)) (fp : List Addr), PTs (X.blk s H scope (compEnvC scope cl C X.env) fp) ifs1 (liftT X.K R0 c1))
    (he : ∀ (s : Shared) (H : Hp) (C : Addr) (cl : List (Str × Addr)) (fp : List Addr), PE (X.blk s H scope (compEnvC scope cl C X.env) fp) elt (liftE X.K R0 e)) (hws : ∀ i ∈ t.ws, i ∈ own.map (·.2)) (hws1 : ∀ i ∈ t1.ws, i ∈ vs1) (hv : ∀ i ∈ vs1, i ∈ own.map (·.2)) (hs : ∀ x, foldedSetIterable iter X.env x = pure x := by intro _; rfl) (hs1 : ∀ env x, foldedSetIterable iter1 env x = pure x := by intro _ _; rfl) :
    PS X (.Assign [.Name y py] (.ListComp elt [⟨tg, iter, ifs, 0⟩, ⟨tg1, iter1, ifs1, 0⟩] scope pos) spos) (liftS X.K R (setS i (lc2F it t c it1 t1 c1 e (own.map (·.2)) vs1))) := by
  refine s_set (i := i) (PS.weak (ps_setLc2 hc hN hy hyl hsw hi ok hv hg ht hi1 hg1 ht1 he hs hs1) fun D σ H q => ?_)
  exact lc2_le hws hws1 hv σ H (fun x H1 => gName i x σ H1 D.nx) q
end
end Vs

namespace Ww
open PySem PySem.Spec PyProof.Rows L2 PySem.Froz
def letters1 (x : Str) : List Str := x.cps.toList.map fun c => (⟨#[c]⟩ : Str)
section
variable {P : Program} {w : World} {A : Around} {E : Value → Shared → Prop} {s : Shared}
set_option maxHeartbeats 8000000 in
/-- set(a text) -/
theorem call_set_text (x : Str) (t : Tok) {Q : Value → Shared → Prop} (hh : A.handled = none) (hb : x.cps.size + 1 < scanBound)
    (h : ∀ (h' : Heap) (tk : Nat), SetS P w h' s.heap.objs.size (dedup [] (letters1 x)) → (∀ b o, s.heap.get? b = some o → h'.get? b = some o) → Q (.ref s.heap.objs.size) { s with heap := h', toks := tk }) :
    wpAny (model P w) A (call (.type "set") [.str x t]) Q E s := by
  have size : (letters1 x).length = x.cps.size := by
    rw [letters1, List.length_map, Array.length_toList]
  obtain ⟨c, tl, hmro⟩ := PySem.F.called_set.mro
  have hmade := PySem.F.called_set.made
  have hsub := PySem.F.called_set.sub
  refine wpAny_call (codeAny_of_tree ?_)
  show wpAny _ _ (callAny (.type "set") _) _ _ _
  refine wpAny_pure ⟨Code.quiet_builtin _ (by decide +kernel), codeAny_builtin PySem.F.entry_type_call ?_⟩
  rw [Around.under_plain (weight_type_call_type "set" [.str x t] []) rfl]
  have h1 := PySem.F.called_set.notType
  have h2 := PySem.F.called_set.canCreate
  have hct := PySem.F.typeCall_set_1 (.str x t)
  repeat (any_goals (first | assumption | wp_step))
  refine codeAny_mono (code_set_led1 (.str x t) (E := E) (Q₁ := fun obj s₁ => obj = .ref s.heap.objs.size ∧ s₁ = { s with heap := s.heap.push { cls := .type "set", dict := none, data := .set #[] 0 (.fresh 0 0 (!w.params.followText "set-order")) } }) ⟨rfl, rfl⟩) fun r s₁ hr => ?_
  match r, hr with
  | .error e, hr => exact hr
  | .ok .next, hr => exact hr.elim
  | .ok .brk, hr => exact hr.elim
  | .ok .cont, hr => exact hr.elim
  | .ok (.ret obj), hr =>
    obtain ⟨rfl, rfl⟩ := hr
    have hS : (s.heap.push { cls := .type "set", dict := none, data := .set #[] 0 (.fresh 0 0 (!w.params.followText "set-order")) }).get? s.heap.objs.size = some { cls := .type "set", dict := none, data := .set #[] 0 (.fresh 0 0 (!w.params.followText "set-order")) } := Heap.get?_push_size _ rfl
    have hT : Shared.TypeIs { s with heap := s.heap.push { cls := .type "set", dict := none, data := .set #[] 0 (.fresh 0 0 (!w.params.followText "set-order")) } } (.ref s.heap.objs.size) "set" := ⟨_, hS, rfl⟩
    have hli := PySem.F.called_set.init.lookup
    have hbi := PySem.F.called_set.init.bind (.ref s.heap.objs.size)
    repeat (any_goals (first | assumption | wp_step))
    refine codeAny_mono (codeAny_call_builtin (R := wants (fun r s₂ => r = .none ∧ ∃ h' tk, s₂ = { s with heap := h', toks := tk } ∧ SetS P w h' s.heap.objs.size (dedup [] (letters1 x)) ∧
        (∀ b o, s.heap.get? b = some o → h'.get? b = some o)) E) PySem.F.called_set.init.plain PySem.F.entry_set_init (PySem.check_set_init_1 hT ?_)) fun r₂ s₂ hr₂ => ?_
    · have hsls := PySem.F.sub_str_set
      have hslf := PySem.F.sub_str_frozenset
      have hne : (Value.type "str" == Value.type "dict") = false := by decide
      unfold Builtin.«set.__init__» noKeywords Builtin.Frozenset.updateFrom
      generalize hPI : pyIter = PI
      wp_walk
      subst hPI
      refine wpAny_pyIter_str fun o St W st0 => ?_
      refine wpAny_bind (wpAny_runValue ?_)
      have hh3 : A.in1.in1.in1.handled = none := by simp [hh]
      have hz : (s.heap.push { cls := .type "set", dict := none, data := .set #[] 0 (.fresh 0 0 (!w.params.followText "set-order")) }).objs.size = s.heap.objs.size + 1 := Heap.size_push ..
      have nf : s.heap.objs.size ∉ [(s.heap.push { cls := .type "set", dict := none, data := .set #[] 0 (.fresh 0 0 (!w.params.followText "set-order")) }).objs.size] := by
        rw [hz]
        simp only [List.mem_cons, List.not_mem_nil, or_false, not_or]
        exact Nat.ne_of_lt (Nat.lt_succ_self _)
      refine loop_strs ((W _ hh3).toS) s.heap.objs.size nf (letters1 x) size.symm (by rw [size]; exact hb) (fun i v ⟨c, u, q1, q2⟩ => ⟨_, u, by rw [letters1, List.getElem?_map, Array.getElem?_toList, q1]; rfl, q2⟩) (x.cps.size - 0) 0 _ (by omega) (Nat.zero_le _)
        st0 (setS_nil (Heap.get?_push_of_some _ hS)) ?_
      intro s' mv h3
      obtain ⟨h', g2, d', tk', os'⟩ := s'
      have eg : g2 = s.gens := mv.gens
      have ed : d' = s.drawn := mv.drawn
      have eo : os' = s.os := mv.os
      subst eg ed eo
      show wpAny _ _ _ _ _ _
      refine wpAny_pure ?_
      show wpAny _ _ (ret Value.none) _ _ _
      refine wpAny_pure ⟨rfl, h', tk', rfl, h3, fun b o e => ?_⟩
      have b0 : b < s.heap.objs.size := Heap.lt_size e
      refine mv.heap b o ?_ (Heap.get?_push_of_some _ (Heap.get?_push_of_some _ e))
      simp only [List.mem_cons, List.not_mem_nil, or_false, not_or]
      refine ⟨Nat.ne_of_lt b0, ?_⟩
      rw [hz]
      exact Nat.ne_of_lt (Nat.lt_succ_of_lt b0)
    · match r₂, hr₂ with
      | .error e, hr₂ => exact hr₂
      | .ok .next, hr₂ => exact hr₂.elim
      | .ok .brk, hr₂ => exact hr₂.elim
      | .ok .cont, hr₂ => exact hr₂.elim
      | .ok (.ret r), hr₂ =>
        obtain ⟨rfl, h', tk, rfl, h3, hk⟩ := hr₂
        repeat (any_goals (first | assumption | wp_step))
        exact h _ _ h3 hk
end
section
variable {X : Cx}
def rSetT (P : Program) (w : World) : List V → Hp → VK → Prop := fun vs H Q => ∃ (x : Str), vs = [.str x] ∧ x.cps.size ≤ 1000 ∧
  ∀ p, H p = none → Q (.ref p) (upd H p (SetSO P w p (dedup [] (letters1 x))))
theorem cr_setT (hc : X.calm = true) : CallR X (.type "set") (rSetT X.prog X.w) := by
  intro pins s σ H vs us Q I r h
  obtain ⟨x, rfl, hz, q⟩ := h
  cases r with
  | cons r1 rs =>
    cases rs
    obtain ⟨t, rfl⟩ := r1
    have hn : H s.heap.objs.size = none := I.hok.fresh (Nat.le_refl _)
    refine call_set_text (P := X.prog) (w := X.w) x t (I.ok.hd hc) (by unfold scanBound; omega) fun h' tk R k => ?_
    exact ⟨.ref s.heap.objs.size, _, I.laid (t' := tk) k (Nat.le_refl _) (setSO_new R), rfl, q _ hn⟩
end
end Ww

/-! texts: lower, upper, isupper, count, [::-1], sorted(set(a text)), replace -/
namespace Ww
open PySem PySem.Spec PyProof.Rows L2
section
variable {X : Cx} {e o a b : Expr} {te to ta tb : TE} {pos : Pos}
/-! ### a text the other way about -/
theorem rev_idx (z : Str) : (Builtin.Str.strSliceIndices none none (-1) z.length).filterMap (z.cps[·]?) = z.cps.toList.reverse := by
  have h : Builtin.Str.strSliceIndices none none (-1) z.length = (List.range z.cps.size).reverse := by
    show sliceRange ((z.length : Int) - 1) (-1) (-1) = _
    rw [PySem.W.krv_sliceRange, PySem.W.krv_range]; rfl
  rw [h, List.filterMap_reverse, PySem.W.krv_all]
def tRevS (te : TE) : TE := tUn (fun x H Q => ∃ z : Str, x = .str z ∧ z.length ≤ 1000 ∧ Q (.str ⟨z.cps.toList.reverse.toArray⟩) H) te
theorem pe_revS {k : Nat} {p1 p2 p3 : Pos} (he : PE X e te) : PE X (.Subscript e (.Slice none none (some (.UnaryOp .USub (.Constant (.int 1) k p1) p2)) p3) pos) (tRevS te) := by
  refine ⟨fun pins s σ H Q I hw => Subscript_ (thn (he.run pins s σ H _ I hw) fun v s1 ⟨x, H1, I1, r1, z, ex, hz, q⟩ => ?_)⟩
  subst ex
  obtain ⟨t, rfl⟩ := r1
  have hst : PO X (some (.UnaryOp .USub (.Constant (.int 1) k p1) p2)) (tPart (tUn (rU fun i => .int (-i)) (tC (.int 1)))) := po_some (pe_un un_neg pe_int)
  refine wpAny_Slice (thn (po_none.run pins s1 σ H1 (fun oo G => oo = none ∧ G = H1) I1 ⟨rfl, rfl⟩) fun v2 s2 ⟨l, H2, I2, pl, el, e2⟩ => ?_)
  subst el e2
  refine thn (po_none.run pins s2 σ H2 (fun oo G => oo = none ∧ G = H2) I2 ⟨rfl, rfl⟩) fun v3 s3 ⟨u, H3, I3, pu, eu, e3⟩ => ?_
  subst eu e3
  refine thn (hst.run pins s3 σ H3 (fun oo G => oo = some (-1) ∧ G = H3) I3 ⟨1, rfl, -1, rfl, rfl, rfl⟩) fun v4 s4 ⟨oo, H4, I4, ps, eo, e4⟩ => ?_
  subst eo e4
  obtain ⟨l, rfl, hl⟩ := IsPart.raw pl
  obtain ⟨u, rfl, hu⟩ := IsPart.raw pu
  obtain ⟨w, rfl, hw⟩ := IsPart.raw ps
  have I5 : Inv X pins σ H4 { s4 with heap := s4.heap.push { cls := .type "slice", data := .fields #[partValue l, partValue u, partValue w] } } := I4.kept (t' := s4.toks) fun b0 ob qb => Heap.get?_push_of_some _ qb
  refine tail_any (ops := [.str z t, .ref s4.heap.objs.size]) (typeIs_str _ _ _) PySem.F.slot_str_getitem.lookup ?_ (by with_unfolding_all rfl)
  have h0 : ((w.map (·.1)).getD 1 == 0) = false := by rw [hw]; rfl
  refine wpAny_getItem_str_slice (l := l) (u := u) (st := w) ⟨_, Heap.get?_push_size _ rfl, rfl, rfl⟩ h0 ?_
  unfold sliceMade slicePicked
  rw [hl, hu, hw]
  show Made.post (if ((-1 : Int) == 1 && _) = true then Made.val (.str z t) else _) _ _
  have e1 : ((-1 : Int) == 1) = false := rfl
  rw [e1, Bool.false_and, if_neg Bool.false_ne_true]
  have e2 : (Option.some (-1 : Int)).getD 1 = -1 := rfl
  rw [e2, rev_idx]
  exact ⟨by show z.cps.toList.reverse.toArray.size ≤ _; rw [List.size_toArray, List.length_reverse, Array.length_toList]; exact Nat.le_trans hz (by decide +kernel), .str _, H4, I5.tok _, ⟨_, rfl⟩, q⟩

/-! ### o.replace(a + b, written), a text's token is new -/
/-- as PE, a token was given out -/
def PE1 (X : Cx) (e : Expr) (t : TE) : Prop :=
  ∀ (pins : List (Addr × Obj)) (s : Shared) (σ : L2.St) (H : Hp) (Q : VK), Inv X pins σ H s → t σ H Q → wpAny (model X.prog X.w) X.A (eval e X.env) (fun v s1 => 1 ≤ s1.toks ∧ EP X pins σ Q v s1) X.xe s
theorem pe1_upper {apos : Pos} (ho : PE X o to) (hbase : attributeBase o "upper" X.env (eval o X.env) = eval o X.env := by rfl) (hline : (apos.endLine == pos.line) = true := by rfl) :
    PE1 X (.Call (.Attribute o "upper" apos) [] [] pos) (tM0 (fun x xs H Q => ∃ z, x = .str z ∧ xs = [] ∧ z.length ≤ 5592405 ∧ Q (.str (Txt.upper z)) H) to) := by
  intro pins s σ H Q I h
  refine PySem.Call_method0 hbase hline (thn (ho.run pins s σ H _ I h) fun v s1 ⟨x, H1, I1, r1, q1⟩ => ?_)
  obtain ⟨_, z, rfl, _, hz, q⟩ := q1
  obtain ⟨t, rfl⟩ := _root_.id r1
  refine ⟨"str", _, PySem.F.plainAttrs_str, PySem.F.slot_str_upper, PySem.F.type_str_upper, typeIs_str _ _ _, (fun _ w => nomatch w), Calls.callWith_builtin rfl (PySem.evalArgs_none ?_)⟩
  exact PySem.SC.upper (PyProof.Rows.short24 (by have h2 := PyProof.Rows.len_upper z; omega)) ⟨Nat.succ_le_succ (Nat.zero_le _), .str _, H1, I1.tok _, ⟨_, rfl⟩, q⟩
/-- a + b of two texts with a new token -/
def PEF (X : Cx) (e : Expr) (t : TE) : Prop :=
  ∀ (pins : List (Addr × Obj)) (s : Shared) (σ : L2.St) (H : Hp) (Q : VK), Inv X pins σ H s → t σ H Q → wpAny (model X.prog X.w) X.A (eval e X.env) (fun v s1 => ∃ (y : Str) (u : Tok) (H1 : Hp), v = .str y u ∧ 1 ≤ u ∧ u < s1.toks ∧ Inv X pins σ H1 s1 ∧ Q (.str y) H1) X.xe s
def rAddF : R2 := fun x y H Q => ∃ i j : Str, x = .str i ∧ y = .str j ∧ 1 ≤ i.length ∧ 1 ≤ j.length ∧ i.length + j.length ≤ 1000 ∧ Q (.str (i ++ j)) H
theorem add_new {pins : List (Addr × Obj)} {s : Shared} {σ : L2.St} {H : Hp} {x y : V} {u v : Value} {Q : VK} (I : Inv X pins σ H s) (r1 : RelV x u) (r2 : RelV y v) (h1 : 1 ≤ s.toks) (q : rAddF x y H Q) :
    wpAny (model X.prog X.w) X.A (binaryOp .Add u v) (fun v s1 => ∃ (y : Str) (u : Tok) (H1 : Hp), v = .str y u ∧ 1 ≤ u ∧ u < s1.toks ∧ Inv X pins σ H1 s1 ∧ Q (.str y) H1) X.xe s := by
  obtain ⟨i, j, rfl, rfl, hi, hj, hz, q⟩ := q
  obtain ⟨t, rfl⟩ := r1
  obtain ⟨t2, rfl⟩ := r2
  refine PySem.P.add_str ?_
  have n1 : (i.length == 0) = false := by rw [beq_eq_false_iff_ne]; omega
  have n2 : (j.length == 0) = false := by rw [beq_eq_false_iff_ne]; omega
  rw [n1, n2, if_neg Bool.false_ne_true, if_neg Bool.false_ne_true]
  refine ⟨?_, i ++ j, s.toks, H, rfl, h1, Nat.lt_succ_self _, I.tok _, q⟩
  rw [show (i ++ j).length = i.length + j.length from Array.size_append ..]
  exact Nat.le_trans hz (by decide +kernel)
theorem pef_l (ha : PE1 X a ta) (hb : PE X b tb) : PEF X (.BinOp a .Add b pos) (tOp rAddF ta tb) := by
  intro pins s σ H Q I h
  refine wpAny_BinOp (thn (ha pins s σ H _ I h) fun v s1 ⟨h1, x, H1, I1, r1, q1⟩ => ?_)
  exact wpAny_mono (PySem.wpAny_toks (hb.run pins s1 σ H1 _ I1 q1)) (fun u s2 ⟨hk, y, H2, I2, r2, q2⟩ => add_new I2 r1 r2 (Nat.le_trans h1 hk) q2) fun _ _ z => z.2
theorem pef_r (ha : PE X a ta) (hb : PE1 X b tb) : PEF X (.BinOp a .Add b pos) (tOp rAddF ta tb) := by
  intro pins s σ H Q I h
  refine wpAny_BinOp (thn (ha.run pins s σ H _ I h) fun v s1 ⟨x, H1, I1, r1, q1⟩ => ?_)
  exact thn (hb pins s1 σ H1 _ I1 q1) fun u s2 ⟨h1, y, H2, I2, r2, q2⟩ => add_new I2 r1 r2 h1 q2
def tRepF (to ta : TE) (z : Str) : TE := fun σ H Q => to σ H fun x H1 => (∃ i, x = .str i) ∧ ta σ H1 fun y H2 => ∃ i j : Str, x = .str i ∧ y = .str j ∧ (j == z) = false ∧ i.length ≤ 1000 ∧ z.length ≤ 1000 ∧ Q (.str (Txt.replace i j z)) H2
theorem pe_repF {z : Str} {k : Nat} {c1 apos : Pos} (ho : PE X o to) (ha : PEF X a ta)
    (hst : starEach [a, .Constant (.str z) k c1] X.env = [(false, eval a X.env), (false, eval (.Constant (.str z) k c1) X.env)] := by rfl)
    (hbase : attributeBase o "replace" X.env (eval o X.env) = eval o X.env := by rfl) (hline : (apos.endLine == pos.line) = true := by rfl) :
    PE X (.Call (.Attribute o "replace" apos) [a, .Constant (.str z) k c1] [] pos) (tRepF to ta z) := by
  refine ⟨fun pins s σ H Q I h => PySem.Call_method2 hbase hst hline (thn (ho.run pins s σ H _ I h) fun v s1 ⟨x, H1, I1, r1, ex, q1⟩ => ?_)⟩
  obtain ⟨i, rfl⟩ := ex
  obtain ⟨t, rfl⟩ := _root_.id r1
  refine ⟨"str", _, PySem.F.plainAttrs_str, PySem.F.slot_str_replace, PySem.F.type_str_replace, typeIs_str _ _ _, (fun _ w => nomatch w), Calls.callWith_builtin rfl (Calls.evalArgs_plain (Calls.spliced_cons ?_))⟩
  refine thn (ha pins s1 σ H1 _ I1 q1) fun u s2 ⟨y, tu, H2, ev, l1, l2, I2, i', j, e1, e2, hne, hi, hz, q⟩ => ?_
  subst ev
  cases e1
  cases e2
  refine Calls.spliced_cons (Calls.Constant_str (Calls.spliced_nil ?_))
  have hb : i.length + (i.length + 1) * z.length ≤ 16777216 := by
    have := Nat.mul_le_mul (show i.length + 1 ≤ 1001 by omega) hz
    omega
  exact PySem.SC.replace (Nat.ne_of_gt l1) (Nat.ne_of_gt (Nat.lt_of_le_of_lt (Nat.zero_le _) l2)) (Nat.ne_of_lt l2) hne hb fun t' k' => ⟨.str _, H2, I2.tok k', ⟨t', rfl⟩, q⟩
end
end Ww

/-! texts by content -/
namespace Vs
open PySem PySem.Spec PyProof.Rows L2 Ww
def strO : O → Option Str
  | .dat (.str z) => some z
  | _ => none
def lowerO (a : O) : Option O := (strO a).bind fun z => if z.length ≤ 1000 then some (.dat (.str (Txt.lower z))) else none
def upperO (a : O) : Option O := (strO a).bind fun z => if z.length ≤ 1000 then some (.dat (.str (Txt.upper z))) else none
def isupO (a : O) : Option O := (strO a).map fun z => .dat (.bool (Txt.isupper z))
def scntO (a b : O) : Option O := (strO a).bind fun z => (strO b).map fun y => .dat (.int (Txt.count z y))
def revSO (a : O) : Option O := (strO a).bind fun z => if z.length ≤ 1000 then some (.dat (.str ⟨z.cps.toList.reverse.toArray⟩)) else none
/-- sorted(set(a text)) -/
def sortedTxtO (a : O) : Option O := (strO a).bind fun z => if z.length ≤ 1000 ∧ (dedup [] (letters1 z)).length < 64 then some (.ls ((sortU (letters1 z)).map .str)) else none
/-- a.replace(b + c, z) -/
def repFO (z : Str) (a b c : O) : Option O := (strO a).bind fun i => (strO b).bind fun j => (strO c).bind fun k =>
  if 1 ≤ j.length ∧ 1 ≤ k.length ∧ j.length + k.length ≤ 1000 ∧ i.length ≤ 1000 ∧ z.length ≤ 1000 ∧ ((j ++ k) == z) = false then some (.dat (.str (Txt.replace i (j ++ k) z))) else none
/-- three operands; the first one is looked at ahead of the others -/
def op3c (c : O → Bool) (F : O → O → O → Option O) (f g h : PF) : EF := fun ρ => (f ρ).bind fun p ρ1 => match p.get ρ1 with
  | some a => if c a = true then (g ρ1).bind fun q ρ2 => (h ρ2).bind fun u ρ3 => fin3 F (p.get ρ3) (q.get ρ3) (u.get ρ3) ρ3 else .stuck
  | none => .stuck
section
variable {K : PySem.W.Frag} {R : RK} {pins σ : L2.St} {G H G' H' : Hp} {As Bs Cs T : List Addr} {Q : VK}
theorem strO_of {a : O} {z : Str} (h : strO a = some z) : a = .dat (.str z) := by
  unfold strO at h
  split at h
  · cases Option.some.inj h; rfl
  · cases h
theorem prim_lower : Prim1 K (fun x H Q => (∃ a, x = V.str a) ∧ ∃ a, x = .str a ∧ ([] : List V) = [] ∧ a.length ≤ 5592405 ∧ Q (.str (Txt.lower a)) H) lowerO := by
  intro G H x a o B Q s ra h k
  obtain ⟨z, h1, h2⟩ := Option.bind_eq_some_iff.mp h
  cases strO_of h1
  split at h2
  · cases Option.some.inj h2
    exact ⟨⟨z, dat_str ra⟩, z, dat_str ra, rfl, by omega, Grow.dat s (.str _) k⟩
  · cases h2
theorem prim_upper : Prim1 K (fun x H Q => (∃ a, x = V.str a) ∧ ∃ a, x = .str a ∧ ([] : List V) = [] ∧ a.length ≤ 5592405 ∧ Q (.str (Txt.upper a)) H) upperO := by
  intro G H x a o B Q s ra h k
  obtain ⟨z, h1, h2⟩ := Option.bind_eq_some_iff.mp h
  cases strO_of h1
  split at h2
  · cases Option.some.inj h2
    exact ⟨⟨z, dat_str ra⟩, z, dat_str ra, rfl, by omega, Grow.dat s (.str _) k⟩
  · cases h2
theorem prim_isup : Prim1 K (fun x H Q => (∃ a, x = V.str a) ∧ ∃ a, x = .str a ∧ ([] : List V) = [] ∧ True ∧ Q (.bl (Txt.isupper a)) H) isupO := by
  intro G H x a o B Q s ra h k
  obtain ⟨z, h1, h2⟩ := Option.map_eq_some_iff.mp h
  cases strO_of h1
  cases h2
  exact ⟨⟨z, dat_str ra⟩, z, dat_str ra, rfl, trivial, Grow.dat s (.bl _) k⟩
theorem prim_scnt : Prim2 K (fun x y H Q => ∃ a b, x = V.str a ∧ [y] = [V.str b] ∧ Q (.int (Txt.count a b)) H) scntO := by
  intro G H x y a b o B C Q s ra rb h k
  obtain ⟨z, h1, h2⟩ := Option.bind_eq_some_iff.mp h
  obtain ⟨w, h3, h4⟩ := Option.map_eq_some_iff.mp h2
  cases strO_of h1
  cases strO_of h3
  cases h4
  exact ⟨z, w, dat_str ra, by rw [dat_str rb], Grow.dat s (.int _) k⟩
theorem prim_revS : Prim1 K (fun x H Q => ∃ z : Str, x = .str z ∧ z.length ≤ 1000 ∧ Q (.str ⟨z.cps.toList.reverse.toArray⟩) H) revSO := by
  intro G H x a o B Q s ra h k
  obtain ⟨z, h1, h2⟩ := Option.bind_eq_some_iff.mp h
  cases strO_of h1
  split at h2
  · rename_i hz
    cases Option.some.inj h2
    exact ⟨z, dat_str ra, hz, Grow.dat s (.str _) k⟩
  · cases h2
theorem prim_sortedTxt {P : Program} {w : World} : Prim1 K (fun x H Q => rSetT P w [x] H fun v H1 => rSortS P w [v] H1 Q) sortedTxtO := by
  intro G H x a o B Q s ra h k
  obtain ⟨z, h1, h2⟩ := Option.bind_eq_some_iff.mp h
  cases strO_of h1
  split at h2
  · rename_i hz
    cases Option.some.inj h2
    refine ⟨z, by rw [dat_str ra], hz.1, fun l nl => ⟨l, _, rfl, upd_same, hz.2, fun ss q hs nq => ?_⟩⟩
    have e : ss = sortU (letters1 z) := (hs.of_dedup).eq (sortU_srt _)
    rw [e]
    have nH : H q = none := (same_new nl _ : Same H _).free nq
    have g1 : Grow G H G (upd H l (SetSO P w l (dedup [] (letters1 z)))) [] := ⟨⟨Sub.refl _, fun a u q1 _ => by rw [upd_ne (ne_of_none q1 nl)]; exact q1, fun _ q1 _ _ => q1, fun a q1 => nomatch q1⟩, fun a u q1 => by rw [upd_ne (ne_of_none (s a u q1) nl)]; exact s a u q1, .nil⟩
    have g2 := grow_new (u := .lst ((sortU (letters1 z)).map V.str)) g1.sub nq
    refine k _ _ _ [q] ⟨⟨Sub.refl _, fun a u q1 n => g2.ext.keep a u (g1.ext.keep a u q1 n) n, fun _ q1 _ _ => q1, fun a q1 => .inr (by rw [List.mem_singleton.mp q1]; exact nH)⟩, g2.sub, by simp⟩ ?_
    exact grow_ls g1.sub nq (dps_strs _)
  · cases h2
theorem op3c_le {f g h : PF} {r : R3} {c : O → Bool} {C : V → Prop} {F : O → O → O → Option O} (hc : ∀ G H v a B, RepO K G H v a B → c a = true → C v) (p : Prim3 K r F) (σ : L2.St) (H : Hp) (Q : VK) (hw : liftE K R (op3c c F f g h) σ H Q) :
    liftP K R f σ H fun x H1 => C x ∧ liftP K R g σ H1 fun y H2 => liftP K R h σ H2 fun z H3 => r x y z H3 Q := by
  obtain ⟨pins, G, ρ, As, s, k⟩ := hw
  refine ⟨pins, G, ρ, As, s, ?_⟩
  refine Kont.bind (T := []) (Q := Q) s.nd (fun a z => nomatch z) k fun q ρ1 G1 H1 As1 v Bs e1 nd1 r1 s1 k1 => ?_
  split at k1
  · rename_i a0 ha0
    split at k1
    · rename_i hca
      obtain ⟨Cs0, rc0⟩ := RepP.get r1 s1 ha0
      refine ⟨hc _ _ _ _ _ rc0 hca, pins, G1, ρ1, As1, s1, ?_⟩
      have nd1' : (Bs ++ As1).Nodup := by simpa using nd1
      refine Kont.bind (T := Bs) (Q := Q) nd1' (RepP.there r1) (by simpa using k1) fun q2 ρ2 G2 H2 As2 v2 Bs2 e2 nd2 r2 s2 k2 => ⟨pins, G2, ρ2, As2, s2, ?_⟩
      have nd2' : ((Bs ++ Bs2) ++ As2).Nodup := by simpa using nd2
      have r1' := RepP.ext r1 e2 (nd_disj nd1')
      refine Kont.bind (T := Bs ++ Bs2) (Q := Q) nd2' (fun a m => by
        rcases List.mem_append.mp m with z | z
        · exact RepP.there r1' a z
        · exact RepP.there r2 a z) (by simpa using k2) fun q3 ρ3 G3 H3 As3 v3 Bs3 e3 nd3 r3 s3 k3 => ?_
      have d2 := nd_disj nd2'
      have r1'' := RepP.ext r1' e3 (fun a m => d2 a (List.mem_append_left _ m))
      have r2' := RepP.ext r2 e3 (fun a m => d2 a (List.mem_append_right _ m))
      have k3 : KontE K R pins σ G3 H3 ((Bs ++ Bs2) ++ (Bs3 ++ As3)) Q (fin3 F (q.get ρ3) (q2.get ρ3) (q3.get ρ3) ρ3) := k3
      unfold fin3 at k3
      split at k3
      · rename_i a b c ha hb hc'
        split at k3
        · rename_i o ho
          obtain ⟨Cs, rc⟩ := RepP.get r1'' s3 ha
          obtain ⟨Ds, rd⟩ := RepP.get r2' s3 hb
          obtain ⟨Es, re⟩ := RepP.get r3 s3 hc'
          exact p G3 H3 v v2 v3 a b c o Cs Ds Es Q s3.sub rc rd re ho fun G4 H4 w Fs g rf => KontE.grow s3 (T := (Bs ++ Bs2) ++ Bs3) (by simpa using k3) g rf
        · exact k3.elim
      · exact k3.elim
    · exact k1.elim
  · exact k1.elim
theorem prim_repF {y : Str} : Prim3 K (fun x a b H Q => ∃ i j : Str, a = .str i ∧ b = .str j ∧ 1 ≤ i.length ∧ 1 ≤ j.length ∧ i.length + j.length ≤ 1000 ∧ ∃ i' j' : Str, x = .str i' ∧ V.str (i ++ j) = .str j' ∧ (j' == y) = false ∧ i'.length ≤ 1000 ∧ y.length ≤ 1000 ∧ Q (.str (Txt.replace i' j' y)) H) (repFO y) := by
  intro G H x y1 z a b c o B C D Q s ra rb rc h0 k
  obtain ⟨i, h1, h4⟩ := Option.bind_eq_some_iff.mp h0
  obtain ⟨j, h2, h5⟩ := Option.bind_eq_some_iff.mp h4
  obtain ⟨l, h3, h6⟩ := Option.bind_eq_some_iff.mp h5
  cases strO_of h1
  cases strO_of h2
  cases strO_of h3
  split at h6
  · rename_i hz
    cases Option.some.inj h6
    exact ⟨j, l, dat_str rb, dat_str rc, hz.1, hz.2.1, hz.2.2.1, i, j ++ l, dat_str ra, rfl, hz.2.2.2.2.2, hz.2.2.2.1, hz.2.2.2.2.1, Grow.dat s (.str _) k⟩
  · cases h6
theorem tmp_le {f : EF} (hw : liftP K R (tmpF f) σ H Q) : liftE K R f σ H Q := by
  obtain ⟨pins, G, ρ, As, s, k⟩ := hw
  refine ⟨pins, G, ρ, As, s, ?_⟩
  refine Kont.bind (T := []) (Q := Q) s.nd (fun a z => nomatch z) k fun o ρ1 G1 H1 As1 v Bs e1 nd1 r1 s1 k1 => ?_
  exact Kont.now k1 s1 (Bs := Bs) (fun a z => by simpa using z) (by simpa using nd1) (.tmp r1)
end
section
variable {X : Cx} {R : RK} {e e1 o a b : Expr} {f g h : PF} {pos p p2 pos2 apos : Pos}
theorem pf_lower (ho : PE X o (liftP X.K R f)) (hbase : attributeBase o "lower" X.env (eval o X.env) = eval o X.env := by rfl) (hline : (apos.endLine == pos.line) = true := by rfl) :
    PE X (.Call (.Attribute o "lower" apos) [] [] pos) (liftE X.K R (op1 lowerO f)) := op1_ok (pe_lower ho hbase hline) prim_lower
theorem pf_upper (ho : PE X o (liftP X.K R f)) (hbase : attributeBase o "upper" X.env (eval o X.env) = eval o X.env := by rfl) (hline : (apos.endLine == pos.line) = true := by rfl) :
    PE X (.Call (.Attribute o "upper" apos) [] [] pos) (liftE X.K R (op1 upperO f)) := op1_ok (pe_upper ho hbase hline) prim_upper
theorem pf_isup (ho : PE X o (liftP X.K R f)) (hbase : attributeBase o "isupper" X.env (eval o X.env) = eval o X.env := by rfl) (hline : (apos.endLine == pos.line) = true := by rfl) :
    PE X (.Call (.Attribute o "isupper" apos) [] [] pos) (liftE X.K R (op1 isupO f)) := op1_ok (pe_m0 PySem.F.slot_str_isupper PySem.F.type_str_isupper mt_isupper ho hbase hline) prim_isup
theorem pf_scnt (ho : PE X o (liftP X.K R f)) (he : PE X e (liftP X.K R g)) (hs : starEach [e] X.env = [(false, eval e X.env)] := by rfl) (hbase : attributeBase o "count" X.env (eval o X.env) = eval o X.env := by rfl) (hline : (apos.endLine == pos.line) = true := by rfl) :
    PE X (.Call (.Attribute o "count" apos) [e] [] pos) (liftE X.K R (op2c isStr scntO f g)) := m_str1 (pe_m1 PySem.F.slot_str_count PySem.F.type_str_count mt_count ho he hs hbase hline) prim_scnt
theorem pf_revS {k : Nat} {q1 q2 q3 : Pos} (he : PE X e (liftP X.K R f)) : PE X (.Subscript e (.Slice none none (some (.UnaryOp .USub (.Constant (.int 1) k q1) q2)) q3) pos) (liftE X.K R (op1 revSO f)) :=
  op1_ok (pe_revS he) prim_revS
theorem b_sortedTxt (hc : X.calm = true) (hg : Gl X "sorted") (hm : X.mg "sorted" = none) (hg2 : Gl X "set") (hm2 : X.mg "set" = none) (h : PE X e (liftP X.K R f)) (hs : starEach [e] X.env = (false, eval e X.env) :: starEach [] X.env := by rfl) (hpl : (backTo pos2 (starEach [] X.env)).any (·.1) = false := by rfl)
    (hs2 : starEach [.Call (.Name "set" p2) [e] [] pos2] X.env = (false, eval (.Call (.Name "set" p2) [e] [] pos2) X.env) :: starEach [] X.env := by rfl) (hpl2 : (backTo pos (starEach [] X.env)).any (·.1) = false := by rfl) :
    PE X (.Call (.Name "sorted" p) [.Call (.Name "set" p2) [e] [] pos2] [] pos) (liftE X.K R (op1 sortedTxtO f)) :=
  op1_ok (pe_callB (cr_sortS hc) hg hm (by decide +kernel) (pa_one (pe_callTy (cr_setT hc) hg2 hm2 (by decide +kernel) (pa_one h hs) (by decide) (by decide) hs hpl) hs2) (by decide) (by decide) hs2 hpl2) prim_sortedTxt
/-- e.upper() as the later part of what is replaced -/
theorem pr_upper (ho : PE X o (liftP X.K R f)) (hbase : attributeBase o "upper" X.env (eval o X.env) = eval o X.env := by rfl) (hline : (apos.endLine == pos.line) = true := by rfl) :
    PE1 X (.Call (.Attribute o "upper" apos) [] [] pos) (liftP X.K R (tmpF (op1 upperO f))) := by
  intro pins s σ H Q I hw
  refine pe1_upper ho hbase hline pins s σ H Q I ?_
  exact op1_le prim_upper σ H Q (tmp_le hw)
theorem pf_repl {z : Str} {k : Nat} {c1 pp : Pos} (ho : PE X o (liftP X.K R f)) (ha : PE X a (liftP X.K R g)) (hb : PE1 X b (liftP X.K R h))
    (hst : starEach [.BinOp a .Add b pp, .Constant (.str z) k c1] X.env = [(false, eval (.BinOp a .Add b pp) X.env), (false, eval (.Constant (.str z) k c1) X.env)] := by rfl)
    (hbase : attributeBase o "replace" X.env (eval o X.env) = eval o X.env := by rfl) (hline : (apos.endLine == pos.line) = true := by rfl) :
    PE X (.Call (.Attribute o "replace" apos) [.BinOp a .Add b pp, .Constant (.str z) k c1] [] pos) (liftE X.K R (op3c isStr (repFO z) f g h)) :=
  PE.weak (pe_repF ho (pef_r ha hb) hst hbase hline) fun σ H Q hw => op3c_le (C := fun v => ∃ i, v = V.str i) (fun G H v a B r q => isStr_of r q) prim_repF σ H Q hw
theorem pf_repl2 {z : Str} {k : Nat} {c1 pp : Pos} (ho : PE X o (liftP X.K R f)) (ha : PE1 X a (liftP X.K R g)) (hb : PE X b (liftP X.K R h))
    (hst : starEach [.BinOp a .Add b pp, .Constant (.str z) k c1] X.env = [(false, eval (.BinOp a .Add b pp) X.env), (false, eval (.Constant (.str z) k c1) X.env)] := by rfl)
    (hbase : attributeBase o "replace" X.env (eval o X.env) = eval o X.env := by rfl) (hline : (apos.endLine == pos.line) = true := by rfl) :
    PE X (.Call (.Attribute o "replace" apos) [.BinOp a .Add b pp, .Constant (.str z) k c1] [] pos) (liftE X.K R (op3c isStr (repFO z) f g h)) :=
  PE.weak (pe_repF ho (pef_l ha hb) hst hbase hline) fun σ H Q hw => op3c_le (C := fun v => ∃ i, v = V.str i) (fun G H v a B r q => isStr_of r q) prim_repF σ H Q hw
end
end Vs

/-! texts as rewriting; a comprehension with two fors, as rewriting; sorted(a dict with texts for keys) -/
namespace Vs
open PySem PySem.Spec PyProof.Rows L2 Ww
@[simp] theorem x_lower (z : Str) : lowerO (.dat (.str z)) = if z.length ≤ 1000 then some (.dat (.str (Txt.lower z))) else none := (rfl)
@[simp] theorem x_upper (z : Str) : upperO (.dat (.str z)) = if z.length ≤ 1000 then some (.dat (.str (Txt.upper z))) else none := (rfl)
@[simp] theorem x_isup (z : Str) : isupO (.dat (.str z)) = some (.dat (.bool (Txt.isupper z))) := (rfl)
@[simp] theorem x_scnt (z y : Str) : scntO (.dat (.str z)) (.dat (.str y)) = some (.dat (.int (Txt.count z y))) := (rfl)
@[simp] theorem x_revS (z : Str) : revSO (.dat (.str z)) = if z.length ≤ 1000 then some (.dat (.str ⟨z.cps.toList.reverse.toArray⟩)) else none := (rfl)
@[simp] theorem x_sortedTxt (z : Str) : sortedTxtO (.dat (.str z)) = if z.length ≤ 1000 ∧ (dedup [] (letters1 z)).length < 64 then some (.ls ((sortU (letters1 z)).map .str)) else none := (rfl)
@[simp] theorem x_repF (z a b c : Str) : repFO z (.dat (.str a)) (.dat (.str b)) (.dat (.str c)) = if 1 ≤ b.length ∧ 1 ≤ c.length ∧ b.length + c.length ≤ 1000 ∧ a.length ≤ 1000 ∧ z.length ≤ 1000 ∧ ((b ++ c) == z) = false then some (.dat (.str (Txt.replace a (b ++ c) z))) else none := (rfl)
@[simp] theorem x_op3c (c : O → Bool) (F : O → O → O → Option O) (f g h : PF) (ρ : En) : op3c c F f g h ρ = (f ρ).bind fun p ρ1 => (p.get ρ1).elim .stuck fun a => if c a = true then (g ρ1).bind fun q ρ2 => (h ρ2).bind fun u ρ3 => fin3 F (p.get ρ3) (q.get ρ3) (u.get ρ3) ρ3 else .stuck := by
  unfold op3c
  congr 1
  funext p ρ1
  cases p.get ρ1 <;> rfl
@[simp] theorem x_lc2F (it : IF) (t : Tg) (c : TF) (it1 : IF) (t1 : Tg) (c1 : TF) (e : EF) (own own1 : List Nat) (ρ : En) : lc2F it t c it1 t1 c1 e own own1 ρ = (it ρ).bind fun ds ρ1 => lc2Fin own ρ1 [] (lc2L t c it1 t1 c1 e own own1 ds (wipeR ρ1 own)) := (rfl)
theorem lc2Fin_ok (own : List Nat) (ρ1 : En) (xs : List PyData) (ρ2 : En) (h : small xs.length = true) : lc2Fin own ρ1 [] (.ok xs ρ2) = .ok (.ls xs) (restF ρ1 own ρ2) := by
  show (if ([] ++ xs).length ≤ sizeLine then (Rs.ok (O.ls ([] ++ xs)) (restF ρ1 own ρ2) : Res) else .stuck) = _
  rw [small_iff] at h
  rw [List.nil_append, if_pos h]
theorem lcI_map {t1 : Tg} {e : EF} {own1 : List Nat} {ρ ρ' : En} {ys : List PyData} {k : En → Rs (List PyData)} (h : PyData → PyData) (hk : k ρ = .ok ys ρ') : ∀ {ds : List PyData}, (∀ d ∈ ds, ∃ ρ1 ρ2 o, t1.f d ρ = some ρ1 ∧ e ρ1 = .ok o ρ2 ∧ o.dv = some (h d) ∧ wipeR ρ2 own1 = ρ) → lcI t1 yesT e own1 k ds ρ = .ok (ds.map h ++ ys) ρ'
  | [], _ => hk
  | d :: ds, hyp => by
    obtain ⟨ρ1, ρ2, o, h1, h2, h3, h4⟩ := hyp d List.mem_cons_self
    have ih := lcI_map (t1 := t1) (e := e) (own1 := own1) (ρ := ρ) (k := k) h hk (ds := ds) fun z hz => hyp z (List.mem_cons_of_mem _ hz)
    show (match t1.f d ρ with
      | none => Rs.stuck
      | some ρ1 => (yesT ρ1).bindX fun b ρ2 => if b = true then (e ρ2).bindX fun o ρ3 => match o.dv with
        | some x => (lcI t1 yesT e own1 k ds (wipeR ρ3 own1)).bindX fun xs ρ4 => .ok (x :: xs) ρ4
        | none => .stuck
        else lcI t1 yesT e own1 k ds (wipeR ρ2 own1)) = _
    rw [h1]
    show (Rs.ok true ρ1).bindX _ = _
    rw [x_bindX_ok, if_pos rfl, h2, x_bindX_ok]
    show (match o.dv with
        | some x => (lcI t1 yesT e own1 k ds (wipeR ρ2 own1)).bindX fun xs ρ4 => .ok (x :: xs) ρ4
        | none => Rs.stuck) = _
    rw [h3]
    show (lcI t1 yesT e own1 k ds (wipeR ρ2 own1)).bindX (fun xs ρ4 => .ok (h d :: xs) ρ4) = _
    rw [h4, ih]
    rfl
theorem lc2L_map {t t1 : Tg} {it1 : IF} {e : EF} {own own1 : List Nat} {ρ : En} {α : Type} (Dt : α → PyData) (g : α → List PyData) (h : α → PyData → PyData) : ∀ {ds : List α},
    (∀ d ∈ ds, ∃ ρ1 ρ2, t.f (Dt d) ρ = some ρ1 ∧ it1 ρ1 = .ok (g d) ρ2 ∧ (∀ x ∈ g d, ∃ ρ4 ρ5 o, t1.f x (wipeR ρ2 own1) = some ρ4 ∧ e ρ4 = .ok o ρ5 ∧ o.dv = some (h d x) ∧ wipeR ρ5 own1 = wipeR ρ2 own1) ∧ wipeR (wipeR ρ2 own1) own = ρ) →
    lc2L t yesT it1 t1 yesT e own own1 (ds.map Dt) ρ = .ok (ds.flatMap fun d => (g d).map (h d)) ρ
  | [], _ => rfl
  | d :: ds, hyp => by
    obtain ⟨ρ1, ρ2, h1, h2, h3, h4⟩ := hyp d List.mem_cons_self
    have ih := lc2L_map (t := t) (t1 := t1) (it1 := it1) (e := e) (own := own) (own1 := own1) (ρ := ρ) Dt g h (ds := ds) fun z hz => hyp z (List.mem_cons_of_mem _ hz)
    show (match t.f (Dt d) ρ with
      | none => Rs.stuck
      | some ρ1 => (yesT ρ1).bindX fun b ρ2 => if b = true then (it1 ρ2).bindX fun ds1 ρ3 => lcI t1 yesT e own1 (fun ρ4 => lc2L t yesT it1 t1 yesT e own own1 (ds.map Dt) (wipeR ρ4 own)) ds1 (wipeR ρ3 own1)
        else lc2L t yesT it1 t1 yesT e own own1 (ds.map Dt) (wipeR ρ2 own)) = _
    rw [h1]
    show (Rs.ok true ρ1).bindX _ = _
    rw [x_bindX_ok, if_pos rfl, h2, x_bindX_ok]
    show lcI t1 yesT e own1 (fun ρ4 => lc2L t yesT it1 t1 yesT e own own1 (ds.map Dt) (wipeR ρ4 own)) (g d) (wipeR ρ2 own1) = _
    rw [List.flatMap_cons]
    exact lcI_map (ρ := wipeR ρ2 own1) (h d) (by show lc2L t yesT it1 t1 yesT e own own1 (ds.map Dt) (wipeR (wipeR ρ2 own1) own) = _; rw [h4]; exact ih) h3
/-- a comprehension over what stands for some things -/
theorem lcL_mapT {t : Tg} {e : EF} {own : List Nat} {ρ : En} {α : Type} (Dt g : α → PyData) : ∀ {ds : List α}, (∀ d ∈ ds, ∃ ρ1 ρ2 o, t.f (Dt d) ρ = some ρ1 ∧ e ρ1 = .ok o ρ2 ∧ o.dv = some (g d) ∧ wipeR ρ2 own = ρ) → lcL t yesT e own (ds.map Dt) ρ = .ok (ds.map g) ρ
  | [], _ => rfl
  | d :: ds, h => by
    obtain ⟨ρ1, ρ2, o, h1, h2, h3, h4⟩ := h d List.mem_cons_self
    have ih := lcL_mapT (t := t) (e := e) (own := own) (ρ := ρ) Dt g (ds := ds) fun z hz => h z (List.mem_cons_of_mem _ hz)
    rw [List.map_cons, x_lcL_cons, h1]
    simp [h2, h3, h4, ih]
theorem lcL_filterT {t : Tg} {c : TF} {e : EF} {own : List Nat} {ρ : En} {α : Type} (Dt : α → PyData) (p : α → Bool) (g : α → PyData) : ∀ {ds : List α}, (∀ d ∈ ds, ∃ ρ1 ρ2, t.f (Dt d) ρ = some ρ1 ∧ c ρ1 = .ok (p d) ρ2 ∧ (p d = false → wipeR ρ2 own = ρ) ∧ (p d = true → ∃ ρ3 o, e ρ2 = .ok o ρ3 ∧ o.dv = some (g d) ∧ wipeR ρ3 own = ρ)) → lcL t c e own (ds.map Dt) ρ = .ok ((ds.filter p).map g) ρ
  | [], _ => rfl
  | d :: ds, h => by
    obtain ⟨ρ1, ρ2, h1, h2, h3, h4⟩ := h d List.mem_cons_self
    have ih := lcL_filterT (t := t) (c := c) (e := e) (own := own) (ρ := ρ) Dt p g (ds := ds) fun z hz => h z (List.mem_cons_of_mem _ hz)
    rw [List.map_cons, x_lcL_cons, h1]
    cases hp : p d with
    | true =>
      obtain ⟨ρ3, o, h5, h6, h7⟩ := h4 hp
      simp [h2, hp, h5, h6, h7, ih]
    | false => simp [h2, hp, h3 hp, ih]
/-! ### sorted(a dict) -/
def keysS : List (L2.Key × PyData) → Option (List Str)
  | [] => some []
  | (.inr k, _) :: r => (keysS r).map fun z => k :: z
  | _ => none
def sKeys (i : Nat) : EF := fun ρ => match (dkOf (getS ρ i)).bind keysS with
  | some ks => if ks.length < 64 ∧ ks.Nodup then .ok (.ls ((sortU ks).map .str)) ρ else .stuck
  | none => .stuck
theorem rising_up {l : List Str} : ∀ {p : Str}, risingS p l = true → (p :: l).Nodup → (p :: l).Pairwise fun a b : Str => a.cps.toList < b.cps.toList := by
  induction l with
  | nil => exact fun _ _ => List.pairwise_singleton _ _
  | cons x r ih =>
    intro p h nd
    have h2 : (!ltCps x.cps.toList p.cps.toList && risingS x r) = true := h
    rw [Bool.and_eq_true] at h2
    obtain ⟨h3, h4⟩ := h2
    obtain ⟨n1, n2⟩ := List.nodup_cons.mp nd
    have r1 := ih h4 n2
    have nlt : ¬ x.cps.toList < p.cps.toList := by
      intro z
      have e : ltCps x.cps.toList p.cps.toList = true := by rw [ltCps_eq]; exact decide_eq_true z
      rw [e] at h3
      cases h3
    have lt : p.cps.toList < x.cps.toList := by
      rcases Decidable.em (p.cps.toList < x.cps.toList) with q | q
      · exact q
      · exact absurd (str_ext (List.le_antisymm (List.not_lt.mp nlt) (List.not_lt.mp q))) (fun z => n1 (by rw [z]; exact List.mem_cons_self))
    refine List.pairwise_cons.mpr ⟨fun z hz => ?_, r1⟩
    rcases List.mem_cons.mp hz with w | w
    · rw [w]; exact lt
    · exact List.lt_trans lt ((List.pairwise_cons.mp r1).1 z w)
theorem sortedS_eq {ks ys : List Str} (nd : ks.Nodup) (hp : ys.Perm ks) (hs : sortedS ys = true) : ys = sortU ks := by
  have up : ys.Pairwise fun a b : Str => a.cps.toList < b.cps.toList := by
    cases ys with
    | nil => exact .nil
    | cons x r => exact rising_up hs (hp.nodup_iff.mpr nd)
  exact Srt.eq ⟨up, fun k => hp.mem_iff⟩ (sortU_srt ks)
section
variable {K : PySem.W.Frag} {R : RK} {pins σ : L2.St} {G H G' H' : Hp} {As Bs Cs T : List Addr} {Q : VK} {ρ : En} {X : Cx}
theorem keysS_rep : ∀ {es : List (L2.Key × V)} {kvs : List (L2.Key × PyData)} {ks : List Str}, DKs K G es kvs → keysS kvs = some ks → es.map (·.1) = ks.map Sum.inr
  | [], [], _, _, h => by cases Option.some.inj h; rfl
  | [], _ :: _, _, h, _ => h.elim
  | _ :: _, [], _, h, _ => h.elim
  | e :: es, (.inl k, v) :: kvs, _, _, h => nomatch h
  | e :: es, (.inr k, v) :: kvs, ks, ⟨⟨h1, _⟩, h3⟩, h => by
    obtain ⟨zs, h4, rfl⟩ := Option.map_eq_some_iff.mp (show (keysS kvs).map (fun z => k :: z) = some ks from h)
    rw [List.map_cons, List.map_cons, keysS_rep h3 h4, h1]
theorem b_sortedD {i : Nat} {o : Expr} {p pos : Pos} (hc : X.calm = true) (hg : Gl X "sorted") (hm : X.mg "sorted" = none) (ho : PE X o (tVar i))
    (hs : starEach [o] X.env = (false, eval o X.env) :: starEach [] X.env := by rfl) (hpl : (backTo pos (starEach [] X.env)).any (·.1) = false := by rfl) :
    PE X (.Call (.Name "sorted" p) [o] [] pos) (liftE X.K R (sKeys i)) := by
  refine PE.weak (pe_callB (call_sortedD hc) hg hm (by decide +kernel) (pa_one ho hs) (by decide) (by decide) hs hpl) fun σ H Q ⟨pins, G, ρ, As, s, k⟩ => ?_
  have k : KontE X.K R pins σ G H As Q (match (dkOf (getS ρ i)).bind keysS with
    | some ks => if ks.length < 64 ∧ ks.Nodup then .ok (.ls ((sortU ks).map .str)) ρ else .stuck
    | none => .stuck) := k
  split at k
  · rename_i ks hx
    split at k
    · rename_i hz
      obtain ⟨kvs, h1, h2⟩ := Option.bind_eq_some_iff.mp hx
      obtain ⟨a, es, w1, w2, w3⟩ := dk_at s (dkOf_eq h1)
      refine ⟨_, w1, a, es, ks, rfl, Rd.of w2, keysS_rep w3 h2, hz.1, fun ys q perm srt nq => ?_⟩
      rw [sortedS_eq hz.2 perm srt]
      exact KontE.grow s (T := []) k (grow_new s.sub nq) (grow_ls s.sub nq (dps_strs _))
    · exact k.elim
  · exact k.elim
@[simp] theorem x_sKeys (i : Nat) (ρ : En) : sKeys i ρ = ((dkOf (getS ρ i)).bind keysS).elim .stuck fun ks => if ks.length < 64 ∧ ks.Nodup then .ok (.ls ((sortU ks).map .str)) ρ else .stuck := by
  unfold sKeys
  cases (dkOf (getS ρ i)).bind keysS <;> rfl
end
end Vs

/-! a list of one's own with lists of one's own in it -/
namespace Vs
open PySem PySem.Spec PyProof.Rows L2 Ww
def llF (g : AF) : EF := fun ρ => (g ρ).bind fun os ρ1 => match elsO os with
  | some es => if es.length ≤ sizeLine then .ok (.ll es) ρ1 else .stuck
  | none => .stuck
def llO : Option Sl → Option (List El)
  | some (.val (.ll es)) => some es
  | _ => none
section
variable {K : PySem.W.Frag} {R : RK} {pins σ : L2.St} {G H G' H' : Hp} {As Bs Cs T : List Addr} {Q : VK} {ρ : En} {X : Cx} {D : Ends}
theorem llO_inv {x : Option Sl} {es : List El} (h : llO x = some es) : x = some (.val (.ll es)) := by
  unfold llO at h
  split at h
  · cases Option.some.inj h; rfl
  · cases h
theorem pf_lstO {es : List Expr} {g : AF} {x1 : Pos} (h : PA X es (liftA X.K R g)) : PE X (.List es x1) (liftE X.K R (llF g)) := by
  refine PE.weak (pe_lst h) fun σ H Q ⟨pins, G, ρ, As, s, k⟩ => ⟨pins, G, ρ, As, s, ?_⟩
  refine Kont.bind (T := []) (Q := Q) s.nd (fun a z => nomatch z) k fun os ρ1 G1 H1 As1 vs Bs e1 nd1 r1 s1 k1 => ?_
  split at k1
  · rename_i ds hd
    split at k1
    · rename_i hz
      have nd1' : (Bs ++ As1).Nodup := by simpa using nd1
      have re := RepOs.els r1 hd
      refine ⟨by rw [re.len]; exact hz, fun p np => ?_⟩
      have k2 : KontE X.K R pins σ G1 H1 (Bs ++ As1) Q (.ok (.ll ds) ρ1) := by simpa using k1
      have kp : ∀ a o, H1 a = some o → (upd H1 p (.lst vs)) a = some o := fun a o z => by rw [upd_ne (ne_of_none z np)]; exact z
      have sb : Sub G1 (upd H1 p (.lst vs)) := fun a o z => kp a o (s1.sub a o z)
      have hB : ∀ a ∈ Bs ++ As1, H1 a ≠ none := fun a z => by
        rcases List.mem_append.mp z with w | w
        · exact (re.there a w).1
        · exact (s1.slots.there a w).1
      have e3 : Ext G1 H1 (Bs ++ As1) G1 (upd H1 p (.lst vs)) ((p :: Bs) ++ As1) := ⟨Sub.refl _, fun a o z _ => kp a o z, fun a z _ _ => z, fun a z => by
        rcases List.mem_cons.mp z with w | w
        · exact .inr (by rw [w]; exact np)
        · exact .inl w⟩
      have e4 : Ext G1 H1 [] G1 (upd H1 p (.lst vs)) [] := ⟨Sub.refl _, fun a o z _ => kp a o z, fun a z _ _ => z, fun a z => nomatch z⟩
      exact k2 G1 _ As1 (.ref p) (p :: Bs) e3 (List.nodup_cons.mpr ⟨fun z => hB p z np, nd1'⟩)
        (.ll (s1.sub.free np) upd_same (re.stay (Sub.refl _) (fun a _ u z => kp a u z) fun a _ z _ => z)) (s1.ext e4 (fun a _ z => nomatch z) sb)
    · exact k1.elim
  · exact k1.elim

/-- the part of a list at a slot -/
def lPart1 (K : PySem.W.Frag) (i c : Nat) : TE := fun σ H Q => ∃ t vs x, σ[i]? = some (some (V.ref t)) ∧ SqL K H t vs ∧ vs[c]? = some x ∧ Q x H
theorem pe_lpart {o e : Expr} {pos : Pos} {i c : Nat} {n : Int} (hn : n = (c : Int)) (hv : PE X o (tVar i)) (he : PE X e (tC (.int n))) (hs : PlainIx e := by intro _ _; rfl) : PE X (.Subscript o e pos) (lPart1 X.K i c) := by
  refine PE.weak (pe_ix ix_list hv he hs) fun σ H Q ⟨t, vs, x, h1, h2, h3, q⟩ => ⟨_, h1, t, vs, n, x, rfl, rfl, h2, ?_, q⟩
  rw [hn]
  exact atI_nat h3
def elL (i c : Nat) (F : O → PyData → Ch) (f : EF) : EF := fun ρ => match llO ρ[i]? with
  | some es => match es[c]? with
    | some (.l xs) => (shE f (ρ.set i .no)).bind fun d ρ1 => match F (.ls xs) d with
      | some (.ls ys, r) => if isNo ρ1[i]? = true then .ok (.dat r) (ρ1.set i (.val (.ll (es.set c (.l ys))))) else .stuck
      | _ => .stuck
    | _ => .stuck
  | _ => .stuck
theorem elL_le {i c : Nat} {r : V → List V → Hp → VK → Prop} {F : O → PyData → Ch} {f : EF} (p : Mut1 K r F) (σ : L2.St) (H : Hp) (Q : VK) (h : liftE K R (elL i c F f) σ H Q) : tBM K "list" r (lPart1 K i c) (tCons (liftE K R f) tNil) σ H Q := by
  obtain ⟨pins, G, ρ, As, s, k⟩ := h
  unfold elL at k
  split at k
  · rename_i es he
    have heo := llO_inv he
    split at k
    · rename_i xs hx
      obtain ⟨v, B, C1, h1, h2, h3, h4, h5⟩ := Slots.out (y := .no) trivial s.slots (getS_val heo)
      have nd1 := h4 s.nd
      cases h2 with
      | @ll t vs _ Bt g1 g2 g3 =>
        obtain ⟨n1, n2⟩ := List.nodup_cons.mp (List.nodup_append.mp nd1).1
        obtain ⟨a, q1, q2, q3, q4⟩ := g3.mut n2 hx
        refine ⟨t, vs, .ref a, h1, SqL.of g2, q1, ?_, ?_⟩
        · cases q3 with
          | ls y1 y2 y3 => exact .inl ⟨rfl, _, SqL.of y2⟩
        · have s1 : Ste K pins G H σ (ρ.set i .no) C1 := ⟨h5, (List.nodup_append.mp nd1).2.1, s.sub, s.pin.set trivial⟩
          refine shS_le σ H _ ⟨pins, G, ρ.set i .no, C1, s1, ?_⟩
          have k' := Kont.re k (Ext.refl.perm (As2 := As) (fun _ => Iff.rfl) (Bs2 := (t :: Bt) ++ C1) fun b hb => (h3 b).2 hb)
          have there : ∀ b ∈ t :: Bt, H b ≠ none := fun b hb => by
            rcases List.mem_cons.mp hb with z | z
            · rw [z, g2]; exact fun z => nomatch z
            · exact (g3.there b z).1
          refine Kont.bind (T := t :: Bt) (Q := Q) nd1 there k' fun d ρ1 G1 H1 As1 w Bs e1 nd2 r1 s2 k2 => ?_
          obtain ⟨rfl, dw⟩ := r1
          split at k2
          · rename_i ys rr hF
            split at k2
            · rename_i hno
              have hno := isNo_eq hno
              have dj := nd_disj nd1
              have gt1 : G1 t = none := e1.frz t g1 (by rw [g2]; exact fun z => nomatch z) (dj t List.mem_cons_self)
              have ht1 : H1 t = some (.lst vs) := e1.keep t _ g2 (dj t List.mem_cons_self)
              have re1 := g3.stay e1.sub (fun b hb u hu => e1.keep b u hu (dj b (List.mem_cons_of_mem _ hb))) fun b hb x y => e1.frz b x y (dj b (List.mem_cons_of_mem _ hb))
              obtain ⟨a', p1, p2, p3, p4⟩ := re1.mut n2 hx
              cases (Option.some.inj (q1.symm.trans p1) : V.ref a = V.ref a')
              refine (p G1 H1 a w (.ls xs) (.ls ys) d rr Q s2.sub hF).2 p3 dw fun u v r' dv => ?_
              have ga : G1 a = none := (p3.there a List.mem_cons_self).2
              have nt : t ≠ a := fun y => n1 (by rw [y]; exact p2)
              have nd2' : ((t :: Bt) ++ As1).Nodup := by simpa using nd2
              have na : a ∉ As1 := nd_disj nd2' a (List.mem_cons_of_mem _ p2)
              have ro : RepO K G1 (upd H1 a u) (.ref t) (.ll (es.set c (.l ys))) (t :: Bt) := .ll gt1 (by rw [upd_ne nt]; exact ht1) (p4 u ys r')
              have eC : Ext G1 H1 [a] G1 (upd H1 a u) [] := ⟨Sub.refl G1, fun b x q n => by rw [upd_ne fun z => n (by rw [z]; exact List.mem_cons_self)]; exact q, fun _ q _ _ => q, fun _ z => nomatch z⟩
              have sl := s2.slots.ext eC fun b hb z => na (by rw [← List.mem_singleton.mp z]; exact hb)
              obtain ⟨Ds, w1, w2, w3⟩ := Slots.into (z := .val (.ll (es.set c (.l ys)))) rfl ro sl hno trivial h1
              have sb : Sub G1 (upd H1 a u) := fun b x q => by rw [upd_ne (ne_of_none q ga)]; exact s2.sub b x q
              have st : Ste K pins G1 (upd H1 a u) σ (ρ1.set i (.val (.ll (es.set c (.l ys))))) Ds := ⟨w1, w3 nd2', sb, s2.pin.set trivial⟩
              have aT : a ∈ (t :: Bt) ++ As1 := List.mem_append_left _ (List.mem_cons_of_mem _ p2)
              have k3 : KontE K R pins σ G1 H1 ((t :: Bt) ++ As1) Q (.ok (.dat rr) (ρ1.set i (.val (.ll (es.set c (.l ys)))))) := by simpa using k2
              exact k3 G1 _ Ds v [] ⟨Sub.refl G1, fun b x q n => by rw [upd_ne fun z => n (by rw [z]; exact aT)]; exact q, fun _ q _ _ => q, fun b hb => .inl ((w2 b).1 hb)⟩ st.nd (.dat dv) st
            · exact k2.elim
          · exact k2.elim
    · exact k.elim
  · exact k.elim
def elLI (i c : Nat) (F : O → PyData → PyData → Ch) (d1 : PyData) (f : EF) : EF := fun ρ => match llO ρ[i]? with
  | some es => match es[c]? with
    | some (.l xs) => (shE f (ρ.set i .no)).bind fun d ρ1 => match F (.ls xs) d1 d with
      | some (.ls ys, r) => if isNo ρ1[i]? = true then .ok (.dat r) (ρ1.set i (.val (.ll (es.set c (.l ys))))) else .stuck
      | _ => .stuck
    | _ => .stuck
  | _ => .stuck
theorem elLI_le {i c : Nat} {r : V → List V → Hp → VK → Prop} {F : O → PyData → PyData → Ch} {v1 : V} {d1 : PyData} {f : EF} (p : Mut2 K r F) (hd : ∀ G, Dp K G v1 d1) (σ : L2.St) (H : Hp) (Q : VK) (h : liftE K R (elLI i c F d1 f) σ H Q) : tBM K "list" r (lPart1 K i c) (tCons (tC v1) (tCons (liftE K R f) tNil)) σ H Q := by
  obtain ⟨pins, G, ρ, As, s, k⟩ := h
  unfold elLI at k
  split at k
  · rename_i es he
    have heo := llO_inv he
    split at k
    · rename_i xs hx
      obtain ⟨v, B, C1, h1, h2, h3, h4, h5⟩ := Slots.out (y := .no) trivial s.slots (getS_val heo)
      have nd1 := h4 s.nd
      cases h2 with
      | @ll t vs _ Bt g1 g2 g3 =>
        obtain ⟨n1, n2⟩ := List.nodup_cons.mp (List.nodup_append.mp nd1).1
        obtain ⟨a, q1, q2, q3, q4⟩ := g3.mut n2 hx
        refine ⟨t, vs, .ref a, h1, SqL.of g2, q1, ?_, ?_⟩
        · cases q3 with
          | ls y1 y2 y3 => exact .inl ⟨rfl, _, SqL.of y2⟩
        · have s1 : Ste K pins G H σ (ρ.set i .no) C1 := ⟨h5, (List.nodup_append.mp nd1).2.1, s.sub, s.pin.set trivial⟩
          refine shS_le σ H _ ⟨pins, G, ρ.set i .no, C1, s1, ?_⟩
          have k' := Kont.re k (Ext.refl.perm (As2 := As) (fun _ => Iff.rfl) (Bs2 := (t :: Bt) ++ C1) fun b hb => (h3 b).2 hb)
          have there : ∀ b ∈ t :: Bt, H b ≠ none := fun b hb => by
            rcases List.mem_cons.mp hb with z | z
            · rw [z, g2]; exact fun z => nomatch z
            · exact (g3.there b z).1
          refine Kont.bind (T := t :: Bt) (Q := Q) nd1 there k' fun d ρ1 G1 H1 As1 w Bs e1 nd2 r1 s2 k2 => ?_
          obtain ⟨rfl, dw⟩ := r1
          split at k2
          · rename_i ys rr hF
            split at k2
            · rename_i hno
              have hno := isNo_eq hno
              have dj := nd_disj nd1
              have gt1 : G1 t = none := e1.frz t g1 (by rw [g2]; exact fun z => nomatch z) (dj t List.mem_cons_self)
              have ht1 : H1 t = some (.lst vs) := e1.keep t _ g2 (dj t List.mem_cons_self)
              have re1 := g3.stay e1.sub (fun b hb u hu => e1.keep b u hu (dj b (List.mem_cons_of_mem _ hb))) fun b hb x y => e1.frz b x y (dj b (List.mem_cons_of_mem _ hb))
              obtain ⟨a', p1, p2, p3, p4⟩ := re1.mut n2 hx
              cases (Option.some.inj (q1.symm.trans p1) : V.ref a = V.ref a')
              refine (p G1 H1 a v1 w (.ls xs) (.ls ys) d1 d rr Q s2.sub hF).2 p3 (hd G1) dw fun u v r' dv => ?_
              have ga : G1 a = none := (p3.there a List.mem_cons_self).2
              have nt : t ≠ a := fun y => n1 (by rw [y]; exact p2)
              have nd2' : ((t :: Bt) ++ As1).Nodup := by simpa using nd2
              have na : a ∉ As1 := nd_disj nd2' a (List.mem_cons_of_mem _ p2)
              have ro : RepO K G1 (upd H1 a u) (.ref t) (.ll (es.set c (.l ys))) (t :: Bt) := .ll gt1 (by rw [upd_ne nt]; exact ht1) (p4 u ys r')
              have eC : Ext G1 H1 [a] G1 (upd H1 a u) [] := ⟨Sub.refl G1, fun b x q n => by rw [upd_ne fun z => n (by rw [z]; exact List.mem_cons_self)]; exact q, fun _ q _ _ => q, fun _ z => nomatch z⟩
              have sl := s2.slots.ext eC fun b hb z => na (by rw [← List.mem_singleton.mp z]; exact hb)
              obtain ⟨Ds, w1, w2, w3⟩ := Slots.into (z := .val (.ll (es.set c (.l ys)))) rfl ro sl hno trivial h1
              have sb : Sub G1 (upd H1 a u) := fun b x q => by rw [upd_ne (ne_of_none q ga)]; exact s2.sub b x q
              have st : Ste K pins G1 (upd H1 a u) σ (ρ1.set i (.val (.ll (es.set c (.l ys))))) Ds := ⟨w1, w3 nd2', sb, s2.pin.set trivial⟩
              have aT : a ∈ (t :: Bt) ++ As1 := List.mem_append_left _ (List.mem_cons_of_mem _ p2)
              have k3 : KontE K R pins σ G1 H1 ((t :: Bt) ++ As1) Q (.ok (.dat rr) (ρ1.set i (.val (.ll (es.set c (.l ys)))))) := by simpa using k2
              exact k3 G1 _ Ds v [] ⟨Sub.refl G1, fun b x q n => by rw [upd_ne fun z => n (by rw [z]; exact aT)]; exact q, fun _ q _ _ => q, fun b hb => .inl ((w2 b).1 hb)⟩ st.nd (.dat dv) st
            · exact k2.elim
          · exact k2.elim
    · exact k.elim
  · exact k.elim
theorem m_elLA {o : Expr} {i c : Nat} {f : EF} (h : PE X o (tBM X.K "list" rAppend (lPart1 X.K i c) (tCons (liftE X.K R f) tNil))) : PE X o (liftE X.K R (elL i c appO f)) := PE.weak h (elL_le mut_append)
theorem m_elLI {o : Expr} {i c : Nat} {v1 : V} {d1 : PyData} {f : EF} (hd : ∀ G, Dp X.K G v1 d1) (h : PE X o (tBM X.K "list" rInsert (lPart1 X.K i c) (tCons (tC v1) (tCons (liftE X.K R f) tNil)))) : PE X o (liftE X.K R (elLI i c insO d1 f)) := PE.weak h (elLI_le mut_insert hd)
end
@[simp] theorem y_el_d (d : PyData) : (El.d d).dv = d := (rfl)
@[simp] theorem y_el_l (d : List PyData) : (El.l d).dv = .list d := (rfl)
@[simp] theorem x_frS_vll (d : List El) : frS (.val (.ll d)) = .val (.dat (.list (d.map El.dv))) := (rfl)
@[simp] theorem x_llO (es : List El) : llO (some (.val (.ll es))) = some es := (rfl)
@[simp] theorem x_llF (g : AF) (ρ : En) : llF g ρ = (g ρ).bind fun os ρ1 => match elsO os with
  | some es => if small es.length = true then .ok (.ll es) ρ1 else .stuck
  | none => .stuck := by simp only [small_iff]; rfl
@[simp] theorem x_elL (i c : Nat) (F : O → PyData → Ch) (f : EF) (ρ : En) : elL i c F f ρ = match llO ρ[i]? with
  | some es => match es[c]? with
    | some (.l xs) => (shE f (ρ.set i .no)).bind fun d ρ1 => match F (.ls xs) d with
      | some (.ls ys, r) => if isNo ρ1[i]? = true then .ok (.dat r) (ρ1.set i (.val (.ll (es.set c (.l ys))))) else .stuck
      | _ => .stuck
    | _ => .stuck
  | _ => .stuck := (rfl)
@[simp] theorem x_elLI (i c : Nat) (F : O → PyData → PyData → Ch) (d1 : PyData) (f : EF) (ρ : En) : elLI i c F d1 f ρ = match llO ρ[i]? with
  | some es => match es[c]? with
    | some (.l xs) => (shE f (ρ.set i .no)).bind fun d ρ1 => match F (.ls xs) d1 d with
      | some (.ls ys, r) => if isNo ρ1[i]? = true then .ok (.dat r) (ρ1.set i (.val (.ll (es.set c (.l ys))))) else .stuck
      | _ => .stuck
    | _ => .stuck
  | _ => .stuck := (rfl)
end Vs

/-! statements under a frozen view: what is one's own is read as data, and is one's own again behind them; what they made is forgotten, but for numbers, truths, texts -/
namespace Vs
open PySem PySem.Spec PyProof.Rows L2 Ww
def scal : PyData → Bool
  | .none => true
  | .bool _ => true
  | .int _ => true
  | .str _ => true
  | _ => false
def borF : Sl → Sl
  | .val o => .bor o
  | x => x
def frzW (W : List Nat) : Nat → En → En
  | _, [] => []
  | i, s :: ρ => (if i ∈ W then frS s else borF (frS s)) :: frzW W (i + 1) ρ
def keepS (s t : Sl) : Sl := match t with
  | .bor _ => s
  | .val (.dat d) => if scal d = true then .val (.dat d) else .no
  | _ => .no
def unB : En → En → En
  | s :: ρ, t :: τ => keepS s t :: unB ρ τ
  | _, _ => []
def frB (W : List Nat) (f : SF) : SF := fun ρ => match f (frzW W 0 ρ) with
  | .nx τ => .nx (unB ρ τ)
  | .bk τ => .bk (unB ρ τ)
  | .ct τ => .ct (unB ρ τ)
  | .rt (.dat d) τ => if scal d = true then .rt (.dat d) (unB ρ τ) else .stuck
  | _ => .stuck
section
variable {K : PySem.W.Frag} {R : RK} {pins σ : L2.St} {G H G' H' : Hp} {As Bs Cs T : List Addr} {Q : VK} {ρ : En} {X : Cx} {D : Ends}
theorem scal_dp {v : V} {d : PyData} (h : scal d = true) (r : Dp K G v d) (G2 : Hp) : Dp K G2 v d := by
  cases r with
  | non => exact .non
  | bl b => exact .bl b
  | int i => exact .int i
  | str x => exact .str x
  | lst _ _ => cases h
  | tup _ _ => cases h
theorem Slots.bors (W : List Nat) : ∀ {σ : L2.St} {ρ : En} (i : Nat), Slots K G H σ (frz ρ) [] → Slots K G H σ (frzW W i ρ) []
  | σ, [], i, r => r
  | [], s :: ρ, i, r => by
    have := r.len
    cases this
  | x :: σ, s :: ρ, i, r => by
    have r : Slots K G H (x :: σ) (frS s :: frz ρ) [] := r
    show Slots K G H (x :: σ) ((if i ∈ W then frS s else borF (frS s)) :: frzW W (i + 1) ρ) []
    rcases frS_gap s with z | ⟨d, z⟩
    · rw [z] at r ⊢
      rcases r.inv with ⟨_, r⟩ | ⟨_, _, _, _, _, h, _⟩
      · have ih := Slots.bors W (i + 1) r
        by_cases c : i ∈ W
        · rw [if_pos c]; exact .no ih
        · rw [if_neg c]; exact .no ih
      · cases h
    · rw [z] at r ⊢
      rcases r.inv with ⟨h, _⟩ | ⟨v, o, B, C, rfl, h, e, q, r⟩
      · exact h.elim
      · cases (Option.some.inj h : _ = o)
        obtain ⟨rfl, rfl⟩ := List.append_eq_nil_iff.mp e.symm
        have ih := Slots.bors W (i + 1) r
        by_cases c : i ∈ W
        · rw [if_pos c]; exact .val (B := []) (As := []) q ih
        · rw [if_neg c]; exact .bor (B := []) (As := []) q ih
theorem Slots.unB : ∀ {σ τ : L2.St} {ρ ρ2 : En} {As Bs : List Addr}, Slots K G H σ ρ As → As.Nodup → Slots K G' H' τ ρ2 Bs → σ.length = τ.length → (∀ a o, H a = some o → H' a = some o) → (∀ (i : Nat) o, ρ2[i]? = some (.bor o) → τ[i]? = σ[i]?) →
    ∃ Cs, Slots K G H' τ (Vs.unB ρ ρ2) Cs ∧ (∀ a ∈ Cs, a ∈ As) ∧ Cs.Nodup
  | [], [], ρ, ρ2, As, Bs, r, nd, r2, _, _, _ => by
    cases r
    cases r2
    exact ⟨[], .nil, (fun a z => z), .nil⟩
  | x :: σ, [], _, _, _, _, _, _, _, l, _, _ => by cases l
  | [], x :: τ, _, _, _, _, _, _, _, l, _, _ => by cases l
  | x :: σ, y :: τ, [], _, _, _, r, _, _, _, _, _ => by
    have := r.len
    cases this
  | x :: σ, y :: τ, s :: ρ, [], _, _, _, _, r, _, _, _ => by
    have := r.len
    cases this
  | x :: σ, y :: τ, s :: ρ, t :: ρ2, As, Bs, r, nd, r2, l, kp, h => by
    show ∃ Cs, Slots K G H' (y :: τ) (keepS s t :: Vs.unB ρ ρ2) Cs ∧ _
    have h' : ∀ (i : Nat) o, ρ2[i]? = some (.bor o) → τ[i]? = σ[i]? := fun i o z => by simpa using h (i + 1) o (by simpa using z)
    have l' : σ.length = τ.length := by simpa using l
    -- the rest of both
    have rest : ∃ As2, Slots K G H σ ρ As2 ∧ (∀ a ∈ As2, a ∈ As) ∧ As2.Nodup := by
      rcases r.inv with ⟨_, q⟩ | ⟨v, o, B, C, _, _, rfl, _, q⟩
      · exact ⟨As, q, (fun a z => z), nd⟩
      · exact ⟨C, q, (fun a z => List.mem_append_right _ z), (List.nodup_append.mp nd).2.1⟩
    have rest2 : ∃ Bs2, Slots K G' H' τ ρ2 Bs2 := by
      rcases r2.inv with ⟨_, q⟩ | ⟨v, o, B, C, _, _, rfl, _, q⟩
      · exact ⟨_, q⟩
      · exact ⟨C, q⟩
    have gap : ∃ Cs, Slots K G H' (y :: τ) (.no :: Vs.unB ρ ρ2) Cs ∧ (∀ a ∈ Cs, a ∈ As) ∧ Cs.Nodup := by
      obtain ⟨As2, q, la, na⟩ := rest
      obtain ⟨Bs2, q2⟩ := rest2
      obtain ⟨Cs, w1, w2, w3⟩ := Slots.unB q na q2 l' kp h'
      exact ⟨Cs, .no w1, (fun a z => la a (w2 a z)), w3⟩
    cases t with
    | no => exact gap
    | lent => exact gap
    | bor o2 =>
      have e : y = x := by
        have z := h 0 o2 rfl
        have z : some y = some x := z
        exact Option.some.inj z
      subst e
      show ∃ Cs, Slots K G H' (y :: τ) (s :: Vs.unB ρ ρ2) Cs ∧ _
      rcases r.inv with ⟨hg, q⟩ | ⟨v, o, B, C, rfl, hg, rfl, ro, q⟩
      · obtain ⟨Bs2, q2⟩ := rest2
        obtain ⟨Cs, w1, w2, w3⟩ := Slots.unB q nd q2 l' kp h'
        refine ⟨Cs, ?_, w2, w3⟩
        cases s with
        | no => exact .no w1
        | lent => exact .lent w1
        | val o => exact hg.elim
        | bor o => exact hg.elim
      · obtain ⟨Bs2, q2⟩ := rest2
        obtain ⟨n1, n2, n3⟩ := List.nodup_append.mp nd
        obtain ⟨Cs, w1, w2, w3⟩ := Slots.unB q n2 q2 l' kp h'
        have ro' : RepO K G H' v o B := ro.stay (Sub.refl G) (fun a _ u z => kp a u z) (fun a _ z _ => z)
        refine ⟨B ++ Cs, ?_, (fun a z => ?_), List.nodup_append.mpr ⟨n1, w3, fun a ha b hb z => n3 a ha b (w2 b hb) z⟩⟩
        · cases s with
          | no => cases hg
          | lent => cases hg
          | val o3 =>
            cases (Option.some.inj hg : o3 = o)
            exact .val ro' w1
          | bor o3 =>
            cases (Option.some.inj hg : o3 = o)
            exact .bor ro' w1
        · rcases List.mem_append.mp z with w | w
          · exact List.mem_append_left _ w
          · exact List.mem_append_right _ (w2 a w)
    | val o2 =>
      cases o2 with
      | dat d =>
        show ∃ Cs, Slots K G H' (y :: τ) ((if scal d = true then .val (.dat d) else .no) :: Vs.unB ρ ρ2) Cs ∧ _
        by_cases c : scal d = true
        · rw [if_pos c]
          rcases r2.inv with ⟨hg, _⟩ | ⟨v, o, B, C, rfl, hg, _, ro, _⟩
          · exact hg.elim
          · cases (Option.some.inj hg : _ = o)
            obtain ⟨As2, q, la, na⟩ := rest
            obtain ⟨Bs2, q2⟩ := rest2
            obtain ⟨Cs, w1, w2, w3⟩ := Slots.unB q na q2 l' kp h'
            exact ⟨Cs, .val (B := []) (.dat (scal_dp c ro.dp0 G)) w1, (fun a z => la a (w2 a z)), w3⟩
        · rw [if_neg c]
          exact gap
      | ls _ => exact gap
      | dk _ => exact gap
      | tp _ => exact gap
      | lt _ => exact gap
      | ll _ => exact gap
/-- the state behind such statements -/
theorem Ste.unB {pins σ : L2.St} {ρ : En} {As : List Addr} (s : Ste K pins G H σ ρ As) {G1 : Hp} {τ : L2.St} {ρ2 : En} {Bs : List Addr} (e : Ext G1 H [] G' H' Bs) (s2 : Ste K σ G' H' τ ρ2 Bs) : ∃ Cs, Ste K pins G H' τ (Vs.unB ρ ρ2) Cs ∧ Ext G H As G H' Cs := by
  have kp : ∀ a o, H a = some o → H' a = some o := fun a o z => e.keep a o z fun y => nomatch y
  have hl : σ.length = τ.length := s2.pin.1.symm
  obtain ⟨Cs, w1, w2, w3⟩ := Slots.unB s.slots s.nd s2.slots hl kp fun i o z => s2.pin.2 i (.inr ⟨o, z⟩)
  have sb : Sub G H' := fun a o z => kp a o (s.sub a o z)
  refine ⟨Cs, ⟨w1, w3, sb, s2.pin.1.trans s.pin.1, fun i hi => ?_⟩, ⟨Sub.refl G, fun a o z _ => kp a o z, fun a z _ _ => z, fun a z => .inl (w2 a z)⟩⟩
  have go : ∀ (ρ ρ2 : En) (i : Nat) (x : Sl), (Vs.unB ρ ρ2)[i]? = some x → ∃ s t, ρ[i]? = some s ∧ ρ2[i]? = some t ∧ x = keepS s t := by
    intro ρ
    induction ρ with
    | nil => intro ρ2 i x h; simp [Vs.unB] at h
    | cons s ρ ih =>
      intro ρ2 i x h
      cases ρ2 with
      | nil => simp [Vs.unB] at h
      | cons t ρ2 =>
        cases i with
        | zero => exact ⟨s, t, rfl, rfl, (Option.some.inj h).symm⟩
        | succ i => simpa using ih ρ2 i x (by simpa [Vs.unB] using h)
  have main : ∀ x, (Vs.unB ρ ρ2)[i]? = some x → (x = .lent ∨ ∃ o, x = .bor o) → τ[i]? = pins[i]? := by
    intro x hx hk
    obtain ⟨s', t, h1, h2, rfl⟩ := go ρ ρ2 i x hx
    cases t with
    | bor o2 =>
      have e1 := s2.pin.2 i (.inr ⟨o2, h2⟩)
      rw [e1]
      refine s.pin.2 i ?_
      have hk : s' = .lent ∨ ∃ o, s' = .bor o := hk
      rcases hk with rfl | ⟨o, rfl⟩
      · exact .inl h1
      · exact .inr ⟨o, h1⟩
    | no => rcases hk with z | ⟨_, z⟩ <;> cases z
    | lent => rcases hk with z | ⟨_, z⟩ <;> cases z
    | val o2 =>
      exfalso
      cases o2 with
      | dat d =>
        have hk : (if scal d = true then Sl.val (.dat d) else .no) = .lent ∨ ∃ o, (if scal d = true then Sl.val (.dat d) else .no) = .bor o := hk
        split at hk <;> rcases hk with z | ⟨_, z⟩ <;> cases z
      | _ => rcases hk with z | ⟨_, z⟩ <;> cases z
  rcases hi with z | ⟨o, z⟩
  · exact main _ z (.inl rfl)
  · exact main _ z (.inr ⟨o, rfl⟩)
theorem frB_le {W : List Nat} {f : SF} (D : Ends) (σ : L2.St) (H : Hp) (hw : liftS K R (frB W f) D σ H) : liftS K R f D σ H := by
  obtain ⟨pins, G, ρ, As, s, k⟩ := hw
  obtain ⟨G1, e1, s1, sl⟩ := s.slots.freeze s.nd s.sub
  refine ⟨σ, G1, frzW W 0 ρ, [], ⟨Slots.bors W 0 sl, .nil, s1, rfl, fun i _ => rfl⟩, ?_⟩
  unfold frB at k
  cases hf : f (frzW W 0 ρ) with
  | nx τ =>
    rw [hf] at k
    intro σ' G' H' As' e s2
    obtain ⟨Cs, w1, w2⟩ := s.unB e s2
    exact k σ' G H' Cs w2 w1
  | bk τ =>
    rw [hf] at k
    intro σ' G' H' As' e s2
    obtain ⟨Cs, w1, w2⟩ := s.unB e s2
    exact k σ' G H' Cs w2 w1
  | ct τ =>
    rw [hf] at k
    intro σ' G' H' As' e s2
    obtain ⟨Cs, w1, w2⟩ := s.unB e s2
    exact k σ' G H' Cs w2 w1
  | er c o τ => rw [hf] at k; exact k.elim
  | stuck => rw [hf] at k; exact k.elim
  | rt o τ =>
    rw [hf] at k
    cases o with
    | dat d =>
      have k : KontS K R pins G H As D (if scal d = true then .rt (.dat d) (Vs.unB ρ τ) else .stuck) := k
      split at k
      · rename_i c
        intro σ' G' H' As' v Bs e nd r s2
        have e' : Ext G1 H [] G' H' As' := e.less fun a z => List.mem_append_right _ z
        obtain ⟨Cs, w1, w2⟩ := s.unB e' s2
        exact k σ' G H' Cs v [] w2 w1.nd (.dat (scal_dp c r.dp0 G)) w1
      · exact k.elim
    | ls _ => exact k.elim
    | dk _ => exact k.elim
    | tp _ => exact k.elim
    | lt _ => exact k.elim
    | ll _ => exact k.elim
variable {st : Stmt} {l sts : List Stmt} {f g : SF} {t u : TS}
theorem ss_frB (W : List Nat) (h : PSs X sts (liftS X.K R f)) : PSs X sts (liftS X.K R (frB W f)) := PSs.weak h frB_le
/-- statements in two parts -/
theorem execs_parts (env : Env) : ∀ (n : Nat) (l : List Stmt), execs l env = (execs (l.take n) env >>= fun f => match f with
    | .next => execs (l.drop n) env
    | f => pure f)
  | 0, l => by
    rw [List.take_zero, List.drop_zero, execs_nil, pure_bind]
  | n + 1, [] => by
    rw [List.take_nil, List.drop_nil, execs_nil, pure_bind]
  | n + 1, a :: l => by
    rw [List.take_succ_cons, List.drop_succ_cons, execs_cons, execs_cons, bind_assoc]
    congr 1
    funext f
    cases f with
    | next => exact execs_parts env n l
    | ret v => show pure _ = pure _ >>= _; rw [pure_bind]
    | brk => show pure _ = pure _ >>= _; rw [pure_bind]
    | cont => show pure _ = pure _ >>= _; rw [pure_bind]
theorem pss_take (n : Nat) (h1 : PSs X (l.take n) t) (h2 : PSs X (l.drop n) u) : PSs X l (tSeq t u) := by
  refine ⟨fun pins s σ H D I h => ?_⟩
  rw [execs_parts X.env n l]
  refine wpAny_bind (thn (h1.run pins s σ H { D with nx := u D } I h) fun f s1 q => ?_)
  cases f with
  | next =>
    obtain ⟨σ', H', I', q⟩ := q
    exact h2.run pins s1 σ' H' D I' q
  | ret v => exact wpAny_pure q
  | brk => exact wpAny_pure q
  | cont => exact wpAny_pure q
theorem ss_take (n : Nat) (h1 : PSs X (l.take n) (liftS X.K R f)) (h2 : PSs X (l.drop n) (liftS X.K R g)) : PSs X l (liftS X.K R (seqS f g)) :=
  PSs.weak (pss_take n h1 h2) fun D σ H ⟨pins, G, ρ, As, s, k⟩ => ⟨pins, G, ρ, As, s, KontS.seq k⟩
end
@[simp] theorem x_frB (W : List Nat) (f : SF) (ρ : En) : frB W f ρ = match f (frzW W 0 ρ) with
  | .nx τ => .nx (unB ρ τ)
  | .bk τ => .bk (unB ρ τ)
  | .ct τ => .ct (unB ρ τ)
  | .rt (.dat d) τ => if scal d = true then .rt (.dat d) (unB ρ τ) else .stuck
  | _ => .stuck := (rfl)
@[simp] theorem x_frzW0 (W : List Nat) (i : Nat) : frzW W i [] = [] := (rfl)
@[simp] theorem x_frzW1 (W : List Nat) (i : Nat) (s : Sl) (ρ : En) : frzW W i (s :: ρ) = (if i ∈ W then frS s else borF (frS s)) :: frzW W (i + 1) ρ := (rfl)
@[simp] theorem x_borF1 (o : O) : borF (.val o) = .bor o := (rfl)
@[simp] theorem x_borF2 : borF .no = .no := (rfl)
@[simp] theorem x_unB0 : unB [] [] = [] := (rfl)
@[simp] theorem x_unB1 (s t : Sl) (ρ τ : En) : unB (s :: ρ) (t :: τ) = keepS s t :: unB ρ τ := (rfl)
@[simp] theorem x_keep1 (s : Sl) (o : O) : keepS s (.bor o) = s := (rfl)
@[simp] theorem x_keep2 (s : Sl) : keepS s .no = .no := (rfl)
@[simp] theorem x_keep3 (s : Sl) (d : PyData) : keepS s (.val (.dat d)) = if scal d = true then .val (.dat d) else .no := (rfl)
@[simp] theorem x_keep4 (s : Sl) (ds : List PyData) : keepS s (.val (.ls ds)) = .no := (rfl)
@[simp] theorem x_keep5 (s : Sl) (ds : List El) : keepS s (.val (.ll ds)) = .no := (rfl)
@[simp] theorem x_keep6 (s : Sl) (ds : List El) : keepS s (.val (.tp ds)) = .no := (rfl)
@[simp] theorem x_keep7 (s : Sl) (ds : List (List El)) : keepS s (.val (.lt ds)) = .no := (rfl)
@[simp] theorem x_keep8 (s : Sl) (ds : List (L2.Key × PyData)) : keepS s (.val (.dk ds)) = .no := (rfl)
@[simp] theorem x_scal1 : scal .none = true := (rfl)
@[simp] theorem x_scal2 (b : Bool) : scal (.bool b) = true := (rfl)
@[simp] theorem x_scal3 (b : Int) : scal (.int b) = true := (rfl)
@[simp] theorem x_scal4 (b : Str) : scal (.str b) = true := (rfl)
@[simp] theorem x_scal5 (b : List PyData) : scal (.list b) = false := (rfl)
@[simp] theorem x_scal6 (b : List PyData) : scal (.tuple b) = false := (rfl)
@[simp] theorem x_ins0 (ds : List PyData) (d : PyData) : insO (.ls ds) (.int 0) d = if small (ds.length + 1) = true then some (.ls (d :: ds), .none) else none := by
  show (if ds.length < sizeLine ∧ (0 : Int) ≤ 0 ∧ (0 : Int) < 2 ^ 63 then some (O.ls (ds.take (0 : Int).toNat ++ [d] ++ ds.drop (0 : Int).toNat), PyData.none) else none) = _
  have e : (ds.length < sizeLine ∧ (0 : Int) ≤ 0 ∧ (0 : Int) < 2 ^ 63) = (small (ds.length + 1) = true) := by
    rw [small_iff]
    exact propext ⟨fun z => z.1, fun z => ⟨z, by decide, by decide⟩⟩
  rw [show (ds.take (0 : Int).toNat ++ [d] ++ ds.drop (0 : Int).toNat) = d :: ds from rfl]
  simp only [e]
end Vs

/-! text.index(text) -/
namespace Vs
open PySem PySem.Spec PyProof.Rows L2 Ww
def sidxO (a b : O) : Option O := (strO a).bind fun z => (strO b).bind fun y => ((Builtin.Str.occurrences z y 0 z.length 1).head?).map fun i => .dat (.int ((i : Nat) : Int))
section
variable {K : PySem.W.Frag} {X : Cx} {R : RK} {o e : Expr} {f g : PF} {pos apos : Pos}
theorem prim_sidx : Prim2 K (fun x y H Q => ∃ a b i rest, x = V.str a ∧ [y] = [V.str b] ∧ Builtin.Str.occurrences a b 0 a.length 1 = i :: rest ∧ Q (.int (i : Nat)) H) sidxO := by
  intro G H x y a b o B C Q s ra rb h k
  obtain ⟨z, h1, h2⟩ := Option.bind_eq_some_iff.mp h
  obtain ⟨w, h3, h4⟩ := Option.bind_eq_some_iff.mp h2
  obtain ⟨i, h5, h6⟩ := Option.map_eq_some_iff.mp h4
  cases strO_of h1
  cases strO_of h3
  subst h6
  obtain ⟨rest, h7⟩ : ∃ rest, Builtin.Str.occurrences z w 0 z.length 1 = i :: rest := by
    cases hh : Builtin.Str.occurrences z w 0 z.length 1 with
    | nil => rw [hh] at h5; cases h5
    | cons j r => rw [hh] at h5; cases (Option.some.inj h5 : j = i); exact ⟨r, rfl⟩
  exact ⟨z, w, i, rest, dat_str ra, by rw [dat_str rb], h7, Grow.dat s (.int _) k⟩
theorem pf_sidx (ho : PE X o (liftP X.K R f)) (he : PE X e (liftP X.K R g)) (hs : starEach [e] X.env = [(false, eval e X.env)] := by rfl) (hbase : attributeBase o "index" X.env (eval o X.env) = eval o X.env := by rfl) (hline : (apos.endLine == pos.line) = true := by rfl) :
    PE X (.Call (.Attribute o "index" apos) [e] [] pos) (liftE X.K R (op2c isStr sidxO f g)) := m_str1 (pe_m1 PySem.F.slot_str_index PySem.F.type_str_index mt_sindex ho he hs hbase hline) prim_sidx
end
@[simp] theorem x_sidx (z y : Str) : sidxO (.dat (.str z)) (.dat (.str y)) = ((Builtin.Str.occurrences z y 0 z.length 1).head?).map fun i => .dat (.int ((i : Nat) : Int)) := (rfl)
end Vs

namespace Fn
open PySem PySem.Spec PyProof.Rows L2 Ww Vs
def L1_alike (self : FF) : SF := ifS (notT (truF (tmpF (callF self (consC (aD (varF 2)) (consC (aD (varF 3)) (nilC)))))))
    (retS (cF (.bool false)))
    (nxS)
def B_alike (self : FF) : SF := seqS (ifS (tstF (op1 isNO (slotF 1)))
    (retS (op1 isNO (slotF 0)))
    (nxS))
    (seqS (ifS (truF (tmpF (op1 (isaO ["list", "tuple"]) (slotF 1))))
    (seqS (ifS (orT (notT (truF (tmpF (op1 (isaO ["list", "tuple"]) (slotF 0))))) (tstF (op2 neO (tmpF (op1 (isaO ["list"]) (slotF 0))) (tmpF (op1 (isaO ["list"]) (slotF 1))))))
    (retS (cF (.bool false)))
    (nxS))
    (seqS (ifS (tstF (op2 neO (tmpF (op1 lenO (slotF 0))) (tmpF (op1 lenO (slotF 1)))))
    (retS (cF (.bool false)))
    (nxS))
    (seqS (forS (zipI (varF 0) (varF 1)) (tupT 2 (consTs (nmT 2) (consTs (nmT 3) (nilTs)))) (L1_alike self))
    (retS (cF (.bool true))))))
    (nxS))
    (seqS (ifS (truF (tmpF (op1 (isaO ["str"]) (slotF 1))))
    (retS (andE (op1 (isaO ["str"]) (slotF 0)) (op2 eqO (slotF 0) (slotF 1))))
    (nxS))
    (seqS (ifS (tstF (op2 neO (tmpF (op1 (isaO ["bool"]) (slotF 0))) (tmpF (op1 (isaO ["bool"]) (slotF 1)))))
    (retS (cF (.bool false)))
    (nxS))
    (retS (andE (op1 (isaO ["int"]) (slotF 0)) (op2 eqO (slotF 0) (slotF 1)))))))
def F_alike : Nat → FF
  | 0 => fun _ => .stuck
  | n + 1 => defF 2 4 (B_alike (F_alike n))

def L1_begun : SF := ifS (tstF (op2 geO (tmpF (ixS 0 (varF 3))) (tmpF (op2 powO (tmpF (cF (.int 10))) (tmpF (cF (.int 18)))))))
    (exS (mm1 1 appO (op2 subO (tmpF (ixS 0 (varF 3))) (tmpF (op2 powO (tmpF (cF (.int 10))) (tmpF (cF (.int 18))))))))
    (setS 2 (op2 modO (tmpF (op1 intO (tmpF (op2 addO (tmpF (op2 powO (tmpF (op2 addO (tmpF (op2 addO (slotF 2) (tmpF (op2 modO (tmpF (op1 intO (tmpF (ixS 0 (varF 3))))) (tmpF (cF (.int 10000000000037))))))) (tmpF (op2 mulO (tmpF (cF (.int 911))) (slotF 3))))) (tmpF (cF (.int 3))))) (slotF 3))))) (tmpF (cF (.int 999999999999999989)))))
def B_begun : SF := seqS (par2S 1 2 (consA (lstF (nilA)) (consA (cF (.int 7310581)) (nilA))))
    (seqS (forS (rng1 (tmpF (op1 lenO (slotF 0)))) (nmT 3) L1_begun)
    (retS (lstF (consA (varF 1) (consA (cF (.int 0)) (consA (cF (.int 0)) (consA (varF 2) (consA (cF (.int 0)) (nilA)))))))))
def F_begun : FF := defF 1 4 B_begun

noncomputable def L1_comes_of : SF := seqS (asgS (tupT 2 (consTs (nmT 4) (consTs (nmT 5) (nilTs)))) (mm0 3 popO))
    (ifS (tstF (op2 eqO (tmpF (ixS 4 (cF (.int 0)))) (tmpF (cF (.str "plain")))))
    (seqS (ifS (tstF (op2 neO (tmpF (dGet2 2 (ixS 4 (cF (.int 1))) (varF 5))) (slotF 5)))
    (retS (cF (.bool false)))
    (nxS))
    (stS 2 stA (ixS 4 (cF (.int 1))) (varF 5)))
    (ifS (tstF (op2 neO (tmpF (ixS 4 (cF (.int 0)))) (tmpF (ixS 5 (cF (.int 0))))))
    (retS (cF (.bool false)))
    (setS 3 (op2 addO (slotF 3) (tmpF (lstF (consA (tupF (consA (ixS 4 (cF (.int 1))) (consA (ixS 5 (cF (.int 1))) (nilA)))) (consA (tupF (consA (ixS 4 (cF (.int 2))) (consA (ixS 5 (cF (.int 2))) (nilA)))) (nilA)))))))))
noncomputable def B_comes_of : SF := seqS (par2S 2 3 (consA (newD) (consA (lstF (consA (tupF (consA (varF 0) (consA (varF 1) (nilA)))) (nilA))) (nilA))))
    (seqS (whileS (tstF (op2 neO (slotF 3) (tmpF (lstF (nilA))))) L1_comes_of)
    (retS (cF (.bool true))))
noncomputable def F_comes_of : FF := defF 2 6 B_comes_of

noncomputable def L1_due : SF := seqS (asgS (tupT 2 (consTs (nmT 4) (consTs (nmT 5) (nilTs)))) (mm0 3 popO))
    (ifS (andT (tstF (op2 eqO (tmpF (ixS 4 (cF (.int 0)))) (tmpF (ixS 5 (cF (.int 0)))))) (tstF (op2 neO (tmpF (ixS 4 (cF (.int 0)))) (tmpF (cF (.str "plain"))))))
    (seqS (exS (mm1 2 appO (tupF (consA (ixS 4 (cF (.int 0))) (consA (cF .none) (nilA))))))
    (setS 3 (op2 addO (slotF 3) (tmpF (lstF (consA (tupF (consA (ixS 4 (cF (.int 2))) (consA (ixS 5 (cF (.int 2))) (nilA)))) (consA (tupF (consA (ixS 4 (cF (.int 1))) (consA (ixS 5 (cF (.int 1))) (nilA)))) (nilA))))))))
    (exS (mm1 2 appO (tupF (consA (cF (.str "plain")) (consA (tupF (consA (varF 4) (consA (varF 5) (nilA)))) (nilA)))))))
noncomputable def L2_due : SF := ifS (andT (tstF (op2 eqO (tmpF (ixS 7 (cF (.int 0)))) (tmpF (cF (.str "plain"))))) (tstF (ninS 6 (ixS 7 (cF (.int 1))))))
    (exS (mm1 6 appO (ixS 7 (cF (.int 1)))))
    (nxS)
noncomputable def L3_due : SF := ifS (tstF (op2 eqO (tmpF (ixS 7 (cF (.int 0)))) (tmpF (cF (.str "plain")))))
    (exS (mm1 8 appO (tupF (consA (cF (.str "plain")) (consA (op2 ixO (tmpF (cF (.str "abcdefghijklmnopqrstuvwxyz"))) (tmpF (op2c isLst idxO (slotF 6) (tmpF (ixS 7 (cF (.int 1))))))) (nilA))))))
    (seqS (setS 4 (mm0 8 popO))
    (exS (mm1 8 appO (tupF (consA (ixS 7 (cF (.int 0))) (consA (varF 4) (consA (mm0 8 popO) (nilA))))))))
noncomputable def B_due : SF := seqS (par2S 2 3 (consA (lstF (nilA)) (consA (lstF (consA (tupF (consA (varF 0) (consA (varF 1) (nilA)))) (nilA))) (nilA))))
    (seqS (whileS (tstF (op2 neO (slotF 3) (tmpF (lstF (nilA))))) L1_due)
    (seqS (setS 6 (lstF (nilA)))
    (seqS (forS (itS (varF 2)) (nmT 7) L2_due)
    (seqS (setS 8 (lstF (nilA)))
    (seqS (forS (itS (op1 revLO (slotF 2))) (nmT 7) L3_due)
    (retS (ixS 8 (cF (.int 0)))))))))
noncomputable def F_due : FF := defF 2 9 B_due

def B_pick : SF := seqS (ifS (andT (tstF (op2 eqO (tmpF (ixS 0 (cF (.int 2)))) (tmpF (cF (.int 0))))) (tstF (op2 ltO (tmpF (ixS 0 (cF (.int 1)))) (tmpF (op1 lenO (tmpF (ixS 0 (cF (.int 0)))))))))
    (seqS (stS 0 stA (cF (.int 2)) (op2 ixO (tmpF (ixS 0 (cF (.int 0)))) (tmpF (ixS 0 (cF (.int 1))))))
    (stS 0 stA (cF (.int 1)) (op2 addO (tmpF (ixS 0 (cF (.int 1)))) (tmpF (cF (.int 1))))))
    (nxS))
    (seqS (ifS (tstF (op2 gtO (tmpF (ixS 0 (cF (.int 2)))) (tmpF (cF (.int 0)))))
    (seqS (setS 2 (op2 modO (tmpF (op1 intO (tmpF (ixS 0 (cF (.int 2)))))) (slotF 1)))
    (seqS (stS 0 stA (cF (.int 2)) (op2 fdivO (tmpF (ixS 0 (cF (.int 2)))) (slotF 1)))
    (retS (movF 2))))
    (nxS))
    (seqS (stS 0 stA (cF (.int 4)) (op2 addO (tmpF (ixS 0 (cF (.int 4)))) (tmpF (cF (.int 1)))))
    (seqS (setS 3 (op2 modO (tmpF (op1 intO (tmpF (op2 powO (tmpF (op2 addO (tmpF (ixS 0 (cF (.int 3)))) (tmpF (op2 mulO (tmpF (op2 mulO (tmpF (cF (.int 613))) (tmpF (ixS 0 (cF (.int 4)))))) (tmpF (ixS 0 (cF (.int 4)))))))) (tmpF (cF (.int 3))))))) (tmpF (cF (.int 1000000000000000000000000000057)))))
    (retS (op2 modO (tmpF (op2 fdivO (tmpF (op2 modO (tmpF (op1 intO (tmpF (op2 mulO (slotF 3) (tmpF (op2 addO (slotF 3) (tmpF (cF (.int 29))))))))) (tmpF (cF (.int 340282366920938463463374607431768211507))))) (tmpF (cF (.int 8191))))) (slotF 1))))))
def F_pick : FF := defF 2 4 B_pick

def B_grown (self : FF) : SF := seqS (ifS (orT (tstF (op2 ltO (slotF 1) (tmpF (cF (.int 2))))) (tstF (op2 ltO (slotF 2) (tmpF (cF (.int 2))))))
    (retS (tupF (consA (cF (.str "plain")) (consA (ixS 4 (callF F_pick (lendC 0 (consC (aD (op1 lenO (slotF 4))) (nilC))))) (nilA)))))
    (nxS))
    (seqS (par2S 5 6 (consA (ixS 3 (callF F_pick (lendC 0 (consC (aD (op1 lenO (slotF 3))) (nilC))))) (consA (op2 addO (tmpF (cF (.int 1))) (tmpF (callF F_pick (lendC 0 (consC (aD (op2 subO (slotF 1) (tmpF (cF (.int 1))))) (nilC)))))) (nilA))))
    (seqS (setS 7 (callF self (lendC 0 (consC (aD (varF 6)) (consC (aD (op2 subO (slotF 2) (tmpF (cF (.int 1))))) (consC (aD (varF 3)) (consC (aD (varF 4)) (nilC))))))))
    (retS (tupF (consA (varF 5) (consA (varF 7) (consA (callF self (lendC 0 (consC (aD (op2 subO (slotF 1) (slotF 6))) (consC (aD (op2 subO (slotF 2) (tmpF (cF (.int 1))))) (consC (aD (varF 3)) (consC (aD (varF 4)) (nilC))))))) (nilA))))))))
def F_grown : Nat → FF
  | 0 => fun _ => .stuck
  | n + 1 => defF 5 8 (B_grown (F_grown n))

def B_pool : SF := seqS (asgS (tupT 2 (consTs (nmT 1) (consTs (nmT 2) (nilTs)))) (tupF (consA (cF (.str "abcdefghijklmnopqrstuvwxyz")) (consA (op2 addO (tmpF (cF (.int 1))) (tmpF (callF F_pick (lendC 0 (consC (aD (op2 ixO (tmpF (lstF (consA (cF (.int 1)) (consA (cF (.int 3)) (consA (cF (.int 7)) (nilA)))))) (tmpF (callF F_pick (lendC 0 (consC (aD (cF (.int 3))) (nilC))))))) (nilC)))))) (nilA)))))
    (retS (op2c isStr joinO (tmpF (cF (.str ""))) (tmpF (lcF (rng1 (slotF 2)) (nmT 3) (yesT) (ixS 1 (callF F_pick (lendC 0 (consC (aD (cF (.int 26))) (nilC))))) [3]))))
def F_pool : FF := defF 1 4 B_pool

noncomputable def L1_places : SF := seqS (asgS (tupT 2 (consTs (nmT 3) (consTs (nmT 4) (nilTs)))) (mm0 2 popO))
    (ifS (tstF (op2 eqO (tmpF (ixS 3 (cF (.int 0)))) (tmpF (cF (.str "plain")))))
    (exS (mm1 1 appO (tupF (consA (ixS 3 (cF (.int 1))) (consA (varF 4) (nilA))))))
    (seqS (exS (mm1 2 appO (tupF (consA (ixS 3 (cF (.int 2))) (consA (op2 addO (slotF 4) (tmpF (cF (.int 1)))) (nilA))))))
    (exS (mm1 2 appO (tupF (consA (ixS 3 (cF (.int 1))) (consA (op2 addO (slotF 4) (tmpF (cF (.int 1)))) (nilA))))))))
noncomputable def B_places : SF := seqS (par2S 1 2 (consA (lstF (nilA)) (consA (lstF (consA (tupF (consA (varF 0) (consA (cF (.int 1)) (nilA)))) (nilA))) (nilA))))
    (seqS (whileS (tstF (op2 neO (slotF 2) (tmpF (lstF (nilA))))) L1_places)
    (retS (movF 1)))
noncomputable def F_places : FF := defF 1 5 B_places

def B_put (self : FF) : SF := seqS (ifS (tstF (op2 eqO (tmpF (ixS 0 (cF (.int 0)))) (tmpF (cF (.str "plain")))))
    (retS (dGet2 1 (ixS 0 (cF (.int 1))) (varF 0)))
    (nxS))
    (retS (tupF (consA (ixS 0 (cF (.int 0))) (consA (callF self (consC (aD (ixS 0 (cF (.int 1)))) (lendC 1 (nilC)))) (consA (callF self (consC (aD (ixS 0 (cF (.int 2)))) (lendC 1 (nilC)))) (nilA))))))
def F_put : Nat → FF
  | 0 => fun _ => .stuck
  | n + 1 => defF 2 2 (B_put (F_put n))

noncomputable def B_within : SF := seqS (setS 1 (callF F_places (consC (aD (varF 0)) (nilC))))
    (retS (andE (op2 leO (tmpF (op1 lenO (slotF 1))) (tmpF (cF (.int 7)))) (op2 leO (tmpF (op1 maxO (tmpF (lcF (itS (varF 1)) (nmT 2) (yesT) (ixS 2 (cF (.int 1))) [2])))) (tmpF (cF (.int 5))))))
noncomputable def F_within : FF := defF 1 3 B_within

noncomputable def L1_two : SF := stS 10 stA (varF 11) (callF (F_grown 30) (lendC 0 (consC (aD (op2 addO (tmpF (cF (.int 1))) (tmpF (callF F_pick (lendC 0 (consC (aD (varF 4)) (nilC))))))) (consC (aD (cF (.int 2))) (consC (aD (lstF (consA (cF (.str "behind")) (consA (cF (.str "ahead")) (consA (cF (.str "with")) (nilA)))))) (consC (aD (varF 1)) (nilC)))))))
noncomputable def L2_two : SF := seqS (setS 10 (newD))
    (seqS (forS (itS (varF 6)) (nmT 11) L1_two)
    (seqS (setS 12 (callF (F_put 30) (consC (aD (varF 5)) (lendC 10 (nilC)))))
    (seqS (ifS (notT (truF (tmpF (callF F_within (consC (aD (varF 12)) (nilC))))))
    (setS 12 (callF (F_put 30) (consC (aD (varF 5)) (consC (aT (dispF (consP (ixS 6 (cF (.int 0))) (tupF (consA (cF (.str "plain")) (consA (ixS 1 (op1 negO (tmpF (cF (.int 1))))) (nilA)))) (nilP)))) (nilC)))))
    (nxS))
    (exS (mm1 7 appO (varF 12))))))
noncomputable def B_two : SF := seqS (par2S 1 2 (consA (op2 addO (tmpF (callF F_pool (lendC 0 (nilC)))) (tmpF (callF F_pool (lendC 0 (nilC))))) (consA (op2 eqO (tmpF (callF F_pick (lendC 0 (consC (aD (cF (.int 3))) (nilC))))) (tmpF (cF (.int 0)))) (nilA))))
    (seqS (asgS (tupT 2 (consTs (nmT 3) (consTs (nmT 4) (nilTs)))) (op2 ixO (tmpF (lstF (consA (lstF (consA (op2 addO (tmpF (cF (.int 1))) (tmpF (callF F_pick (lendC 0 (consC (aD (cF (.int 4))) (nilC)))))) (consA (cF (.int 2)) (nilA)))) (consA (lstF (consA (cF (.int 7)) (consA (cF (.int 1)) (nilA)))) (nilA))))) (tmpF (op1 intO (slotF 2)))))
    (seqS (setS 5 (callF (F_grown 30) (lendC 0 (consC (aD (varF 3)) (consC (aD (cF (.int 5))) (consC (aD (lstF (consA (cF (.str "behind")) (consA (cF (.str "ahead")) (consA (cF (.str "with")) (nilA)))))) (consC (aD (varF 1)) (nilC))))))))
    (seqS (par2S 6 7 (consA (op1 sortedSetO (tmpF (lcF (itS (callF F_places (consC (aD (varF 5)) (nilC)))) (nmT 8) (yesT) (ixS 8 (cF (.int 0))) [8]))) (consA (lstF (nilA)) (nilA))))
    (seqS (forS (rng1 (tmpF (cF (.int 2)))) (nmT 9) L2_two)
    (retS (tupF (consA (varF 5) (consA (ixS 7 (cF (.int 0))) (consA (ixS 7 (cF (.int 1))) (nilA))))))))))
noncomputable def F_two : FF := defF 1 13 B_two

def B_both_share (self : FF) : SF := seqS (ifS (andT (tstF (op2 eqO (tmpF (ixS 0 (cF (.int 0)))) (tmpF (ixS 1 (cF (.int 0)))))) (tstF (op2 neO (tmpF (ixS 0 (cF (.int 0)))) (tmpF (cF (.str "plain"))))))
    (retS (tupF (consA (ixS 0 (cF (.int 0))) (consA (callF self (consC (aD (ixS 0 (cF (.int 1)))) (consC (aD (ixS 1 (cF (.int 1)))) (lendC 2 (nilC))))) (consA (callF self (consC (aD (ixS 0 (cF (.int 2)))) (consC (aD (ixS 1 (cF (.int 2)))) (lendC 2 (nilC))))) (nilA))))))
    (nxS))
    (seqS (ifS (tstF (ninS 2 (tupF (consA (varF 0) (consA (varF 1) (nilA))))))
    (exS (mm1 2 appO (tupF (consA (varF 0) (consA (varF 1) (nilA))))))
    (nxS))
    (retS (tupF (consA (cF (.str "plain")) (consA (op2 ixO (tmpF (cF (.str "abcdefghijklmnopqrstuvwxyz"))) (tmpF (op2c isLst idxO (slotF 2) (tmpF (tupF (consA (varF 0) (consA (varF 1) (nilA)))))))) (nilA))))))
def F_both_share : Nat → FF
  | 0 => fun _ => .stuck
  | n + 1 => defF 3 3 (B_both_share (F_both_share n))

def B_is_letter : SF := retS (andE (op2 eqO (tmpF (op1 lenO (slotF 0))) (tmpF (cF (.int 1)))) (op2 inO (slotF 0) (tmpF (cF (.str "abcdefghijklmnopqrstuvwxyz")))))
def F_is_letter : FF := defF 1 1 B_is_letter

def B_wrong_part (self : FF) : SF := seqS (ifS (tstF (op2 eqO (tmpF (ixS 0 (cF (.int 0)))) (tmpF (cF (.str "plain")))))
    (retS (ifE (truF (tmpF (callF F_is_letter (consC (aD (ixS 0 (cF (.int 1)))) (nilC))))) (cF .none) (varF 0)))
    (nxS))
    (seqS (ifS (tstF (op1 (kdNin [("behind", "ahead"), ("ahead", "behind"), ("with", "with")]) (tmpF (ixS 0 (cF (.int 0))))))
    (retS (varF 0))
    (nxS))
    (seqS (setS 1 (callF self (consC (aD (ixS 0 (cF (.int 1)))) (nilC))))
    (retS (ifE (tstF (op1 isNO (slotF 1))) (callF self (consC (aD (ixS 0 (cF (.int 2)))) (nilC))) (varF 1)))))
def F_wrong_part : Nat → FF
  | 0 => fun _ => .stuck
  | n + 1 => defF 1 2 (B_wrong_part (F_wrong_part n))

def B_checked_kind : SF := seqS (setS 1 (callF (F_wrong_part 30) (consC (aD (varF 0)) (nilC))))
    (seqS (ifS (tstF (op1 notNO (slotF 1)))
    (noS)
    (nxS))
    (retS (varF 0)))
def F_checked_kind : FF := defF 1 2 B_checked_kind

def L1_checked_kinds : SF := exS (callF F_checked_kind (consC (aD (varF 1)) (nilC)))
def B_checked_kinds : SF := seqS (forS (itS (varF 0)) (nmT 1) L1_checked_kinds)
    (retS (varF 0))
def F_checked_kinds : FF := defF 1 2 B_checked_kinds

def B_common : SF := seqS (exS (callF F_checked_kinds (consC (aD (lstF (consA (varF 0) (consA (varF 1) (nilA))))) (nilC))))
    (retS (callF (F_both_share 30) (consC (aD (varF 0)) (consC (aD (varF 1)) (consC (aT (lstF (nilA))) (nilC))))))
def F_common : FF := defF 2 2 B_common

def B_matches (self : FF) : SF := seqS (ifS (tstF (op2 eqO (tmpF (ixS 0 (cF (.int 0)))) (tmpF (cF (.str "plain")))))
    (retS (op2 eqO (tmpF (dSetd 2 (ixS 0 (cF (.int 1))) (varF 1))) (slotF 1)))
    (nxS))
    (seqS (ifS (tstF (op2 neO (tmpF (ixS 0 (cF (.int 0)))) (tmpF (ixS 1 (cF (.int 0))))))
    (retS (cF (.bool false)))
    (nxS))
    (retS (andE (callF self (consC (aD (ixS 0 (cF (.int 1)))) (consC (aD (ixS 1 (cF (.int 1)))) (lendC 2 (nilC))))) (callF self (consC (aD (ixS 0 (cF (.int 2)))) (consC (aD (ixS 1 (cF (.int 2)))) (lendC 2 (nilC))))))))
def F_matches : Nat → FF
  | 0 => fun _ => .stuck
  | n + 1 => defF 3 3 (B_matches (F_matches n))

def B_puts : SF := seqS (exS (callF F_checked_kinds (consC (aD (lstF (consA (varF 0) (consA (varF 1) (nilA))))) (nilC))))
    (seqS (setS 2 (newD))
    (retS (ifE (truF (tmpF (callF (F_matches 30) (consC (aD (varF 0)) (consC (aD (varF 1)) (lendC 2 (nilC))))))) (sItems 2) (cF .none))))
def F_puts : FF := defF 2 3 B_puts

noncomputable def L1_law : SF := ifS (orT (notT (truF (tmpF (callF F_comes_of (consC (aD (varF 9)) (consC (aD (varF 10)) (nilC))))))) (tstF (op1 isNO (tmpF (callF F_puts (consC (aD (varF 9)) (consC (aD (varF 10)) (nilC))))))))
    (retS (cF (.bool false)))
    (nxS)
noncomputable def L2_law : SF := seqS (asgS (tupT 3 (consTs (nmT 3) (consTs (nmT 4) (consTs (nmT 5) (nilTs))))) (callF F_two (lendC 1 (nilC))))
    (seqS (setS 6 (callF F_pick (lendC 1 (consC (aD (cF (.int 4))) (nilC)))))
    (seqS (ifS (tstF (op2 eqO (slotF 6) (tmpF (cF (.int 0)))))
    (setS 5 (varF 4))
    (nxS))
    (seqS (ifS (tstF (op2 eqO (slotF 6) (tmpF (cF (.int 1)))))
    (seqS (setS 7 (callF F_pool (lendC 1 (nilC))))
    (seqS (setS 5 (callF (F_grown 30) (lendC 1 (consC (aD (op2 addO (tmpF (cF (.int 1))) (tmpF (callF F_pick (lendC 1 (consC (aD (cF (.int 7))) (nilC))))))) (consC (aD (cF (.int 5))) (consC (aD (lstF (consA (cF (.str "behind")) (consA (cF (.str "ahead")) (consA (cF (.str "with")) (nilA)))))) (consC (aD (varF 7)) (nilC))))))))
    (setS 3 (tupF (consA (cF (.str "plain")) (consA (cF (.str "k")) (nilA)))))))
    (nxS))
    (seqS (setS 8 (callF F_due (consC (aD (varF 4)) (consC (aD (varF 5)) (nilC)))))
    (seqS (setS 9 (callF F_common (consC (aD (varF 4)) (consC (aD (varF 5)) (nilC)))))
    (seqS (ifS (orT (notT (truF (tmpF (callF (F_alike 30) (consC (aD (varF 9)) (consC (aD (varF 8)) (nilC))))))) (notT (truF (tmpF (callF (F_alike 30) (consC (aD (callF F_common (revC (consC (aD (varF 4)) (consC (aD (varF 5)) (nilC)))))) (consC (aD (varF 8)) (nilC))))))))
    (retS (cF (.bool false)))
    (nxS))
    (seqS (forS (itS (lstF (consA (varF 4) (consA (varF 5) (nilA))))) (nmT 10) L1_law)
    (seqS (ifS (orT (notT (truF (tmpF (callF F_comes_of (consC (aD (varF 3)) (consC (aD (varF 9)) (nilC))))))) (tstF (op1 isNO (tmpF (callF F_puts (consC (aD (varF 3)) (consC (aD (varF 9)) (nilC))))))))
    (retS (cF (.bool false)))
    (nxS))
    (ifS (orT (notT (truF (tmpF (callF (F_alike 30) (consC (aD (callF F_common (consC (aD (varF 4)) (consC (aD (varF 4)) (nilC))))) (consC (aD (callF F_due (consC (aD (varF 4)) (consC (aD (varF 4)) (nilC))))) (nilC))))))) (notT (truF (tmpF (callF (F_alike 30) (consC (aD (callF F_common (consC (aD (varF 4)) (consC (aD (varF 5)) (nilC))))) (consC (aD (varF 8)) (nilC))))))))
    (retS (cF (.bool false)))
    (nxS))))))))))
noncomputable def B_law : SF := seqS (setS 1 (callF F_begun (consC (aD (varF 0)) (nilC))))
    (seqS (forS (rng1 (tmpF (cF (.int 9)))) (nmT 2) L2_law)
    (retS (cF (.bool true))))
noncomputable def F_law : FF := defF 1 11 B_law
end Fn

namespace Fn
open PySem PySem.Spec PyProof.Rows L2 Ww Vs
@[simp] theorem y_d_str (s : Str) : (PyData.str s).depth = 0 := rfl
@[simp] theorem y_d_int (s : Int) : (PyData.int s).depth = 0 := rfl
@[simp] theorem y_d_bool (s : Bool) : (PyData.bool s).depth = 0 := rfl
@[simp] theorem y_e_str (s t : Str) : PyData.eqv (.str s) (.str t) = (s == t) := rfl
@[simp] theorem y_e_int (s t : Int) : PyData.eqv (.int s) (.int t) = (s == t) := rfl
@[simp] theorem y_e_bool (s t : Bool) : PyData.eqv (.bool s) (.bool t) = (s == t) := rfl
@[simp] theorem y_k_pl (s : Str) : (Kd.pl s).dat = .tuple [.str "plain", .str s] := rfl
@[simp] theorem y_k_nd (f : Str) (a b : Kd) : (Kd.nd f a b).dat = .tuple [.str f, a.dat, b.dat] := rfl
/-! ### letters -/
theorem strIn_one (x : Str) (c : Nat) : strIn ⟨#[c]⟩ x = decide (c ∈ x.cps.toList) := StrLaws.found_one x c
theorem is_letter_ok (s : Str) (h : s.length ≤ 1000000) : F_is_letter [.dat (.str s)] = .ok (.dat (.bool (isLet s))) [.no] := by
  have h2 : s.length ≤ 16777216 := by omega
  by_cases c : s.length = 1
  · obtain ⟨x, rfl⟩ := str_one c
    have e : decide (x ∈ (Str.ofString "abcdefghijklmnopqrstuvwxyz").cps.toList) = isLet ⟨#[x]⟩ := by
      rw [isLet_one]
      exact decide_eq_decide.mpr (abc_mem x)
    simp only [F_is_letter, x_def]
    simp [x_entry, B_is_letter, h2, strIn_one, x_leave, c, -Array.mem_toList_iff, e]
  · have c2 : ¬ (s.length : Int) = 1 := by omega
    simp [F_is_letter, x_def, x_entry, B_is_letter, h2, isLet_many c, x_leave, c2]
theorem Kd.ne {k : Kd} : k.dat ≠ .none := by cases k <;> exact fun z => nomatch z
@[simp] theorem isN_kd (k : Kd) : isNO (.dat k.dat) = some (.dat (.bool false)) := x_isN Kd.ne
theorem form_ne {f : Str} (h : Form f) : (f == (Str.ofString "plain")) = false := by
  rcases h with rfl | rfl | rfl <;> decide +kernel
theorem form_turn {f : Str} (h : Form f) : kdNin [("behind", "ahead"), ("ahead", "behind"), ("with", "with")] (.dat (.str f)) = some (.dat (.bool false)) := by
  have e : (List.lookup f [(Str.ofString "behind", Str.ofString "ahead"), (Str.ofString "ahead", Str.ofString "behind"), (Str.ofString "with", Str.ofString "with")]).isSome = true := by rcases h with rfl | rfl | rfl <;> decide +kernel
  rw [show ∀ tbl, kdNin tbl (.dat (.str f)) = if (tbl.lookup f).isSome = true then bo false else none from fun _ => rfl, if_pos e]
  rfl
theorem wrong_part_ok : ∀ (n : Nat) (k : Kd), k.ok → k.deep ≤ n → F_wrong_part n [.dat k.dat] = .ok (.dat .none) [.no]
  | 0, k, _, h => by have := k.deep_pos; omega
  | n + 1, .pl s, ok, h => by
    have l := is_letter_ok s ok.small
    have e : isLet s = true := isLet_iff.mpr ok
    simp [F_wrong_part, x_def, x_entry, B_wrong_part, l, e, x_leave]
  | n + 1, .nd f a b, ⟨hf, oa, ob⟩, h => by
    have dm : 1 + max a.deep b.deep ≤ n + 1 := h
    have ea := wrong_part_ok n a oa (by omega)
    have eb := wrong_part_ok n b ob (by omega)
    simp [F_wrong_part, x_def, x_entry, B_wrong_part, x_leave, form_ne hf, form_turn hf, ea, eb]
theorem checked_kind_ok (k : Kd) (ok : k.ok) (h : k.deep ≤ 30) : F_checked_kind [.dat k.dat] = .ok (.dat k.dat) [.no] := by
  have l := wrong_part_ok 30 k ok h
  simp [F_checked_kind, x_def, x_entry, B_checked_kind, l, x_leave]
theorem checked_loop (d : PyData) : ∀ (ks : List Kd) (s : Sl), (s = .no ∨ ∃ k : Kd, s = .val (.dat k.dat)) → (∀ k ∈ ks, k.ok ∧ k.deep ≤ 30) → ∃ s', loopF (nmT 1) L1_checked_kinds (ks.map Kd.dat) [.val (.dat d), s] = .nx [.val (.dat d), s']
  | [], s, _, _ => ⟨s, rfl⟩
  | k :: ks, s, hs, h => by
    obtain ⟨ok, hd⟩ := h k List.mem_cons_self
    have l := checked_kind_ok k ok hd
    obtain ⟨s', e⟩ := checked_loop d ks (.val (.dat k.dat)) (.inr ⟨k, rfl⟩) fun z hz => h z (List.mem_cons_of_mem _ hz)
    refine ⟨s', ?_⟩
    have b : L1_checked_kinds [.val (.dat d), .val (.dat k.dat)] = .nx [.val (.dat d), .val (.dat k.dat)] := by simp [L1_checked_kinds, l]
    rw [List.map_cons, x_loop_cons]
    rcases hs with rfl | ⟨_, rfl⟩ <;> simp [b, e]
theorem checked_kinds_ok (ks : List Kd) (h : ∀ k ∈ ks, k.ok ∧ k.deep ≤ 30) : F_checked_kinds [.dat (.list (ks.map Kd.dat))] = .ok (.dat (.list (ks.map Kd.dat))) [.no] := by
  obtain ⟨s', e⟩ := checked_loop (.list (ks.map Kd.dat)) ks .no (.inl rfl) h
  simp [F_checked_kinds, x_def, x_entry, B_checked_kinds, e, x_leave]
/-! ### the law's source of draws, at most n draws so far -/
def Src (n : Nat) (ds : List PyData) : Prop := ∃ (gs : List Int) (i o m c : Int), ds = [.list (gs.map .int), .int i, .int o, .int m, .int c] ∧
  gs.length ≤ 63 ∧ (∀ x ∈ gs, 0 ≤ x) ∧ 0 ≤ i ∧ i ≤ gs.length ∧ 0 ≤ o ∧ 0 ≤ m ∧ m < 10 ^ 18 ∧ 0 ≤ c ∧ c ≤ n
theorem Src.le {n n' : Nat} {ds : List PyData} (h : Src n ds) (l : n ≤ n') : Src n' ds := by
  obtain ⟨gs, i, o, m, c, h1, h2, h3, h4, h5, h6, h7, h8, h9, h10⟩ := h
  exact ⟨gs, i, o, m, c, h1, h2, h3, h4, h5, h6, h7, h8, h9, by omega⟩
/-- numbers of such a size -/
theorem wid_of {i : Int} (h : i.natAbs < 2 ^ 200) : Wid i := Nat.lt_of_lt_of_le h (Nat.pow_le_pow_right (by decide) (by decide))
theorem ixN_of {n : Nat} {i : Int} (h0 : 0 ≤ i) (h1 : i < n) : ixN n i = some i.toNat := by
  unfold ixN
  simp [h0, h1]
theorem at_int {gs : List Int} {i : Int} (h0 : 0 ≤ i) (h1 : i < gs.length) : ∃ x ∈ gs, atI (gs.map PyData.int) i = some (.int x) := by
  have hi : i.toNat < gs.length := by omega
  refine ⟨gs[i.toNat], List.getElem_mem hi, ?_⟩
  unfold atI
  rw [ixN_of h0 (by rw [List.length_map]; exact h1)]
  simp [hi]
theorem pick_ok (n : Nat) (ds : List PyData) (many : Int) (hs : Src n ds) (hn : n ≤ 1000000) (m0 : 0 < many) (m1 : many < 2 ^ 200) :
    ∃ (r : Int) (es : List PyData), 0 ≤ r ∧ r < many ∧ Src (n + 1) es ∧ F_pick [.ls ds, .dat (.int many)] = .ok (.dat (.int r)) [.bor (.ls es), .no] := by
  obtain ⟨gs, i, o, m, c, rfl, h63, hpos, i0, i1, o0, mm0, mm1, c0, c1⟩ := hs
  have wm : Wid many := wid_of (by omega)
  have wo : Wid 613 := by decide
  have w1 : Wid (c + 1) := wid_of (by omega)
  have w2 : Wid (613 * (c + 1)) := wid_of (by omega)
  have p2 : 613 * (c + 1) * (c + 1) ≤ 613 * (1000001 * 1000001) := by
    have := Int.mul_le_mul (show 613 * (c + 1) ≤ 613 * 1000001 by omega) (show c + 1 ≤ 1000001 by omega) (by omega) (by decide)
    omega
  have p3 : 0 ≤ 613 * (c + 1) * (c + 1) := Int.mul_nonneg (by omega) (by omega)
  have nb : (m + 613 * (c + 1) * (c + 1)).natAbs < 2 ^ 64 := by omega
  have pk : powOk (m + 613 * (c + 1) * (c + 1)) 3 = true := powOk_s (by decide) (by decide) nb
  have t0 := Int.emod_nonneg ((m + 613 * (c + 1) * (c + 1)) ^ 3) (show (1000000000000000000000000000057 : Int) ≠ 0 by decide)
  have t1 := Int.emod_lt_of_pos ((m + 613 * (c + 1) * (c + 1)) ^ 3) (show (0 : Int) < 1000000000000000000000000000057 by decide)
  generalize hz : (m + 613 * (c + 1) * (c + 1)) ^ 3 % 1000000000000000000000000000057 = z at t0 t1
  have wz : Wid z := wid_of (by omega)
  have wy : Wid (z + 29) := wid_of (by omega)
  have wq : Wid 8191 := by decide
  have ne : many ≠ 0 := by omega
  have r3 : ∀ i' : Int, 0 ≤ i' → i' ≤ gs.length → ∃ (r : Int) (es : List PyData), 0 ≤ r ∧ r < many ∧ Src (n + 1) es ∧ r = z * (z + 29) % 340282366920938463463374607431768211507 / 8191 % many ∧ es = [.list (gs.map .int), .int i', .int 0, .int m, .int (c + 1)] := fun i' h0 h1 =>
    ⟨_, _, Int.emod_nonneg _ ne, Int.emod_lt_of_pos _ m0, ⟨gs, i', 0, m, c + 1, rfl, h63, hpos, h0, h1, by decide, mm0, mm1, by omega, by omega⟩, rfl, rfl⟩
  have r2 : ∀ i' o' : Int, 0 ≤ i' → i' ≤ gs.length → 0 ≤ o' → ∃ (r : Int) (es : List PyData), 0 ≤ r ∧ r < many ∧ Src (n + 1) es ∧ r = o' % many ∧ es = [.list (gs.map .int), .int i', .int (o' / many), .int m, .int c] := fun i' o' h0 h1 h2 =>
    ⟨_, _, Int.emod_nonneg _ ne, Int.emod_lt_of_pos _ m0, ⟨gs, i', o' / many, m, c, rfl, h63, hpos, h0, h1, Int.ediv_nonneg h2 (by omega), mm0, mm1, by omega, by omega⟩, rfl, rfl⟩
  by_cases c1 : o = 0 ∧ i < gs.length
  · obtain ⟨rfl, c2⟩ := c1
    obtain ⟨x, hx, ex⟩ := at_int i0 c2
    have x0 := hpos x hx
    by_cases c3 : x = 0
    · subst c3
      obtain ⟨r, es, h0, h1, h2, rfl, rfl⟩ := r3 (i + 1) (by omega) (by omega)
      refine ⟨_, _, h0, h1, h2, ?_⟩
      simp [F_pick, x_def, x_entry, x_leave, B_pick, c2, ex, ixN, m0, wm, wo, w1, w2, pk, hz, wz, wy, wq]
    · have c4 : 0 < x := by omega
      obtain ⟨r, es, h0, h1, h2, rfl, rfl⟩ := r2 (i + 1) x (by omega) (by omega) x0
      refine ⟨_, _, h0, h1, h2, ?_⟩
      simp [F_pick, x_def, x_entry, x_leave, B_pick, c2, ex, ixN, m0, wm, c4]
  · by_cases c3 : o = 0
    · subst c3
      have c2 : ¬ i < gs.length := fun h => c1 ⟨rfl, h⟩
      obtain ⟨r, es, h0, h1, h2, rfl, rfl⟩ := r3 i i0 i1
      refine ⟨_, _, h0, h1, h2, ?_⟩
      simp [F_pick, x_def, x_entry, x_leave, B_pick, c2, ixN, m0, wm, wo, w1, w2, pk, hz, wz, wy, wq]
    · have c4 : 0 < o := by omega
      obtain ⟨r, es, h0, h1, h2, rfl, rfl⟩ := r2 i o i0 i1 o0
      refine ⟨_, _, h0, h1, h2, ?_⟩
      simp [F_pick, x_def, x_entry, x_leave, B_pick, c3, c4, ixN, m0, wm]
/-! ### begun -/
def Beg (ns : List Int) (i : Nat) (ρ : En) : Prop := ∃ (s3 : Sl) (gs : List Int) (m : Int), ρ = [.val (.dat (.list (ns.map .int))), .val (.ls (gs.map .int)), .val (.dat (.int m)), s3] ∧ (s3 = .no ∨ ∃ x, s3 = .val (.dat (.int x))) ∧
  gs.length ≤ i ∧ (∀ x ∈ gs, 0 ≤ x) ∧ 0 ≤ m ∧ m < 10 ^ 18
theorem begun_step (ns : List Int) (i : Nat) (ρ : En) (h63 : ns.length ≤ 63) (hi : i < ns.length) (h : Beg ns i ρ) : ∃ ρ1 ρ2, (nmT 3).f (.int (i : Int)) ρ = some ρ1 ∧ (L1_begun ρ1 = .nx ρ2 ∨ L1_begun ρ1 = .ct ρ2) ∧ Beg ns (i + 1) ρ2 := by
  obtain ⟨s3, gs, m, rfl, h3, hl, hpos, m0, m1⟩ := h
  have e1 : (nmT 3).f (.int (i : Int)) [.val (.dat (.list (ns.map .int))), .val (.ls (gs.map .int)), .val (.dat (.int m)), s3] = some [.val (.dat (.list (ns.map .int))), .val (.ls (gs.map .int)), .val (.dat (.int m)), .val (.dat (.int i))] := by
    rcases h3 with rfl | ⟨x, rfl⟩ <;> simp
  have ex : atI (ns.map PyData.int) (i : Int) = some (.int ns[i]) := by rw [x_atN _ _ (by rw [List.length_map]; exact hi)]; simp
  generalize ns[i] = x at ex
  by_cases c : (1000000000000000000 : Int) ≤ x
  · refine ⟨_, [.val (.dat (.list (ns.map .int))), .val (.ls ((gs ++ [x - 1000000000000000000]).map .int)), .val (.dat (.int m)), .val (.dat (.int i))], e1, .inl ?_, .val (.dat (.int i)), _, _, rfl, .inr ⟨_, rfl⟩, ?_, ?_, m0, m1⟩
    · have hz : small (gs.length + 1) = true := small_of (by omega)
      simp [L1_begun, ex, c, hz]
    · rw [List.length_append]
      exact Nat.succ_le_succ hl
    · intro y hy
      rcases List.mem_append.mp hy with z | z
      · exact hpos y z
      · rw [List.mem_singleton] at z
        omega
  · have x0 : 0 ≤ x % 10000000000037 := Int.emod_nonneg _ (by decide)
    have x1 : x % 10000000000037 < 10000000000037 := Int.emod_lt_of_pos _ (by decide)
    have nb : (m + x % 10000000000037 + 911 * (i : Int)).natAbs < 2 ^ 64 := by omega
    have pk : powOk (m + x % 10000000000037 + 911 * (i : Int)) 3 = true := powOk_s (by decide) (by decide) nb
    have w1 : Wid 911 := by decide
    have w2 : Wid (i : Int) := wid_of (by omega)
    refine ⟨_, [.val (.dat (.list (ns.map .int))), .val (.ls (gs.map .int)), .val (.dat (.int (((m + x % 10000000000037 + 911 * (i : Int)) ^ 3 + i) % 999999999999999989))), .val (.dat (.int i))], e1, .inl ?_, .val (.dat (.int i)), _, _, rfl, .inr ⟨_, rfl⟩, by omega, hpos, Int.emod_nonneg _ (by decide), Int.lt_trans (Int.emod_lt_of_pos _ (by decide)) (by decide)⟩
    simp [L1_begun, ex, c, pk, w1, w2]
theorem begun_ok (ns : List Int) (h63 : ns.length ≤ 63) : ∃ es, Src 0 es ∧ F_begun [.dat (.list (ns.map .int))] = .ok (.ls es) [.no] := by
  obtain ⟨ρ', h1, s3, gs, m, rfl, _, hl, hpos, m0, m1⟩ := loop_rng0 (t := nmT 3) (body := L1_begun) (n := ns.length) (ρ := [.val (.dat (.list (ns.map .int))), .val (.ls []), .val (.dat (.int 7310581)), .no]) (Beg ns) ⟨.no, [], 7310581, rfl, .inl rfl, Nat.le_refl 0, (fun _ z => nomatch z), by decide, by decide⟩ (fun i ρ hi h => begun_step ns i ρ h63 hi h)
  refine ⟨[.list (gs.map .int), .int 0, .int 0, .int m, .int 0], ⟨gs, 0, 0, m, 0, rfl, by omega, hpos, by omega, by omega, by omega, m0, m1, by omega, by omega⟩, ?_⟩
  have hz : rngB (ns.length : Int) = true := rngB_of (by omega) (by omega)
  simp [F_begun, x_def, x_entry, x_leave, B_begun, hz, h1]
end Fn

namespace Fn
open PySem PySem.Spec PyProof.Rows L2 Ww Vs
/-! ### alike: the same data -/
@[simp] theorem isA_s (t n : String) : isA t n = (t == n || (t == "bool" && n == "int")) := rfl
theorem alike_loop (F : FF) (d e : PyData) (s2 s3 : Sl) : ∀ (ds : List PyData), (∀ x ∈ ds, F [.dat x, .dat x] = .ok (.dat (.bool true)) [.no, .no]) → (s2 = .no ∨ ∃ x, s2 = .val (.dat x)) → (s3 = .no ∨ ∃ x, s3 = .val (.dat x)) →
    ∃ u v, loopF (tupT 2 (consTs (nmT 2) (consTs (nmT 3) (nilTs)))) (L1_alike F) ((ds.zip ds).map fun z => .tuple [z.1, z.2]) [.val (.dat d), .val (.dat e), s2, s3] = .nx [.val (.dat d), .val (.dat e), u, v]
  | [], _, _, _ => ⟨s2, s3, rfl⟩
  | x :: ds, h, h2, h3 => by
    obtain ⟨u, v, ih⟩ := alike_loop F d e (.val (.dat x)) (.val (.dat x)) ds (fun y hy => h y (List.mem_cons_of_mem _ hy)) (.inr ⟨_, rfl⟩) (.inr ⟨_, rfl⟩)
    refine ⟨u, v, ?_⟩
    have hx := h x List.mem_cons_self
    have b : L1_alike F [.val (.dat d), .val (.dat e), .val (.dat x), .val (.dat x)] = .nx [.val (.dat d), .val (.dat e), .val (.dat x), .val (.dat x)] := by simp [L1_alike, hx]
    rw [List.zip_cons_cons, List.map_cons, x_loop_cons]
    rcases h2 with rfl | ⟨_, rfl⟩ <;> rcases h3 with rfl | ⟨_, rfl⟩ <;> simp [b, ih]
theorem alike_ok : ∀ (n : Nat) (d : PyData), Gd n d → F_alike n [.dat d, .dat d] = .ok (.dat (.bool true)) [.no, .no]
  | 0, d, h => h.elim
  | n + 1, .none, _ => by simp [F_alike, x_def, x_entry, x_leave, B_alike]
  | n + 1, .bool b, _ => by simp [F_alike, x_def, x_entry, x_leave, B_alike]
  | n + 1, .int b, _ => by simp [F_alike, x_def, x_entry, x_leave, B_alike]
  | n + 1, .str b, _ => by simp [F_alike, x_def, x_entry, x_leave, B_alike]
  | n + 1, .list ds, h => by
    obtain ⟨u, v, e⟩ := alike_loop (F_alike n) (.list ds) (.list ds) .no .no ds (fun x hx => alike_ok n x (h.2 x hx)) (.inl rfl) (.inl rfl)
    simp [F_alike, x_def, x_entry, x_leave, B_alike, e]
  | n + 1, .tuple ds, h => by
    obtain ⟨u, v, e⟩ := alike_loop (F_alike n) (.tuple ds) (.tuple ds) .no .no ds (fun x hx => alike_ok n x (h.2 x hx)) (.inl rfl) (.inl rfl)
    simp [F_alike, x_def, x_entry, x_leave, B_alike, e]
  | n + 1, .dict _, h => h.elim
/-! ### a pool of letters -/
theorem allStr_map (ys : List Str) : allStr (ys.map .str) = some ys := by
  induction ys with
  | nil => rfl
  | cons y ys ih => simp [allStr, ih]
def PoolI (n : Nat) (i : Nat) (acc : List PyData) (ρ : En) : Prop := ∃ (es : List PyData) (ys : List Str) (r : Int), Src (n + i) es ∧ ρ = [.bor (.ls es), .val (.dat (.str "abcdefghijklmnopqrstuvwxyz")), .val (.dat (.int r)), .no] ∧ acc = ys.map .str ∧ ys.length = i ∧ ∀ y ∈ ys, Let y
theorem pool_ok (n : Nat) (ds : List PyData) (hs : Src n ds) (hn : n ≤ 900000) : ∃ (t : Str) (es : List PyData), AllLet t ∧ 1 ≤ t.length ∧ t.length ≤ 7 ∧ Src (n + 9) es ∧ F_pool [.ls ds] = .ok (.dat (.str t)) [.bor (.ls es)] := by
  obtain ⟨r1, es1, a0, a1, s1, e1⟩ := pick_ok n ds 3 hs (by omega) (by decide) (by decide)
  obtain ⟨m, hm, m0, m1⟩ : ∃ m : Int, atI [PyData.int 1, .int 3, .int 7] r1 = some (.int m) ∧ 1 ≤ m ∧ m ≤ 7 := by
    obtain ⟨v, hv, hm⟩ := atI_mem (xs := [PyData.int 1, .int 3, .int 7]) a0 a1
    simp only [List.mem_cons, List.not_mem_nil, or_false] at hm
    rcases hm with rfl | rfl | rfl
    · exact ⟨1, hv, by decide, by decide⟩
    · exact ⟨3, hv, by decide, by decide⟩
    · exact ⟨7, hv, by decide, by decide⟩
  obtain ⟨r2, es2, b0, b1, s2, e2⟩ := pick_ok (n + 1) es1 m s1 (by omega) (by omega) (by omega)
  have hI : PoolI (n + 2) 0 [] [.bor (.ls es2), .val (.dat (.str "abcdefghijklmnopqrstuvwxyz")), .val (.dat (.int (1 + r2))), .no] := ⟨es2, [], _, s2, rfl, rfl, rfl, fun _ z => nomatch z⟩
  obtain ⟨xs, ρ', h1, es3, ys, r3, s3, rfl, rfl, hl, hy⟩ := lcL_inv (t := nmT 3) (e := ixS 1 (callF F_pick (lendC 0 (consC (aD (cF (.int 26))) (nilC))))) (own := [3]) (PoolI (n + 2)) (ds := (List.range (1 + r2).toNat).map fun i : Nat => .int (i : Int)) (k := 0) hI (by
    rintro i d acc ρ hd hi ⟨es, ys, r, sI, rfl, rfl, hl, hy⟩
    rw [List.length_map, List.length_range] at hi
    obtain ⟨j, _, rfl⟩ := List.mem_map.mp hd
    obtain ⟨r4, es4, c0, c1, s4, e4⟩ := pick_ok (n + 2 + i) es 26 sI (by omega) (by decide) (by decide)
    obtain ⟨c, hc, lc⟩ := abc_all.at c0 (by rw [abc_len]; exact c1)
    have ec : atI (Str.ofString "abcdefghijklmnopqrstuvwxyz").cps.toList r4 = some c := by
      unfold atI
      rw [ixN_of c0 (by rw [← len_cps, abc_len]; exact c1)]
      simpa using hc
    have sm : small (Str.ofString "abcdefghijklmnopqrstuvwxyz").length = true := by rw [abc_len]; rfl
    refine ⟨[.bor (.ls es), .val (.dat (.str "abcdefghijklmnopqrstuvwxyz")), .val (.dat (.int r)), .val (.dat (.int j))], [.bor (.ls es4), .val (.dat (.str "abcdefghijklmnopqrstuvwxyz")), .val (.dat (.int r)), .val (.dat (.int j))], .dat (.str ⟨#[c]⟩), .str ⟨#[c]⟩, by simp, ?_, rfl, es4, ys ++ [⟨#[c]⟩], r, s4, by simp, by simp, by simp [hl], fun y m => ?_⟩
    · simp [e4, sm, ec, -Array.getElem?_toList]
    · rcases List.mem_append.mp m with z | z
      · exact hy y z
      · rw [List.mem_singleton.mp z]
        exact lc)
  rw [List.length_map, List.length_range] at hl
  refine ⟨Txt.join (Str.ofString "") ys, es3, join_all hy, by rw [join_len hy]; omega, by rw [join_len hy]; omega, ?_, ?_⟩
  · refine s3.le ?_
    rw [List.length_map, List.length_range]
    omega
  · have hr : rngB (1 + r2) = true := rngB_of (by omega) (by omega)
    have hz : small (1 + r2).toNat = true := small_of (by omega)
    have hj : joinO (.dat (.str (Str.ofString ""))) (.ls (ys.map .str)) = some (.dat (.str (Txt.join (Str.ofString "") ys))) := by
      show ((some (ys.map PyData.str)).bind allStr).bind _ = _
      rw [Option.bind_some, allStr_map, Option.bind_some, if_pos (let_small hy (by omega))]
    simp [F_pool, x_def, x_entry, x_leave, B_pool, e1, e2, hm, hr, hz, h1, hj]
/-! ### a kind grown -/
def Pool (t : Str) : Prop := AllLet t ∧ 1 ≤ t.length ∧ t.length ≤ 14
def Forms (fs : List Str) : Prop := fs ≠ [] ∧ fs.length ≤ 10 ∧ ∀ f ∈ fs, Form f
theorem grown_ok : ∀ (n : Nat) (c : Nat) (ds : List PyData) (most deep : Int) (fs : List Str) (t : Str), Src c ds → c + 3 * most.toNat ≤ 900000 → Forms fs → Pool t → 1 ≤ most → most ≤ 20 → 1 ≤ deep → deep ≤ n →
    ∃ (k : Kd) (es : List PyData), k.ok ∧ (k.deep : Int) ≤ deep ∧ (k.letters.length : Int) ≤ most ∧ Src (c + 3 * most.toNat - 2) es ∧
      F_grown n [.ls ds, .dat (.int most), .dat (.int deep), .dat (.list (fs.map .str)), .dat (.str t)] = .ok (.dat k.dat) [.bor (.ls es), .no, .no, .no, .no]
  | 0, c, ds, most, deep, fs, t, _, _, _, _, _, _, h1, h2 => by omega
  | n + 1, c, ds, most, deep, fs, t, hs, hc, hf, ht, m1, m2, d1, d2 => by
    obtain ⟨ta, t1, t14⟩ := ht
    have sm : small t.length = true := small_of (by omega)
    by_cases cc : most < 2 ∨ deep < 2
    · obtain ⟨r, es, a0, a1, s1, e1⟩ := pick_ok c ds t.length hs (by omega) (by omega) (by omega)
      obtain ⟨x, hx, lx⟩ := ta.at a0 a1
      have ec : atI t.cps.toList r = some x := by
        unfold atI
        rw [ixN_of a0 (by rw [← len_cps]; exact a1)]
        simpa using hx
      refine ⟨.pl ⟨#[x]⟩, es, lx, by show (1 : Int) ≤ deep; omega, by show (1 : Int) ≤ most; omega, s1.le (by omega), ?_⟩
      by_cases c1 : most < 2
      · simp [F_grown, x_def, x_entry, x_leave, B_grown, c1, sm, e1, ec]
      · have c2 : deep < 2 := cc.resolve_left c1
        simp [F_grown, x_def, x_entry, x_leave, B_grown, c1, c2, sm, e1, ec]
    · have c1 : ¬ most < 2 := fun z => cc (.inl z)
      have c2 : ¬ deep < 2 := fun z => cc (.inr z)
      obtain ⟨f0, f10, hform⟩ := hf
      have fpos : 0 < fs.length := List.length_pos_iff.mpr f0
      obtain ⟨r, es1, a0, a1, s1, e1⟩ := pick_ok c ds fs.length hs (by omega) (by omega) (by omega)
      obtain ⟨f, hf1, hf2⟩ := atI_of (xs := fs) a0 a1
      have hfm : Form f := hform f (List.mem_of_getElem? hf2)
      have ef : atI (fs.map PyData.str) r = some (.str f) := by
        unfold atI
        rw [ixN_of a0 (by rw [List.length_map]; exact a1)]
        simp [hf2]
      obtain ⟨q, es2, b0, b1, s2, e2⟩ := pick_ok (c + 1) es1 (most - 1) s1 (by omega) (by omega) (by omega)
      obtain ⟨k1, es3, o3, d3, l3, s3, e3⟩ := grown_ok n (c + 2) es2 (1 + q) (deep - 1) fs t s2 (by omega) ⟨f0, f10, hform⟩ ⟨ta, t1, t14⟩ (by omega) (by omega) (by omega) (by omega)
      obtain ⟨k2, es4, o4, d4, l4, s4, e4⟩ := grown_ok n _ es3 (most - (1 + q)) (deep - 1) fs t s3 (by omega) ⟨f0, f10, hform⟩ ⟨ta, t1, t14⟩ (by omega) (by omega) (by omega) (by omega)
      refine ⟨.nd f k1 k2, es4, ⟨hfm, o3, o4⟩, ?_, ?_, s4.le (by omega), ?_⟩
      · show ((1 + max k1.deep k2.deep : Nat) : Int) ≤ deep
        omega
      · show ((k1.letters ++ k2.letters).length : Int) ≤ most
        rw [List.length_append]
        omega
      · simp [F_grown, x_def, x_entry, x_leave, B_grown, c1, c2, e1, ef, e2, e3, e4]
/-! ### the places of its letters -/
def rowD (x : Str × Int) : PyData := .tuple [.str x.1, .int x.2]
def kiD (x : Kd × Int) : PyData := .tuple [x.1.dat, .int x.2]
@[simp] theorem y_d_list (ds : List PyData) : (PyData.list ds).depth = PyData.depthAll ds + 1 := rfl
@[simp] theorem y_d_tuple (ds : List PyData) : (PyData.tuple ds).depth = PyData.depthAll ds + 1 := rfl
@[simp] theorem y_d_nil : PyData.depthAll [] = 0 := rfl
@[simp] theorem y_d_cons (d : PyData) (ds : List PyData) : PyData.depthAll (d :: ds) = max d.depth (PyData.depthAll ds) := rfl
@[simp] theorem y_e_nil : PyData.eqv (.list []) (.list []) = true := rfl
@[simp] theorem y_e_nil2 (d : PyData) (ds : List PyData) : PyData.eqv (.list (d :: ds)) (.list []) = false := rfl
theorem y_e_snoc (d : PyData) (ds : List PyData) : PyData.eqv (.list (ds ++ [d])) (.list []) = false := by cases ds <;> rfl
@[simp] theorem y_snoc (d : PyData) (ds : List PyData) : PyData.eqv (.list (ds ++ [d])) (.list []) = false := y_e_snoc d ds
@[simp] theorem min_le1 (a : Nat) : min a (0 + 1) ≤ 64 := by omega
def PlI (k : Kd) (m : Nat) (ρ : En) : Prop := ∃ (done : List (Str × Int)) (st : List (Kd × Int)) (s3 s4 : Sl), ρ = [.val (.dat k.dat), .val (.ls (done.map rowD)), .val (.ls (st.reverse.map kiD)), s3, s4] ∧ m = (st.map fun x => x.1.wt).sum ∧
  done ++ (st.flatMap fun x => x.1.places x.2) = k.places 1 ∧ (∀ x ∈ st, x.1.ok) ∧ Fr s3 ∧ Fr s4
theorem places_ok (k : Kd) (ok : k.ok) (hz : k.letters.length ≤ 1000) : F_places [.dat k.dat] = .ok (.ls ((k.places 1).map rowD)) [.no] := by
  obtain ⟨ρ', h1, s3, s4, rfl⟩ := while_inv (t := (tstF (op2 neO (slotF 2) (tmpF (lstF (nilA)))))) (body := L1_places) (PlI k) (fun ρ => ∃ s3 s4, ρ = [.val (.dat k.dat), .val (.ls ((k.places 1).map rowD)), .val (.ls []), s3, s4]) (by
    rintro m ρ ⟨done, st, s3, s4, rfl, rfl, hall, hok, h3, h4⟩
    have lall := congrArg List.length hall
    rw [List.length_append, k.places_len] at lall
    cases st with
    | nil =>
      rw [List.flatMap_nil, List.append_nil] at hall
      refine .inl ⟨_, ?_, s3, s4, rfl⟩
      simp [hall]
    | cons x st =>
      obtain ⟨kx, d⟩ := x
      have lst := places_flat st
      have hz1 : small (done.length + 1) = true := small_of (by rw [List.flatMap_cons, List.length_append] at lall; omega)
      have hz2 : small (st.length + 1) = true := small_of (by rw [List.flatMap_cons, List.length_append] at lall; omega)
      have hz3 : small (st.length + 1 + 1) = true := small_of (by rw [List.flatMap_cons, List.length_append] at lall; have := kx.letters_pos; rw [← kx.places_len d] at this; omega)
      have hk := hok (kx, d) List.mem_cons_self
      have hst := fun x hx => hok x (List.mem_cons_of_mem _ hx)
      have t0 : (tstF (op2 neO (slotF 2) (tmpF (lstF (nilA))))) [.val (.dat k.dat), .val (.ls (done.map rowD)), .val (.ls (((kx, d) :: st).reverse.map kiD)), s3, s4] = .ok true [.val (.dat k.dat), .val (.ls (done.map rowD)), .val (.ls (((kx, d) :: st).reverse.map kiD)), s3, s4] := by simp
      cases kx with
      | pl s =>
        refine .inr ⟨_, [.val (.dat k.dat), .val (.ls ((done ++ [(s, d)]).map rowD)), .val (.ls (st.reverse.map kiD)), .val (.dat (Kd.pl s).dat), .val (.dat (.int d))], _, t0, ?_, ?_, done ++ [(s, d)], st, _, _, rfl, rfl, ?_, hst, .val, .val⟩
        · simp [L1_places, x_fr h3, x_fr h4, hz1, rowD, kiD]
        · simp [Kd.wt]
        · rw [← hall]
          simp [Kd.places]
      | nd f a b =>
        obtain ⟨hf, oa, ob⟩ := hk
        refine .inr ⟨_, [.val (.dat k.dat), .val (.ls (done.map rowD)), .val (.ls (((a, d + 1) :: (b, d + 1) :: st).reverse.map kiD)), .val (.dat (Kd.nd f a b).dat), .val (.dat (.int d))], _, t0, ?_, ?_, done, (a, d + 1) :: (b, d + 1) :: st, _, _, rfl, rfl, ?_, ?_, .val, .val⟩
        · simp [L1_places, x_fr h3, x_fr h4, hz2, hz3, kiD, form_ne hf]
        · simp [Kd.wt]
          omega
        · rw [← hall]
          simp [Kd.places]
        · intro x hx
          rcases List.mem_cons.mp hx with rfl | hx
          · exact oa
          · rcases List.mem_cons.mp hx with rfl | hx
            · exact ob
            · exact hst x hx) (m := k.wt) (ρ := [.val (.dat k.dat), .val (.ls []), .val (.ls [kiD (k, 1)]), .no, .no]) ⟨[], [(k, 1)], .no, .no, rfl, by simp, by simp, by simpa using ok, .no, .no⟩
  simp only [kiD] at h1
  simp [F_places, x_def, x_entry, x_leave, B_places, h1]
end Fn

namespace Fn
open PySem PySem.Spec PyProof.Rows L2 Ww Vs
/-! ### tables of kinds -/
def tabD (t : List (Str × Kd)) : List (L2.Key × PyData) := t.map fun x => (.inr x.1, x.2.dat)
theorem valD_nil (k : L2.Key) : valD [] k = none := rfl
theorem valD_cons (x : L2.Key × PyData) (r : List (L2.Key × PyData)) (k : L2.Key) : valD (x :: r) k = if x.1 = k then some x.2 else valD r k := by
  unfold valD
  rw [List.find?_cons]
  by_cases h : x.1 = k
  · simp [h]
  · simp [h]
theorem valD_tab (s : Str) : ∀ t : List (Str × Kd), valD (tabD t) (.inr s) = (t.lookup s).map Kd.dat
  | [] => rfl
  | (a, k) :: t => by
    show valD ((.inr a, k.dat) :: tabD t) (.inr s) = _
    rw [valD_cons, valD_tab s t, List.lookup_cons]
    by_cases h : a = s
    · subst h
      simp
    · have h2 : (s == a) = false := by simpa using fun z => h z.symm
      simp [h, h2]
/-- parts by a table -/
def Kd.sub (σ : Str → Kd) : Kd → Kd
  | .pl s => σ s
  | .nd f a b => .nd f (sub σ a) (sub σ b)
def tau (t : List (Str × Kd)) (s : Str) : Kd := (t.lookup s).getD (.pl s)
theorem put_ok (t : List (Str × Kd)) : ∀ (n : Nat) (k : Kd), k.ok → k.deep ≤ n → F_put n [.dat k.dat, .dk (tabD t)] = .ok (.dat (Kd.sub (tau t) k).dat) [.no, .bor (.dk (tabD t))]
  | 0, k, _, h => by have := k.deep_pos; omega
  | n + 1, .pl s, ok, h => by
    have e : ((t.lookup s).map Kd.dat).getD (Kd.pl s).dat = (tau t s).dat := by
      unfold tau
      cases t.lookup s <;> rfl
    rw [y_k_pl] at e
    simp [F_put, x_def, x_entry, x_leave, B_put, valD_tab, e, Kd.sub]
  | n + 1, .nd f a b, ⟨hf, oa, ob⟩, h => by
    have dm : 1 + max a.deep b.deep ≤ n + 1 := h
    have ea := put_ok t n a oa (by omega)
    have eb := put_ok t n b ob (by omega)
    simp [F_put, x_def, x_entry, x_leave, B_put, form_ne hf, ea, eb, Kd.sub]
/-! ### both share -/
def PB (x : Kd × Kd) : Prop := x.1.ok ∧ x.2.ok ∧ x.1.deep ≤ 40 ∧ x.2.deep ≤ 40
theorem pd_lay {x : Kd × Kd} (h : PB x) : (pd x).canLay0 = true ∧ (pd x).depth ≤ 45 := by
  refine ⟨?_, ?_⟩
  · show (x.1.dat.canLay0 && (x.2.dat.canLay0 && true)) = true
    rw [Kd.lay h.1, Kd.lay h.2.1]
    rfl
  · show max x.1.dat.depth (max x.2.dat.depth 0) + 1 ≤ 45
    rw [Kd.dat_depth, Kd.dat_depth]
    have := h.2.2.1
    have := h.2.2.2
    omega
theorem pds_lay : ∀ {ps : List (Kd × Kd)}, (∀ x ∈ ps, PB x) → PyData.canLayAll0 (ps.map pd) = true ∧ PyData.depthAll (ps.map pd) ≤ 45
  | [], _ => ⟨rfl, by decide⟩
  | x :: ps, h => by
    obtain ⟨h1, h2⟩ := pds_lay fun y hy => h y (List.mem_cons_of_mem _ hy)
    obtain ⟨g1, g2⟩ := pd_lay (h x List.mem_cons_self)
    refine ⟨?_, ?_⟩
    · show ((pd x).canLay0 && PyData.canLayAll0 (ps.map pd)) = true
      rw [g1, h1]
      rfl
    · show max (pd x).depth (PyData.depthAll (ps.map pd)) ≤ 45
      omega
theorem idx_pd {ps : List (Kd × Kd)} {x : Kd × Kd} (h : ∀ y ∈ ps, PB y) (hx : x ∈ ps) : idxO (.ls (ps.map pd)) (.dat (pd x)) = some (.dat (.int ((idxP ps x : Nat) : Int))) := by
  have s1 : SeqAt.shaped (.list (ps.map pd)) = true := shaped_list (pds_lay h).1 (by have := (pds_lay h).2; omega)
  have s2 : SeqAt.shaped (pd x) = true := by
    show ((pd x).canLay0 && decide ((pd x).depth ≤ 64)) = true
    rw [(pd_lay (h x hx)).1, decide_eq_true (by have := (pd_lay (h x hx)).2; omega)]
    rfl
  show (if SeqAt.shaped (.list (ps.map pd)) = true ∧ SeqAt.shaped (pd x) = true then _ else none) = _
  rw [if_pos ⟨s1, s2⟩]
  have e : (ps.map pd).findIdx? (fun z => PyData.eqv z (pd x)) = some (idxP ps x) := by
    rw [List.findIdx?_map]
    have l := idxP_lt hx
    have : ps.findIdx? (same2 x) = some (ps.findIdx (same2 x)) := by
      rw [List.findIdx?_eq_some_iff_findIdx_eq]
      exact ⟨l, rfl⟩
    exact this
  rw [e]
  rfl
theorem any_pd (ps : List (Kd × Kd)) (x : Kd × Kd) : ((ps.map pd).any fun z => PyData.eqv z (pd x)) = ps.any (same2 x) := by
  rw [List.any_map]
  rfl
theorem nin_pd {ps : List (Kd × Kd)} {x : Kd × Kd} (hx : PB x) : ninO (.dat (pd x)) (.ls (ps.map pd)) = some (.dat (.bool (!ps.any (same2 x)))) := by
  rw [x_nin_3, if_pos (by have := (pd_lay hx).2; omega), any_pd]
  rfl
theorem abc_at {i : Nat} (h : i < 26) : atI (Str.ofString "abcdefghijklmnopqrstuvwxyz").cps.toList (i : Int) = some (97 + i) := by
  have e : (Str.ofString "abcdefghijklmnopqrstuvwxyz").cps.toList = List.range' 97 26 := by decide +kernel
  rw [e, x_atN _ _ (by rw [List.length_range']; exact h), List.getElem_range']
  simp
theorem abc_small : small (Str.ofString "abcdefghijklmnopqrstuvwxyz").length = true := by rw [abc_len]; rfl
def plS (n : Nat) : List PyData := [.str "plain", .str (letAt n)]
/-- the end of both_share: a pair that is a letter -/
def Leaf (k o : Kd) (p : List (Kd × Kd)) : Prop := shr k o p = (.pl (letAt (idxP (addP p (k, o)) (k, o))), addP p (k, o))
theorem share_leaf (F : FF) (n : Nat) (k o : Kd) (p : List (Kd × Kd)) (hp : ∀ x ∈ p, PB x) (hb : PB (k, o)) (hl : p.length + 1 ≤ 26)
    (h1 : andT (tstF (op2 eqO (tmpF (ixS 0 (cF (.int 0)))) (tmpF (ixS 1 (cF (.int 0)))))) (tstF (op2 neO (tmpF (ixS 0 (cF (.int 0)))) (tmpF (cF (.str "plain"))))) [.val (.dat k.dat), .val (.dat o.dat), .bor (.ls (p.map pd))] = .ok false [.val (.dat k.dat), .val (.dat o.dat), .bor (.ls (p.map pd))]) :
    B_both_share F [.val (.dat k.dat), .val (.dat o.dat), .bor (.ls (p.map pd))] = .rt (.dat (Kd.pl (letAt (idxP (addP p (k, o)) (k, o)))).dat) [.val (.dat k.dat), .val (.dat o.dat), .bor (.ls ((addP p (k, o)).map pd))] := by
  have e1 := nin_pd (ps := p) hb
  have hpb : ∀ x ∈ addP p (k, o), PB x := fun x hx => by
    unfold addP at hx
    split at hx
    · exact hp x hx
    · rcases List.mem_append.mp hx with z | z
      · exact hp x z
      · rw [List.mem_singleton.mp z]
        exact hb
  have e2 := idx_pd hpb (addP_mem p (k, o))
  have l2 := idxP_lt (addP_mem p (k, o))
  have l3 := addP_len p (k, o)
  have e3 := abc_at (i := idxP (addP p (k, o)) (k, o)) (by omega)
  have hz : small (p.length + 1) = true := small_of (by omega)
  have ep : pd (k, o) = .tuple [k.dat, o.dat] := rfl
  rw [ep] at e1 e2
  have el : (⟨#[97 + idxP (addP p (k, o)) (k, o)]⟩ : Str) = letAt (idxP (addP p (k, o)) (k, o)) := rfl
  unfold B_both_share
  rw [x_seqS, x_ifS, h1]
  by_cases c : p.any (same2 (k, o)) = true
  · have ea : addP p (k, o) = p := by unfold addP; rw [if_pos c]
    rw [ea] at e2 e3 el ⊢
    simp [e1, e2, e3, el, c, abc_small]
  · have ea : addP p (k, o) = p ++ [(k, o)] := by unfold addP; rw [if_neg c]
    have c2 : p.any (same2 (k, o)) = false := by simpa using c
    rw [ea, List.map_append, List.map_singleton, ep] at e2
    rw [ea] at e3 el
    rw [ea, List.map_append, List.map_singleton, ep]
    simp [e1, e2, e3, el, c2, abc_small, hz]
end Fn

namespace Fn
open PySem PySem.Spec PyProof.Rows L2 Ww Vs
theorem Form.neP {f : Str} (h : Form f) : f ≠ Str.ofString "plain" := fun z => by
  have := form_ne h
  rw [z] at this
  simp at this
theorem share_pb : ∀ (k o : Kd) (p : List (Kd × Kd)), (∀ x ∈ p, PB x) → PB (k, o) → ∀ x ∈ (shr k o p).2, PB x := by
  have leaf : ∀ (k o : Kd) (p : List (Kd × Kd)), (∀ x ∈ p, PB x) → PB (k, o) → ∀ x ∈ addP p (k, o), PB x := fun k o p hp hb x hx => by
    unfold addP at hx
    split at hx
    · exact hp x hx
    · rcases List.mem_append.mp hx with z | z
      · exact hp x z
      · rw [List.mem_singleton.mp z]
        exact hb
  intro k
  induction k with
  | pl s => exact fun o p hp hb => leaf _ _ p hp hb
  | nd f a b iha ihb =>
    intro o p hp hb
    cases o with
    | pl t => exact leaf _ _ p hp hb
    | nd g c d =>
      unfold shr
      split
      · obtain ⟨⟨_, oa, ob⟩, ⟨_, oc, od⟩, h1, h2⟩ := hb
        have h1 : 1 + max a.deep b.deep ≤ 40 := h1
        have h2 : 1 + max c.deep d.deep ≤ 40 := h2
        exact ihb d _ (iha c p hp ⟨oa, oc, by show a.deep ≤ 40; omega, by show c.deep ≤ 40; omega⟩) ⟨ob, od, by show b.deep ≤ 40; omega, by show d.deep ≤ 40; omega⟩
      · exact leaf _ _ p hp hb
theorem share_ok : ∀ (n : Nat) (k o : Kd) (p : List (Kd × Kd)), (∀ x ∈ p, PB x) → PB (k, o) → k.deep ≤ n → p.length + k.letters.length ≤ 26 →
    F_both_share n [.dat k.dat, .dat o.dat, .ls (p.map pd)] = .ok (.dat (shr k o p).1.dat) [.no, .no, .bor (.ls ((shr k o p).2.map pd))]
  | 0, k, o, p, _, _, h, _ => by have := k.deep_pos; omega
  | n + 1, .pl s, o, p, hp, hb, h, hl => by
    have b := share_leaf (F_both_share n) 0 (.pl s) o p hp hb hl (by cases o <;> simp)
    simp [F_both_share, x_def, x_entry, x_leave] at b ⊢
    rw [b]
    simp [shr, x_leave]
  | n + 1, .nd f a b, .pl t, p, hp, hb, h, hl => by
    have hf : Form f := hb.1.1
    have := (Kd.nd f a b).letters_pos
    have hn := form_ne hf
    have b := share_leaf (F_both_share n) 0 (.nd f a b) (.pl t) p hp hb (by omega) (by simp [Form.neP hf])
    simp [F_both_share, x_def, x_entry, x_leave] at b ⊢
    rw [b]
    simp [shr, x_leave]
  | n + 1, .nd f a b, .nd g c d, p, hp, hb, h, hl => by
    have hf : Form f := hb.1.1
    have hpos := (Kd.nd f a b).letters_pos
    by_cases e : f = g
    · subst e
      have pbs := share_pb a c p hp
      obtain ⟨⟨_, oa, ob⟩, ⟨_, oc, od⟩, h1, h2⟩ := hb
      have h1 : 1 + max a.deep b.deep ≤ 40 := h1
      have h2 : 1 + max c.deep d.deep ≤ 40 := h2
      have dm : 1 + max a.deep b.deep ≤ n + 1 := h
      have hl : p.length + (a.letters ++ b.letters).length ≤ 26 := hl
      rw [List.length_append] at hl
      have pb1 : PB (a, c) := ⟨oa, oc, by show a.deep ≤ 40; omega, by show c.deep ≤ 40; omega⟩
      have pb2 : PB (b, d) := ⟨ob, od, by show b.deep ≤ 40; omega, by show d.deep ≤ 40; omega⟩
      have l1 := shr_len a c p
      have e1 := share_ok n a c p hp pb1 (by omega) (by omega)
      have e2 := share_ok n b d (shr a c p).2 (pbs pb1) pb2 (by omega) (by omega)
      have er : shr (.nd f a b) (.nd f c d) p = (.nd f (shr a c p).1 (shr b d (shr a c p).2).1, (shr b d (shr a c p).2).2) := by rw [shr, if_pos rfl]
      rw [er]
      simp [F_both_share, x_def, x_entry, x_leave, B_both_share, form_ne hf, e1, e2, Form.neP hf]
    · have e2 : (f == g) = false := by simpa using e
      have b := share_leaf (F_both_share n) 0 (.nd f a b) (.nd g c d) p hp hb (by omega) (by simp [e])
      simp [F_both_share, x_def, x_entry, x_leave] at b ⊢
      rw [b]
      simp [shr, e, x_leave]
theorem common_ok (k o : Kd) (hb : PB (k, o)) (d1 : k.deep ≤ 30) (d2 : o.deep ≤ 30) (hl : k.letters.length ≤ 26) : F_common [.dat k.dat, .dat o.dat] = .ok (.dat (shr k o []).1.dat) [.no, .no] := by
  have e1 := checked_kinds_ok [k, o] fun z hz => by
    rcases List.mem_cons.mp hz with rfl | hz
    · exact ⟨hb.1, d1⟩
    · rw [List.mem_singleton.mp hz]
      exact ⟨hb.2.1, d2⟩
  have e2 := share_ok 30 k o [] (fun _ z => nomatch z) hb d1 (by simpa using hl)
  simp at e1 e2
  simp [F_common, x_def, x_entry, x_leave, B_common, e1, e2]
/-! ### matches: when the one is the other by a table -/
theorem con_mid {t x y : List (Str × Kd)} (h : Con (t ++ (x ++ y))) : Con (t ++ x) := h.sub fun z hz => by
  rcases List.mem_append.mp hz with z | z
  · exact List.mem_append_left _ z
  · exact List.mem_append_right _ (List.mem_append_left _ z)
/-- a table is told by its pairs -/
def TabI (t : List (Str × Kd)) (ps : List (Str × Kd)) : Prop := Ww.Good t ∧ ∀ x, x ∈ t ↔ x ∈ ps
theorem lookup_tab : ∀ {t : List (Str × Kd)} (s : Str), (t.lookup s = none → ∀ k, (s, k) ∉ t) ∧ ∀ k, t.lookup s = some k → (s, k) ∈ t
  | [], s => ⟨fun _ _ => by simp, fun _ h => by simp at h⟩
  | (a, x) :: t, s => by
    obtain ⟨h1, h2⟩ := lookup_tab (t := t) s
    rw [List.lookup_cons]
    by_cases h : s = a
    · subst h
      simp
    · have e : (s == a) = false := by simpa using h
      rw [e]
      refine ⟨fun z k m => ?_, fun k z => List.mem_cons_of_mem _ (h2 k z)⟩
      rcases List.mem_cons.mp m with m | m
      · exact h (Prod.mk.inj m).1
      · exact h1 z k m
theorem putD_new {t : List (Str × Kd)} {s : Str} {k : Kd} (h : t.lookup s = none) : putD (tabD t) (.inr s) k.dat = tabD (t ++ [(s, k)]) := by
  unfold putD
  rw [if_neg]
  · simp [tabD]
  · intro z
    obtain ⟨y, hy, e⟩ := List.any_eq_true.mp z
    obtain ⟨w, hw, rfl⟩ := List.mem_map.mp hy
    have e2 : w.1 = s := by simpa using e
    exact (lookup_tab s).1 h w.2 (by rw [← e2]; exact hw)
theorem matches_ok : ∀ (n : Nat) (k o : Kd) (t ps qs : List (Str × Kd)), k.ok → k.deep ≤ n → k.deep ≤ 40 → o.deep ≤ 40 → (∀ x ∈ t, x.2.deep ≤ 40) → TabI t qs → prs k o = some ps → Con (qs ++ ps) → t.length + k.letters.length ≤ 1000 →
    ∃ t', TabI t' (qs ++ ps) ∧ t'.length ≤ t.length + k.letters.length ∧ (∀ x ∈ t', x.2.deep ≤ 40) ∧ F_matches n [.dat k.dat, .dat o.dat, .dk (tabD t)] = .ok (.dat (.bool true)) [.no, .no, .bor (.dk (tabD t'))]
  | 0, k, _, _, _, _, _, h, _, _, _, _, _, _, _ => by have := k.deep_pos; omega
  | n + 1, .pl s, o, t, ps, qs, ok, h, hk4, h4, ht4, hT, hp, hc, hl => by
    have hp : some [(s, o)] = some ps := hp
    cases Option.some.inj hp
    have hd : o.dat.depth ≤ 64 := by rw [o.dat_depth]; omega
    have he : PyData.eqv o.dat o.dat = true := (kd_eqv o o).2 rfl
    have hz : small ((tabD t).length + 1) = true := small_of (by unfold tabD; rw [List.length_map]; have := (Kd.pl s).letters_pos; omega)
    cases hlk : t.lookup s with
    | some x =>
      have hx := (lookup_tab s).2 x hlk
      have ex : x = o := hc s x o (List.mem_append_left _ ((hT.2 _).1 hx)) (List.mem_append_right _ (List.mem_singleton.mpr rfl))
      subst ex
      refine ⟨t, ⟨hT.1, fun y => ?_⟩, by omega, ht4, ?_⟩
      · rw [hT.2, List.mem_append, List.mem_singleton]
        refine ⟨.inl, fun z => z.elim id fun z => ?_⟩
        rw [z]
        exact (hT.2 _).1 hx
      · have hv : valD (tabD t) (.inr s) = some x.dat := by rw [valD_tab, hlk]; rfl
        simp [F_matches, x_def, x_entry, x_leave, B_matches, hv, hz, hd, he]
    | none =>
      have hv : valD (tabD t) (.inr s) = none := by rw [valD_tab, hlk]; rfl
      have hn := (lookup_tab s).1 hlk
      refine ⟨t ++ [(s, o)], ⟨?_, fun y => ?_⟩, ?_, ?_, ?_⟩
      · unfold Ww.Good
        rw [List.map_append, List.nodup_append]
        refine ⟨hT.1, by simp, fun a ha b hb z => ?_⟩
        obtain ⟨w, hw, rfl⟩ := List.mem_map.mp ha
        have hb' : b = s := by simpa using hb
        exact hn w.2 (by rw [← hb', ← z]; exact hw)
      · rw [List.mem_append, List.mem_append, hT.2]
      · rw [List.length_append]
        exact Nat.le_refl _
      · intro y hy
        rcases List.mem_append.mp hy with z | z
        · exact ht4 y z
        · rw [List.mem_singleton.mp z]
          exact h4
      · have hp2 := putD_new (k := o) hlk
        simp [F_matches, x_def, x_entry, x_leave, B_matches, hv, hz, hd, he, hp2]
  | n + 1, .nd f a b, .pl u, t, ps, qs, ok, h, hk4, h4, ht4, hT, hp, hc, hl => nomatch hp
  | n + 1, .nd f a b, .nd g c d, t, ps, qs, ⟨hf, oa, ob⟩, h, hk4, h4, ht4, hT, hp, hc, hl => by
    have hp : (if f = g then (match prs a c, prs b d with
      | some x, some y => some (x ++ y)
      | _, _ => none) else none) = some ps := hp
    by_cases e : f = g
    · subst e
      rw [if_pos rfl] at hp
      have dm : 1 + max a.deep b.deep ≤ n + 1 := h
      have hk4 : 1 + max a.deep b.deep ≤ 40 := hk4
      have h4 : 1 + max c.deep d.deep ≤ 40 := h4
      have hl : t.length + (a.letters ++ b.letters).length ≤ 1000 := hl
      rw [List.length_append] at hl
      cases h1 : prs a c with
      | none => rw [h1] at hp; cases hp
      | some xs =>
        cases h2 : prs b d with
        | none => rw [h1, h2] at hp; cases hp
        | some ys =>
          rw [h1, h2] at hp
          cases Option.some.inj hp
          obtain ⟨t1, T1, l1, d1, e1⟩ := matches_ok n a c t xs qs oa (by omega) (by omega) (by omega) ht4 hT h1 (con_mid hc) (by omega)
          rw [← List.append_assoc] at hc
          obtain ⟨t2, T2, l2, d2, e2⟩ := matches_ok n b d t1 ys (qs ++ xs) ob (by omega) (by omega) (by omega) d1 T1 h2 hc (by omega)
          rw [← List.append_assoc]
          refine ⟨t2, T2, ?_, d2, ?_⟩
          · show t2.length ≤ t.length + (a.letters ++ b.letters).length
            rw [List.length_append]
            omega
          · simp [F_matches, x_def, x_entry, x_leave, B_matches, form_ne hf, e1, e2]
    · rw [if_neg e] at hp
      cases hp
/-! ### puts: something, then -/
theorem strKs_tab : ∀ t : List (Str × Kd), strKs (tabD t) = some (t.map fun x => (x.1, x.2.dat))
  | [] => rfl
  | (s, k) :: t => by
    show strKs ((.inr s, k.dat) :: tabD t) = _
    have hr : isRf k.dat = true := by cases k <;> rfl
    unfold strKs
    rw [if_pos hr, strKs_tab t]
    rfl
theorem puts_ok (k o : Kd) (ps : List (Str × Kd)) (h1 : k.ok) (h2 : o.ok) (d1 : k.deep ≤ 30) (d2 : o.deep ≤ 30) (hl : k.letters.length ≤ 63) (hp : prs k o = some ps) (hc : Con ps) :
    ∃ ds, F_puts [.dat k.dat, .dat o.dat] = .ok (.ls ds) [.no, .no] := by
  have e1 := checked_kinds_ok [k, o] fun z hz => by
    rcases List.mem_cons.mp hz with rfl | hz
    · exact ⟨h1, d1⟩
    · rw [List.mem_singleton.mp hz]
      exact ⟨h2, d2⟩
  obtain ⟨t', T, l, _, e2⟩ := matches_ok 30 k o [] ps [] h1 d1 (by omega) (by omega) (fun _ z => nomatch z) ⟨List.nodup_nil, fun x => Iff.rfl⟩ hp (by simpa using hc) (by simp; omega)
  have e3 : ((t'.map fun x => (x.1, x.2.dat)).map (·.1)).Nodup := by
    rw [List.map_map]
    exact T.1
  have e4 : (t'.map fun x => (x.1, x.2.dat)).length < 64 := by rw [List.length_map]; simp at l; omega
  have e5 : sItems 2 [.val (.dat k.dat), .val (.dat o.dat), .val (.dk (tabD t'))] = .ok (.ls ((sortK (t'.map fun x => (x.1, x.2.dat))).map Vs.pairD)) [.val (.dat k.dat), .val (.dat o.dat), .val (.dk (tabD t'))] := by
    rw [x_sItems]
    show ((some (tabD t')).bind strKs).elim _ _ = _
    rw [Option.bind_some, strKs_tab, Option.elim_some, if_pos ⟨e4, e3⟩]
  refine ⟨(sortK (t'.map fun x => (x.1, x.2.dat))).map Vs.pairD, ?_⟩
  have et : (tabD [] : List (L2.Key × PyData)) = [] := rfl
  rw [et] at e2
  simp only [List.map_cons, List.map_nil] at e1
  simp [F_puts, x_def, x_entry, x_leave, B_puts, e1, e2, -x_sItems, e5]
end Fn

namespace Fn
open PySem PySem.Spec PyProof.Rows L2 Ww Vs
theorem Kd.wt_pos : ∀ k : Kd, 1 ≤ k.wt
  | .pl s => Nat.le_refl 1
  | .nd f a b => by show 1 ≤ 1 + a.wt + b.wt; omega
theorem Kd.wt_le : ∀ k : Kd, k.wt + 1 = 2 * k.letters.length
  | .pl s => rfl
  | .nd f a b => by
    show 1 + a.wt + b.wt + 1 = 2 * (a.letters ++ b.letters).length
    have := wt_le a
    have := wt_le b
    rw [List.length_append]
    omega
theorem wt_len : ∀ st : List (Kd × Kd), st.length ≤ (st.map fun x => x.1.wt).sum
  | [] => Nat.le_refl 0
  | x :: st => by
    have := wt_len st
    have := Kd.wt_pos x.1
    rw [List.map_cons, List.sum_cons, List.length_cons]
    omega
theorem putD_tab (t : List (Str × Kd)) (s : Str) (k : Kd) : ∃ t', putD (tabD t) (.inr s) k.dat = tabD t' ∧ (∀ y ∈ t', y ∈ t ∨ y = (s, k)) ∧ t'.length ≤ t.length + 1 := by
  unfold putD
  split
  · refine ⟨t.map fun x => if x.1 = s then (s, k) else x, ?_, fun y hy => ?_, by rw [List.length_map]; omega⟩
    · unfold tabD
      rw [List.map_map, List.map_map]
      apply List.map_congr_left
      intro x _
      by_cases h : x.1 = s <;> simp [h]
    · obtain ⟨x, hx, rfl⟩ := List.mem_map.mp hy
      split
      · exact .inr rfl
      · exact .inl hx
  · refine ⟨t ++ [(s, k)], by simp [tabD], fun y hy => ?_, by simp⟩
    rcases List.mem_append.mp hy with z | z
    · exact .inl z
    · exact .inr (List.mem_singleton.mp z)
theorem tabD_len (t : List (Str × Kd)) : (tabD t).length = t.length := List.length_map ..
/-- k comes to o by parts -/
def ComI (τ : Str → Kd) (k o : Kd) (W m : Nat) (ρ : En) : Prop := ∃ (st : List (Kd × Kd)) (t : List (Str × Kd)) (s4 s5 : Sl), ρ = [.val (.dat k.dat), .val (.dat o.dat), .val (.dk (tabD t)), .val (.ls (st.reverse.map pd)), s4, s5] ∧ m = (st.map fun x => x.1.wt).sum ∧ t.length + m ≤ W ∧
  (∀ x ∈ st, x.1.ok ∧ x.2 = Kd.sub τ x.1 ∧ x.2.deep ≤ 60) ∧ (∀ x ∈ t, x.2 = τ x.1) ∧ Fr s4 ∧ Fr s5
theorem comes_ok (τ : Str → Kd) (k o : Kd) (ok : k.ok) (e : o = Kd.sub τ k) (hd : o.deep ≤ 60) (hl : k.letters.length ≤ 1000) : F_comes_of [.dat k.dat, .dat o.dat] = .ok (.dat (.bool true)) [.no, .no] := by
  have hw := Kd.wt_le k
  obtain ⟨ρ', h1, t, s4, s5, rfl⟩ := while_inv (t := (tstF (op2 neO (slotF 3) (tmpF (lstF (nilA)))))) (body := L1_comes_of) (ComI τ k o k.wt) (fun ρ => ∃ t s4 s5, ρ = [.val (.dat k.dat), .val (.dat o.dat), .val (.dk (tabD t)), .val (.ls []), s4, s5]) (by
    rintro m ρ ⟨st, t, s4, s5, rfl, rfl, hm, hst, ht, h4, h5⟩
    cases st with
    | nil =>
      refine .inl ⟨_, ?_, t, s4, s5, rfl⟩
      simp
    | cons x st =>
      obtain ⟨kx, ox⟩ := x
      obtain ⟨hk, he, hd⟩ := hst (kx, ox) List.mem_cons_self
      have hk : kx.ok := hk
      have he : ox = Kd.sub τ kx := he
      have hd : ox.deep ≤ 60 := hd
      have hr := fun x hx => hst x (List.mem_cons_of_mem _ hx)
      have lst := wt_len st
      have t0 : (tstF (op2 neO (slotF 3) (tmpF (lstF (nilA))))) [.val (.dat k.dat), .val (.dat o.dat), .val (.dk (tabD t)), .val (.ls (((kx, ox) :: st).reverse.map pd)), s4, s5] = .ok true [.val (.dat k.dat), .val (.dat o.dat), .val (.dk (tabD t)), .val (.ls (((kx, ox) :: st).reverse.map pd)), s4, s5] := by simp
      have hm : t.length + (kx.wt + (st.map fun x => x.1.wt).sum) ≤ k.wt := hm
      have wp := Kd.wt_pos kx
      cases kx with
      | pl s =>
        subst he
        show _ ∨ _
        simp only [Kd.sub] at hd
        have hz : small ((tabD t).length + 1) = true := small_of (by rw [tabD_len]; omega)
        have hg : (((t.lookup s).map Kd.dat).getD (τ s).dat) = (τ s).dat := by
          cases hlk : t.lookup s with
          | none => rfl
          | some x =>
            show x.dat = _
            rw [show x = τ s from ht _ ((lookup_tab s).2 x hlk)]
        have hq : PyData.eqv (τ s).dat (τ s).dat = true := (kd_eqv _ _).2 rfl
        have hdd : (τ s).dat.depth ≤ 64 := by rw [Kd.dat_depth]; omega
        obtain ⟨t', e1, e2, e3⟩ := putD_tab t s (τ s)
        refine .inr ⟨_, [.val (.dat k.dat), .val (.dat o.dat), .val (.dk (tabD t')), .val (.ls (st.reverse.map pd)), .val (.dat (Kd.pl s).dat), .val (.dat (τ s).dat)], _, t0, ?_, ?_, st, t', _, _, rfl, rfl, ?_, hr, fun y hy => ?_, .val, .val⟩
        · simp [L1_comes_of, Kd.sub, pd, x_fr h4, x_fr h5, valD_tab, hg, hq, hdd, hz, e1]
        · show (st.map fun x => x.1.wt).sum < 1 + (st.map fun x => x.1.wt).sum
          omega
        · have : t.length + (1 + (st.map fun x => x.1.wt).sum) ≤ k.wt := hm
          omega
        · rcases e2 y hy with z | z
          · exact ht y z
          · rw [z]
      | nd f a b =>
        obtain ⟨hf, oa, ob⟩ := hk
        subst he
        have hz : small (st.length + 1 + 1) = true := small_of (by omega)
        have hz2 : small (st.length + 2) = true := hz
        have hd : 1 + max (Kd.sub τ a).deep (Kd.sub τ b).deep ≤ 60 := hd
        have hm : t.length + (1 + a.wt + b.wt + (st.map fun x => x.1.wt).sum) ≤ k.wt := hm
        refine .inr ⟨_, [.val (.dat k.dat), .val (.dat o.dat), .val (.dk (tabD t)), .val (.ls (((b, Kd.sub τ b) :: (a, Kd.sub τ a) :: st).reverse.map pd)), .val (.dat (Kd.nd f a b).dat), .val (.dat (Kd.sub τ (Kd.nd f a b)).dat)], _, t0, ?_, ?_, (b, Kd.sub τ b) :: (a, Kd.sub τ a) :: st, t, _, _, rfl, rfl, ?_, ?_, ht, .val, .val⟩
        · simp [L1_comes_of, Kd.sub, pd, x_fr h4, x_fr h5, hz, hz2, form_ne hf]
        · show b.wt + (a.wt + (st.map fun x => x.1.wt).sum) < 1 + a.wt + b.wt + (st.map fun x => x.1.wt).sum
          omega
        · show t.length + (b.wt + (a.wt + (st.map fun x => x.1.wt).sum)) ≤ k.wt
          omega
        · intro x hx
          rcases List.mem_cons.mp hx with rfl | hx
          · exact ⟨ob, rfl, by show (Kd.sub τ b).deep ≤ 60; omega⟩
          · rcases List.mem_cons.mp hx with rfl | hx
            · exact ⟨oa, rfl, by show (Kd.sub τ a).deep ≤ 60; omega⟩
            · exact hr x hx) (m := k.wt) (ρ := [.val (.dat k.dat), .val (.dat o.dat), .val (.dk (tabD [])), .val (.ls [pd (k, o)]), .no, .no]) ⟨[(k, o)], [], .no, .no, rfl, by simp, by simp, fun x hx => by rw [List.mem_singleton.mp hx]; exact ⟨ok, e, hd⟩, (fun _ z => nomatch z), .no, .no⟩
  have et : (tabD [] : List (L2.Key × PyData)) = [] := rfl
  have ep : pd (k, o) = .tuple [k.dat, o.dat] := rfl
  rw [et, ep] at h1
  simp [F_comes_of, x_def, x_entry, x_leave, B_comes_of, h1]
end Fn

namespace Fn
open PySem PySem.Spec PyProof.Rows L2 Ww Vs
def rwD : Str ⊕ (Kd × Kd) → PyData
  | .inl f => .tuple [.str f, .none]
  | .inr x => .tuple [.str "plain", pd x]
theorem rw2_len : ∀ k o : Kd, (rw2 k o).length ≤ k.wt
  | .pl s, o => Nat.le_refl 1
  | .nd f a b, .pl t => by show 1 ≤ 1 + a.wt + b.wt; omega
  | .nd f a b, .nd g c d => by
    have := rw2_len a c
    have := rw2_len b d
    unfold rw2
    split
    · rw [List.length_cons, List.length_append]
      show _ ≤ 1 + a.wt + b.wt
      omega
    · show 1 ≤ 1 + a.wt + b.wt
      omega
def DueI (k o : Kd) (m : Nat) (ρ : En) : Prop := ∃ (st : List (Kd × Kd)) (done : List (Str ⊕ (Kd × Kd))) (s4 s5 : Sl), ρ = [.val (.dat k.dat), .val (.dat o.dat), .val (.ls (done.map rwD)), .val (.ls (st.reverse.map pd)), s4, s5, .no, .no, .no] ∧ m = (st.map fun x => x.1.wt).sum ∧
  done ++ (st.flatMap fun x => rw2 x.1 x.2) = rw2 k o ∧ done.length + m ≤ k.wt ∧ (∀ x ∈ st, x.1.ok ∧ x.2.ok) ∧ Fr s4 ∧ Fr s5
theorem due_rows (k o : Kd) (ok : k.ok) (ok2 : o.ok) (hl : k.letters.length ≤ 1000) : ∃ s4 s5, Fr s4 ∧ Fr s5 ∧
    whileS (tstF (op2 neO (slotF 3) (tmpF (lstF (nilA))))) L1_due [.val (.dat k.dat), .val (.dat o.dat), .val (.ls []), .val (.ls [pd (k, o)]), .no, .no, .no, .no, .no] = .nx [.val (.dat k.dat), .val (.dat o.dat), .val (.ls ((rw2 k o).map rwD)), .val (.ls []), s4, s5, .no, .no, .no] := by
  have hw := Kd.wt_le k
  obtain ⟨ρ', h1, s4, s5, f4, f5, rfl⟩ := while_inv (t := (tstF (op2 neO (slotF 3) (tmpF (lstF (nilA)))))) (body := L1_due) (DueI k o) (fun ρ => ∃ s4 s5, Fr s4 ∧ Fr s5 ∧ ρ = [.val (.dat k.dat), .val (.dat o.dat), .val (.ls ((rw2 k o).map rwD)), .val (.ls []), s4, s5, .no, .no, .no]) (by
    rintro m ρ ⟨st, done, s4, s5, rfl, rfl, hall, hm, hst, h4, h5⟩
    cases st with
    | nil =>
      rw [List.flatMap_nil, List.append_nil] at hall
      refine .inl ⟨_, ?_, s4, s5, h4, h5, rfl⟩
      simp [hall]
    | cons x st =>
      obtain ⟨kx, ox⟩ := x
      obtain ⟨hk, ho⟩ := hst (kx, ox) List.mem_cons_self
      have hk : kx.ok := hk
      have ho : ox.ok := ho
      have hr := fun x hx => hst x (List.mem_cons_of_mem _ hx)
      have lst := wt_len st
      have t0 : (tstF (op2 neO (slotF 3) (tmpF (lstF (nilA))))) [.val (.dat k.dat), .val (.dat o.dat), .val (.ls (done.map rwD)), .val (.ls (((kx, ox) :: st).reverse.map pd)), s4, s5, .no, .no, .no] = .ok true [.val (.dat k.dat), .val (.dat o.dat), .val (.ls (done.map rwD)), .val (.ls (((kx, ox) :: st).reverse.map pd)), s4, s5, .no, .no, .no] := by simp
      have hm : done.length + (kx.wt + (st.map fun x => x.1.wt).sum) ≤ k.wt := hm
      have wp := Kd.wt_pos kx
      have hz : small (done.length + 1) = true := small_of (by omega)
      have leaf : rw2 kx ox = [.inr (kx, ox)] → (andT (tstF (op2 eqO (tmpF (ixS 4 (cF (.int 0)))) (tmpF (ixS 5 (cF (.int 0)))))) (tstF (op2 neO (tmpF (ixS 4 (cF (.int 0)))) (tmpF (cF (.str "plain")))))) [.val (.dat k.dat), .val (.dat o.dat), .val (.ls (done.map rwD)), .val (.ls (st.reverse.map pd)), .val (.dat kx.dat), .val (.dat ox.dat), .no, .no, .no] = .ok false [.val (.dat k.dat), .val (.dat o.dat), .val (.ls (done.map rwD)), .val (.ls (st.reverse.map pd)), .val (.dat kx.dat), .val (.dat ox.dat), .no, .no, .no] →
          ∃ ρ1 ρ2 m', tstF (op2 neO (slotF 3) (tmpF (lstF (nilA)))) [.val (.dat k.dat), .val (.dat o.dat), .val (.ls (done.map rwD)), .val (.ls (((kx, ox) :: st).reverse.map pd)), s4, s5, .no, .no, .no] = .ok true ρ1 ∧ L1_due ρ1 = .nx ρ2 ∧ m' < (((kx, ox) :: st).map fun x => x.1.wt).sum ∧ DueI k o m' ρ2 := by
        intro hrw hc
        refine ⟨_, [.val (.dat k.dat), .val (.dat o.dat), .val (.ls ((done ++ [Sum.inr (kx, ox)]).map rwD)), .val (.ls (st.reverse.map pd)), .val (.dat kx.dat), .val (.dat ox.dat), .no, .no, .no], _, t0, ?_, ?_, st, done ++ [.inr (kx, ox)], _, _, rfl, rfl, ?_, ?_, hr, .val, .val⟩
        · have ep : pd (kx, ox) = .tuple [kx.dat, ox.dat] := rfl
          have e0 : asgS (tupT 2 (consTs (nmT 4) (consTs (nmT 5) (nilTs)))) (mm0 3 popO) [.val (.dat k.dat), .val (.dat o.dat), .val (.ls (done.map rwD)), .val (.ls (((kx, ox) :: st).reverse.map pd)), s4, s5, .no, .no, .no] = .nx [.val (.dat k.dat), .val (.dat o.dat), .val (.ls (done.map rwD)), .val (.ls (st.reverse.map pd)), .val (.dat kx.dat), .val (.dat ox.dat), .no, .no, .no] := by simp [ep, x_fr h4, x_fr h5]
          unfold L1_due
          rw [x_seqS, e0, x_seq_nx, x_ifS, hc]
          simp [hz, rwD, ep]
        · show (st.map fun x => x.1.wt).sum < kx.wt + (st.map fun x => x.1.wt).sum
          omega
        · rw [← hall, List.flatMap_cons, hrw, List.append_assoc]
        · rw [List.length_append]
          show done.length + 1 + _ ≤ _
          omega
      refine .inr ?_
      cases kx with
      | pl s => exact leaf rfl (by cases ox <;> simp)
      | nd f a b =>
        obtain ⟨hf, oa, ob⟩ := hk
        cases ox with
        | pl t => exact leaf rfl (by simp [Form.neP hf])
        | nd g c d =>
          by_cases e : f = g
          · subst e
            obtain ⟨_, oc, od⟩ := ho
            have hm : done.length + (1 + a.wt + b.wt + (st.map fun x => x.1.wt).sum) ≤ k.wt := hm
            have hz2 : small (st.length + 2) = true := small_of (by omega)
            refine ⟨_, [.val (.dat k.dat), .val (.dat o.dat), .val (.ls ((done ++ [Sum.inl f]).map rwD)), .val (.ls (((a, c) :: (b, d) :: st).reverse.map pd)), .val (.dat (Kd.nd f a b).dat), .val (.dat (Kd.nd f c d).dat), .no, .no, .no], _, t0, ?_, ?_, (a, c) :: (b, d) :: st, done ++ [.inl f], _, _, rfl, rfl, ?_, ?_, ?_, .val, .val⟩
            · simp [L1_due, pd, x_fr h4, x_fr h5, hz, hz2, form_ne hf, Form.neP hf, rwD]
            · show a.wt + (b.wt + (st.map fun x => x.1.wt).sum) < 1 + a.wt + b.wt + (st.map fun x => x.1.wt).sum
              omega
            · rw [← hall]
              have er : rw2 (.nd f a b) (.nd f c d) = .inl f :: (rw2 a c ++ rw2 b d) := by rw [rw2, if_pos rfl]
              simp [er]
            · rw [List.length_append]
              show done.length + 1 + (a.wt + (b.wt + (st.map fun x => x.1.wt).sum)) ≤ k.wt
              omega
            · intro x hx
              rcases List.mem_cons.mp hx with rfl | hx
              · exact ⟨oa, oc⟩
              · rcases List.mem_cons.mp hx with rfl | hx
                · exact ⟨ob, od⟩
                · exact hr x hx
          · exact leaf (by rw [rw2, if_neg e]) (by simp [e])) (m := k.wt) (ρ := [.val (.dat k.dat), .val (.dat o.dat), .val (.ls []), .val (.ls [pd (k, o)]), .no, .no, .no, .no, .no]) ⟨[(k, o)], [], .no, .no, rfl, by simp, by simp, by simp, fun x hx => by rw [List.mem_singleton.mp hx]; exact ⟨ok, ok2⟩, .no, .no⟩
  exact ⟨s4, s5, f4, f5, h1⟩
theorem addP_pb {p : List (Kd × Kd)} {x : Kd × Kd} (hp : ∀ y ∈ p, PB y) (hx : PB x) : ∀ y ∈ addP p x, PB y := fun y hy => by
  unfold addP at hy
  split at hy
  · exact hp y hy
  · rcases List.mem_append.mp hy with z | z
    · exact hp y z
    · rw [List.mem_singleton.mp z]
      exact hx
theorem form_pl {f : Str} (h : Form f) : ¬ f = Str.ofString "plain" := Form.neP h
theorem due_pairs (d0 d1 d2 d3 : O) (s4 s5 : Sl) : ∀ (rows : List (Str ⊕ (Kd × Kd))) (p : List (Kd × Kd)) (s7 : Sl), (∀ x, .inr x ∈ rows → PB x) → (∀ f, .inl f ∈ rows → Form f) → (∀ x ∈ p, PB x) → p.length + rows.length ≤ 1000 → Fr s7 →
    ∃ s7', Fr s7' ∧ loopF (nmT 7) L2_due (rows.map rwD) [.val d0, .val d1, .val d2, .val d3, s4, s5, .val (.ls (p.map pd)), s7, .no] = .nx [.val d0, .val d1, .val d2, .val d3, s4, s5, .val (.ls ((allP p rows).map pd)), s7', .no]
  | [], p, s7, _, _, _, _, h7 => ⟨s7, h7, rfl⟩
  | .inl f :: rows, p, s7, h1, h2, h3, hl, h7 => by
    have hf := h2 f List.mem_cons_self
    rw [List.length_cons] at hl
    obtain ⟨s7', h8, ih⟩ := due_pairs d0 d1 d2 d3 s4 s5 rows p (.val (.dat (rwD (.inl f)))) (fun x hx => h1 x (List.mem_cons_of_mem _ hx)) (fun x hx => h2 x (List.mem_cons_of_mem _ hx)) h3 (by omega) .val
    refine ⟨s7', h8, ?_⟩
    rw [List.map_cons, loop_nx (ρ1 := [.val d0, .val d1, .val d2, .val d3, s4, s5, .val (.ls (p.map pd)), .val (.dat (rwD (.inl f))), .no]) (ρ2 := [.val d0, .val d1, .val d2, .val d3, s4, s5, .val (.ls (p.map pd)), .val (.dat (rwD (.inl f))), .no]) (by simp [x_fr h7]) (.inl (by simp [L2_due, rwD, form_pl hf])), ih]
    rfl
  | .inr x :: rows, p, s7, h1, h2, h3, hl, h7 => by
    have hx := h1 x List.mem_cons_self
    rw [List.length_cons] at hl
    have la := addP_len p x
    obtain ⟨s7', h8, ih⟩ := due_pairs d0 d1 d2 d3 s4 s5 rows (addP p x) (.val (.dat (rwD (.inr x)))) (fun x hx => h1 x (List.mem_cons_of_mem _ hx)) (fun x hx => h2 x (List.mem_cons_of_mem _ hx)) (addP_pb h3 hx) (by omega) .val
    have hz : small (p.length + 1) = true := small_of (by omega)
    have hn := nin_pd (ps := p) hx
    refine ⟨s7', h8, ?_⟩
    have hb : L2_due [.val d0, .val d1, .val d2, .val d3, s4, s5, .val (.ls (p.map pd)), .val (.dat (rwD (.inr x))), .no] = .nx [.val d0, .val d1, .val d2, .val d3, s4, s5, .val (.ls ((addP p x).map pd)), .val (.dat (rwD (.inr x))), .no] := by
      unfold addP
      cases c : p.any (same2 x) with
      | true =>
        rw [c] at hn
        simp [L2_due, rwD, hn, -x_nin_3]
      | false =>
        rw [c] at hn
        simp [L2_due, rwD, hn, hz, -x_nin_3]
    rw [List.map_cons, loop_nx (ρ1 := [.val d0, .val d1, .val d2, .val d3, s4, s5, .val (.ls (p.map pd)), .val (.dat (rwD (.inr x))), .no]) (by simp [x_fr h7]) (.inl hb), ih]
    rfl
/-- the fold, from the last row on -/
def envD (d0 d1 d2 d3 : O) (s4 s5 : Sl) (p : List (Kd × Kd)) (s7 : Sl) (st : List Kd) : En := [.val d0, .val d1, .val d2, .val d3, s4, s5, .val (.ls (p.map pd)), s7, .val (.ls (st.reverse.map Kd.dat))]
theorem due_leaf (d0 d1 d2 d3 : O) (s4 s5 s7 : Sl) (p : List (Kd × Kd)) (hp : ∀ x ∈ p, PB x) (p26 : p.length ≤ 26) (x : Kd × Kd) (hx : x ∈ p) (rows : List (Str ⊕ (Kd × Kd))) (st : List Kd) (hl : st.length ≤ 1000) (h7 : Fr s7) :
    loopF (nmT 7) L3_due ((.inr x :: rows).map rwD) (envD d0 d1 d2 d3 s4 s5 p s7 st) = loopF (nmT 7) L3_due (rows.map rwD) (envD d0 d1 d2 d3 s4 s5 p (.val (.dat (rwD (.inr x)))) (.pl (letAt (idxP p x)) :: st)) := by
  have e2 := idx_pd hp hx
  have l2 := idxP_lt hx
  have e3 := abc_at (i := idxP p x) (by omega)
  have el : (⟨#[97 + idxP p x]⟩ : Str) = letAt (idxP p x) := rfl
  have hz : small (st.length + 1) = true := small_of (by omega)
  unfold envD
  rw [List.map_cons, loop_nx (ρ1 := [.val d0, .val d1, .val d2, .val d3, s4, s5, .val (.ls (p.map pd)), .val (.dat (rwD (.inr x))), .val (.ls (st.reverse.map Kd.dat))]) (ρ2 := [.val d0, .val d1, .val d2, .val d3, s4, s5, .val (.ls (p.map pd)), .val (.dat (rwD (.inr x))), .val (.ls ((Kd.pl (letAt (idxP p x)) :: st).reverse.map Kd.dat))]) (by simp [x_fr h7]) (.inl (by simp [L3_due, rwD, e2, e3, el, abc_small, hz]))]
theorem due_tree (d0 d1 d2 d3 : O) (s5 : Sl) (p : List (Kd × Kd)) (hp : ∀ x ∈ p, PB x) (p26 : p.length ≤ 26) : ∀ (k o : Kd) (rows : List (Str ⊕ (Kd × Kd))) (st : List Kd) (s4 s7 : Sl), k.ok → (∀ x, .inr x ∈ rw2 k o → x ∈ p) → st.length + k.wt ≤ 1000 → Fr s4 → Fr s7 →
    ∃ s4' s7', Fr s4' ∧ Fr s7' ∧ loopF (nmT 7) L3_due (((rw2 k o).reverse ++ rows).map rwD) (envD d0 d1 d2 d3 s4 s5 p s7 st) = loopF (nmT 7) L3_due (rows.map rwD) (envD d0 d1 d2 d3 s4' s5 p s7' (tree2 p k o :: st)) := by
  intro k
  induction k with
  | pl s =>
    intro o rows st s4 s7 ok hin hl h4 h7
    have lp := Kd.wt_pos (.pl s)
    exact ⟨_, _, h4, .val, due_leaf d0 d1 d2 d3 s4 s5 s7 p hp p26 (.pl s, o) (hin _ List.mem_cons_self) rows st (by omega) h7⟩
  | nd f a b iha ihb =>
    intro o rows st s4 s7 ok hin hl h4 h7
    have lp := Kd.wt_pos (.nd f a b)
    cases o with
    | pl t => exact ⟨_, _, h4, .val, due_leaf d0 d1 d2 d3 s4 s5 s7 p hp p26 (.nd f a b, .pl t) (hin _ List.mem_cons_self) rows st (by omega) h7⟩
    | nd g c d =>
      by_cases e : f = g
      · subst e
        obtain ⟨hf, oa, ob⟩ := ok
        have er : rw2 (.nd f a b) (.nd f c d) = .inl f :: (rw2 a c ++ rw2 b d) := by rw [rw2, if_pos rfl]
        have et : tree2 p (.nd f a b) (.nd f c d) = .nd f (tree2 p a c) (tree2 p b d) := by rw [tree2, if_pos rfl]
        have hl : st.length + (1 + a.wt + b.wt) ≤ 1000 := hl
        rw [er] at hin
        obtain ⟨u4, u7, f4, f7, e1⟩ := ihb d ((rw2 a c).reverse ++ ([.inl f] ++ rows)) st s4 s7 ob (fun x hx => hin x (List.mem_cons_of_mem _ (List.mem_append_right _ hx))) (by omega) h4 h7
        have wb := Kd.wt_pos b
        obtain ⟨v4, v7, g4, g7, e2⟩ := iha c ([.inl f] ++ rows) (tree2 p b d :: st) u4 u7 oa (fun x hx => hin x (List.mem_cons_of_mem _ (List.mem_append_left _ hx))) (by rw [List.length_cons]; omega) f4 f7
        have hz : small (st.length + 1) = true := small_of (by omega)
        refine ⟨.val (.dat (tree2 p a c).dat), .val (.dat (rwD (.inl f))), .val, .val, ?_⟩
        rw [er, List.reverse_cons, List.reverse_append, List.append_assoc, List.append_assoc, e1, e2, et]
        unfold envD
        rw [List.singleton_append, List.map_cons, loop_nx (ρ1 := [.val d0, .val d1, .val d2, .val d3, v4, s5, .val (.ls (p.map pd)), .val (.dat (rwD (.inl f))), .val (.ls ((tree2 p a c :: tree2 p b d :: st).reverse.map Kd.dat))]) (ρ2 := [.val d0, .val d1, .val d2, .val d3, .val (.dat (tree2 p a c).dat), s5, .val (.ls (p.map pd)), .val (.dat (rwD (.inl f))), .val (.ls ((Kd.nd f (tree2 p a c) (tree2 p b d) :: st).reverse.map Kd.dat))]) (by simp [x_fr g7]) (.inl (by simp [L3_due, rwD, form_pl hf, x_fr g4, hz]))]
      · have er : rw2 (.nd f a b) (.nd g c d) = [.inr (.nd f a b, .nd g c d)] := by rw [rw2, if_neg e]
        have et : tree2 p (.nd f a b) (.nd g c d) = .pl (letAt (idxP p (.nd f a b, .nd g c d))) := by rw [tree2, if_neg e]
        rw [er] at hin ⊢
        rw [et]
        exact ⟨_, _, h4, .val, due_leaf d0 d1 d2 d3 s4 s5 s7 p hp p26 (.nd f a b, .nd g c d) (hin _ List.mem_cons_self) rows st (by omega) h7⟩
theorem rw2_ok : ∀ (k o : Kd), PB (k, o) → (∀ x, .inr x ∈ rw2 k o → PB x) ∧ ∀ f, .inl f ∈ rw2 k o → Form f := by
  intro k
  induction k with
  | pl s =>
    intro o h
    exact ⟨fun x hx => by cases Sum.inr.inj (List.mem_singleton.mp hx); exact h, fun f hf => nomatch List.mem_singleton.mp hf⟩
  | nd f a b iha ihb =>
    intro o h
    cases o with
    | pl t => exact ⟨fun x hx => by cases Sum.inr.inj (List.mem_singleton.mp hx); exact h, fun f hf => nomatch List.mem_singleton.mp hf⟩
    | nd g c d =>
      unfold rw2
      split
      · obtain ⟨⟨hf, oa, ob⟩, ⟨_, oc, od⟩, h1, h2⟩ := h
        have h1 : 1 + max a.deep b.deep ≤ 40 := h1
        have h2 : 1 + max c.deep d.deep ≤ 40 := h2
        obtain ⟨p1, p2⟩ := iha c ⟨oa, oc, by show a.deep ≤ 40; omega, by show c.deep ≤ 40; omega⟩
        obtain ⟨q1, q2⟩ := ihb d ⟨ob, od, by show b.deep ≤ 40; omega, by show d.deep ≤ 40; omega⟩
        refine ⟨fun x hx => ?_, fun z hz => ?_⟩
        · rcases List.mem_cons.mp hx with e | hx
          · cases e
          · rcases List.mem_append.mp hx with hx | hx
            · exact p1 x hx
            · exact q1 x hx
        · rcases List.mem_cons.mp hz with e | hz
          · cases Sum.inl.inj e
            exact hf
          · rcases List.mem_append.mp hz with hz | hz
            · exact p2 z hz
            · exact q2 z hz
      · exact ⟨fun x hx => by cases Sum.inr.inj (List.mem_singleton.mp hx); exact h, fun f hf => nomatch List.mem_singleton.mp hf⟩
theorem allP_mem : ∀ (r : List (Str ⊕ (Kd × Kd))) (p : List (Kd × Kd)), (∀ x ∈ p, x ∈ allP p r) ∧ ∀ x, .inr x ∈ r → x ∈ allP p r
  | [], p => ⟨fun _ h => h, fun _ h => nomatch h⟩
  | .inl f :: r, p => ⟨(allP_mem r p).1, fun x h => (allP_mem r p).2 x (by
      rcases List.mem_cons.mp h with e | h
      · cases e
      · exact h)⟩
  | .inr y :: r, p => by
    obtain ⟨h1, h2⟩ := allP_mem r (addP p y)
    refine ⟨fun x h => h1 x ?_, fun x h => ?_⟩
    · obtain ⟨q, e⟩ := addP_ext p y
      rw [e]
      exact List.mem_append_left _ h
    · rcases List.mem_cons.mp h with e | h
      · have e : x = y := Sum.inr.inj e
        rw [e]
        exact h1 y (addP_mem p y)
      · exact h2 x h
theorem due_ok (k o : Kd) (hb : PB (k, o)) (hl : k.letters.length ≤ 26) : F_due [.dat k.dat, .dat o.dat] = .ok (.dat (shr k o []).1.dat) [.no, .no] := by
  obtain ⟨s4, s5, f4, f5, h1⟩ := due_rows k o hb.1 hb.2.1 (by omega)
  obtain ⟨r1, r2⟩ := rw2_ok k o hb
  have hr := rw2_len k o
  have hw := Kd.wt_le k
  obtain ⟨s7, f7, h2⟩ := due_pairs (.dat k.dat) (.dat o.dat) (.dat (.list ((rw2 k o).map rwD))) (.ls []) s4 s5 (rw2 k o) [] .no r1 r2 (fun _ z => nomatch z) (by simp; omega) .no
  have hp := shr_all k o []
  have pl := shr_len k o []
  rw [hp] at pl
  have pb := share_pb k o [] (fun _ z => nomatch z) hb
  rw [hp] at pb
  obtain ⟨u4, u7, g4, g7, h3⟩ := due_tree (.dat k.dat) (.dat o.dat) (.dat (.list ((rw2 k o).map rwD))) (.ls []) s5 (allP [] (rw2 k o)) pb (by simp at pl; omega) k o [] [] s4 s7 hb.1 (fun x hx => (allP_mem _ _).2 x hx) (by simp; omega) f4 f7
  have t := shr_tree k o [] []
  rw [List.append_nil, hp] at t
  rw [← t, List.append_nil] at h3
  have ep : pd (k, o) = .tuple [k.dat, o.dat] := rfl
  rw [ep] at h1
  unfold envD at h3
  simp at h2 h3
  simp [F_due, x_def, x_entry, x_leave, B_due, h1, h2, h3, x_fr f4, x_fr f5]
end Fn

namespace Fn
open PySem PySem.Spec PyProof.Rows L2 Ww Vs
/-! ### within -/
theorem maxO_map (ys : List Int) (h : ys ≠ []) : maxO (.ls (ys.map .int)) = some (.dat (.int (maxL ys))) := by
  show ((some (ys.map PyData.int)).bind allInt).bind _ = _
  rw [Option.bind_some, allInt_map, Option.bind_some, if_neg h]
theorem within_ok (k : Kd) (ok : k.ok) (hz : k.letters.length ≤ 1000) : ∃ b, F_within [.dat k.dat] = .ok (.dat (.bool b)) [.no] := by
  have e1 := places_ok k ok hz
  have e2 : lcL (nmT 2) yesT (ixS 2 (cF (.int 1))) [2] ((k.places 1).map rowD) [.val (.dat k.dat), .val (.dat (.list ((k.places 1).map rowD))), .no] = .ok (((k.places 1).map fun x => x.2).map .int) [.val (.dat k.dat), .val (.dat (.list ((k.places 1).map rowD))), .no] := by
    rw [lcL_map (fun d => match d with
      | .tuple [_, y] => y
      | _ => .none)]
    · rw [List.map_map, List.map_map]
      rfl
    · intro d hd
      obtain ⟨x, _, rfl⟩ := List.mem_map.mp hd
      exact ⟨_, _, .dat (.int x.2), by simp; rfl, by simp [rowD]; rfl, rfl, by simp⟩
  have e3 := maxO_map ((k.places 1).map fun x => x.2) (by
    have h1 := k.letters_pos
    have h2 := k.places_len 1
    intro z
    have h3 := congrArg List.length z
    rw [List.length_map, List.length_nil] at h3
    omega)
  have hz : small (k.places 1).length = true := small_of (by rw [k.places_len]; omega)
  refine ⟨decide (((k.places 1).length : Int) ≤ 7) && decide (maxL ((k.places 1).map fun x => x.2) ≤ 5), ?_⟩
  by_cases c : ((k.places 1).length : Int) ≤ 7
  · have c2 : (k.places 1).length ≤ 7 := by omega
    simp only [List.map_map] at e2 e3
    simp [F_within, x_def, x_entry, x_leave, B_within, e1, e2, e3, c, c2, hz]
  · have c2 : ¬ (k.places 1).length ≤ 7 := by omega
    simp [F_within, x_def, x_entry, x_leave, B_within, e1, c, c2]
/-! ### parts put in -/
theorem sub_ok (σ : Str → Kd) (D L : Nat) (D1 : 1 ≤ D) : ∀ k : Kd, k.ok → (∀ s, Let s → (σ s).ok ∧ (σ s).deep ≤ D ∧ (σ s).letters.length ≤ L) → (Kd.sub σ k).ok ∧ (Kd.sub σ k).deep + 1 ≤ k.deep + D ∧ (Kd.sub σ k).letters.length ≤ k.letters.length * L
  | .pl s, ok, h => by
    obtain ⟨h1, h2, h3⟩ := h s ok
    exact ⟨h1, by show (σ s).deep + 1 ≤ 1 + D; omega, by show (σ s).letters.length ≤ 1 * L; omega⟩
  | .nd f a b, ⟨hf, oa, ob⟩, h => by
    obtain ⟨a1, a2, a3⟩ := sub_ok σ D L D1 a oa h
    obtain ⟨b1, b2, b3⟩ := sub_ok σ D L D1 b ob h
    refine ⟨⟨hf, a1, b1⟩, ?_, ?_⟩
    · show 1 + max (Kd.sub σ a).deep (Kd.sub σ b).deep + 1 ≤ 1 + max a.deep b.deep + D
      omega
    · show ((Kd.sub σ a).letters ++ (Kd.sub σ b).letters).length ≤ (a.letters ++ b.letters).length * L
      rw [List.length_append, List.length_append, Nat.add_mul]
      omega
theorem tau_ok (t : List (Str × Kd)) (D L : Nat) (D1 : 1 ≤ D) (L1 : 1 ≤ L) (h : ∀ x ∈ t, x.2.ok ∧ x.2.deep ≤ D ∧ x.2.letters.length ≤ L) (s : Str) (hs : Let s) : (tau t s).ok ∧ (tau t s).deep ≤ D ∧ (tau t s).letters.length ≤ L := by
  unfold tau
  cases hl : t.lookup s with
  | none => exact ⟨hs, D1, L1⟩
  | some k => exact h _ ((lookup_tab s).2 k hl)
/-! ### two kinds by tables of one -/
theorem forms3 : Forms [Str.ofString "behind", Str.ofString "ahead", Str.ofString "with"] := ⟨by simp, by decide, fun f hf => by
  simp only [List.mem_cons, List.not_mem_nil, or_false] at hf
  rcases hf with h | h | h
  · exact .inl h
  · exact .inr (.inl h)
  · exact .inr (.inr h)⟩
def tokT (L : Nat) (t : List (Str × Kd)) : Prop := ∀ x ∈ t, x.2.ok ∧ x.2.deep ≤ 2 ∧ x.2.letters.length ≤ L
theorem two_inner (u2 u3 u5 u6 u7 u8 u9 u12 : Sl) (signs : Str) (size : Nat) (hsg : Pool signs) (z1 : 1 ≤ size) (z2 : size ≤ 2) : ∀ (names : List Str) (n : Nat) (es : List PyData) (t : List (Str × Kd)) (s11 : Sl), Src n es → n + 10 * names.length ≤ 800000 → tokT size t → t.length + names.length ≤ 1000 → Fr s11 →
    ∃ es' t' s11', Src (n + 10 * names.length) es' ∧ tokT size t' ∧ Fr s11' ∧ loopF (nmT 11) L1_two (names.map .str) [.bor (.ls es), .val (.dat (.str signs)), u2, u3, .val (.dat (.int (size : Int))), u5, u6, u7, u8, u9, .val (.dk (tabD t)), s11, u12] = .nx [.bor (.ls es'), .val (.dat (.str signs)), u2, u3, .val (.dat (.int (size : Int))), u5, u6, u7, u8, u9, .val (.dk (tabD t')), s11', u12]
  | [], n, es, t, s11, hs, hn, ht, hl, h11 => ⟨es, t, s11, hs, ht, h11, rfl⟩
  | s :: names, n, es, t, s11, hs, hn, ht, hl, h11 => by
    rw [List.length_cons] at hn hl
    obtain ⟨r, es1, a0, a1, s1, e1⟩ := pick_ok n es size hs (by omega) (by omega) (by omega)
    obtain ⟨k, es2, ko, kd, kl, s2, e2⟩ := grown_ok 30 (n + 1) es1 (1 + r) 2 _ signs s1 (by omega) forms3 hsg (by omega) (by omega) (by omega) (by omega)
    obtain ⟨t', e3, m3, l3⟩ := putD_tab t s k
    have ht' : tokT size t' := fun x hx => by
      rcases m3 x hx with z | rfl
      · exact ht x z
      · exact ⟨ko, by show k.deep ≤ 2; omega, by show k.letters.length ≤ size; omega⟩
    obtain ⟨es3, t3, s11', s3, ht3, h3, ih⟩ := two_inner u2 u3 u5 u6 u7 u8 u9 u12 signs size hsg z1 z2 names (n + 10) es2 t' (.val (.dat (.str s))) (s2.le (by omega)) (by omega) ht' (by omega) .val
    have hz : small ((tabD t).length + 1) = true := small_of (by rw [tabD_len]; omega)
    refine ⟨es3, t3, s11', s3.le (by rw [List.length_cons]; omega), ht3, h3, ?_⟩
    simp at e2
    rw [List.map_cons, loop_nx (ρ1 := [.bor (.ls es), .val (.dat (.str signs)), u2, u3, .val (.dat (.int (size : Int))), u5, u6, u7, u8, u9, .val (.dk (tabD t)), .val (.dat (.str s)), u12]) (ρ2 := [.bor (.ls es2), .val (.dat (.str signs)), u2, u3, .val (.dat (.int (size : Int))), u5, u6, u7, u8, u9, .val (.dk (tabD t')), .val (.dat (.str s)), u12]) (by simp [x_fr h11]) (.inl (by simp [L1_two, e1, e2, hz, e3])), ih]
/-- what the outer loop keeps -/
def fndD (base : Kd) (σs : List (Str → Kd)) : List PyData := σs.map fun σ => (Kd.sub σ base).dat
def SubI (L : Nat) (σ : Str → Kd) : Prop := ∀ s, Let s → (σ s).ok ∧ (σ s).deep ≤ 2 ∧ (σ s).letters.length ≤ L
def TwoI (n : Nat) (signs : Str) (s2 s3 : Sl) (size : Nat) (base : Kd) (N : List PyData) (s8 : Sl) (i : Nat) (ρ : En) : Prop := ∃ (es : List PyData) (σs : List (Str → Kd)) (s6 s9 s10 s11 s12 : Sl), Src (n + 100 * i) es ∧ σs.length = i ∧ (∀ σ ∈ σs, SubI size σ) ∧
  ρ = [.bor (.ls es), .val (.dat (.str signs)), s2, s3, .val (.dat (.int (size : Int))), .val (.dat base.dat), s6, .val (.ls (fndD base σs)), s8, s9, s10, s11, s12] ∧
  (s6 = .val (.ls N) ∨ s6 = .val (.dat (.list N))) ∧ Fr s9 ∧ Fr s10 ∧ Fr s11 ∧ Fr s12
theorem atI_last {α : Type} (xs : List α) (x : α) : atI (xs ++ [x]) (-1) = some x := by
  unfold atI ixN
  have h : ¬ (0 : Int) ≤ -1 := by omega
  have h1 : (1 : Int) ≤ (xs.length : Int) + 1 := by omega
  have h2 : (-1 + ((xs.length : Int) + 1)).toNat = xs.length := by omega
  simp [h1, h2]
theorem snoc_of {α : Type} : ∀ {xs : List α}, xs ≠ [] → ∃ ys y, xs = ys ++ [y]
  | [], h => (h rfl).elim
  | [x], _ => ⟨[], x, rfl⟩
  | x :: y :: r, _ => by
    obtain ⟨ys, z, e⟩ := snoc_of (xs := y :: r) (fun z => nomatch z)
    exact ⟨x :: ys, z, by rw [e]; rfl⟩
theorem two_outer (n : Nat) (signs : Str) (s2 s3 : Sl) (size : Nat) (base : Kd) (names : List Str) (s8 : Sl) (hn : n ≤ 700000) (hsg : Pool signs) (z1 : 1 ≤ size) (z2 : size ≤ 2) (ok : base.ok) (bd : base.deep ≤ 5) (bl : base.letters.length ≤ 7) (n1 : 1 ≤ names.length) (n7 : names.length ≤ 7) :
    ∀ i ρ, i < 2 → TwoI n signs s2 s3 size base (names.map .str) s8 i ρ → ∃ ρ1 ρ2, (nmT 9).f (.int (i : Int)) ρ = some ρ1 ∧ (L2_two ρ1 = .nx ρ2 ∨ L2_two ρ1 = .ct ρ2) ∧ TwoI n signs s2 s3 size base (names.map .str) s8 (i + 1) ρ2 := by
  rintro i ρ hi ⟨es, σs, s6, s9, s10, s11, s12, hs, hl, hσ, rfl, h6, h9, h10, h11, h12⟩
  obtain ⟨es', t', s11', s1, ht, h11', e1⟩ := two_inner s2 s3 (.val (.dat base.dat)) (.val (.dat (.list (names.map .str)))) (.val (.ls (fndD base σs))) s8 (.val (.dat (.int i))) s12 signs size hsg z1 z2 names (n + 100 * i) es [] s11 hs (by omega) (fun _ z => nomatch z) (by simp; omega) h11
  have et : (tabD [] : List (L2.Key × PyData)) = [] := rfl
  rw [et] at e1
  have e2 := put_ok t' 30 base ok (by omega)
  have tk : SubI size (tau t') := fun s h => tau_ok t' 2 size (by decide) z1 ht s h
  obtain ⟨o1, o2, o3⟩ := sub_ok (tau t') 2 size (by decide) base ok tk
  have o4 : base.letters.length * size ≤ 7 * 2 := Nat.mul_le_mul bl z2
  obtain ⟨b, e3⟩ := within_ok (Kd.sub (tau t') base) o1 (by omega)
  -- the other table
  obtain ⟨nm, hN⟩ : ∃ nm, atI (names.map PyData.str) 0 = some (.str nm) := by
    cases names with
    | nil => simp at n1
    | cons a r => exact ⟨a, by simp⟩
  generalize names.map PyData.str = N at e1 h6 hN ⊢
  obtain ⟨ta, t1, t14⟩ := hsg
  obtain ⟨cs, c, hcs⟩ : ∃ cs c, signs.cps.toList = cs ++ [c] := by
    refine snoc_of fun z => ?_
    have h := len_cps signs
    rw [z, List.length_nil] at h
    omega
  have lc : Let ⟨#[c]⟩ := ⟨c, rfl, ta c (by rw [hcs]; exact List.mem_append_right _ (List.mem_singleton.mpr rfl))⟩
  have sm : small signs.length = true := small_of (by omega)
  have el : atI signs.cps.toList (-1) = some c := by rw [hcs]; exact atI_last cs c
  have ed : (mergeD [] [((Sum.inr nm : L2.Key), PyData.tuple [.str "plain", .str ⟨#[c]⟩])]) = tabD [(nm, .pl ⟨#[c]⟩)] := rfl
  have e4 := put_ok [(nm, .pl ⟨#[c]⟩)] 30 base ok (by omega)
  have tk2 : SubI size (tau [(nm, .pl ⟨#[c]⟩)]) := fun s h => tau_ok _ 2 size (by decide) z1 (fun x hx => by rw [List.mem_singleton.mp hx]; exact ⟨lc, by show 1 ≤ 2; decide, z1⟩) s h
  have hz : small ((fndD base σs).length + 1) = true := small_of (by unfold fndD; rw [List.length_map]; omega)
  have key : ∀ τ : Str → Kd, SubI size τ → TwoI n signs s2 s3 size base N s8 (i + 1) [.bor (.ls es'), .val (.dat (.str signs)), s2, s3, .val (.dat (.int (size : Int))), .val (.dat base.dat), .val (.dat (.list N)), .val (.ls (fndD base σs ++ [(Kd.sub τ base).dat])), s8, .val (.dat (.int i)), .val (.dk (tabD t')), s11', .val (.dat (Kd.sub τ base).dat)] := fun τ hτ =>
    ⟨es', σs ++ [τ], _, _, _, _, _, s1.le (by omega), by simp [hl], fun σ m => by
      rcases List.mem_append.mp m with z | z
      · exact hσ σ z
      · rw [List.mem_singleton.mp z]
        exact hτ, by unfold fndD; rw [List.map_append]; rfl, .inr rfl, .val, .val, h11', .val⟩
  have t0 : (nmT 9).f (.int (i : Int)) [.bor (.ls es), .val (.dat (.str signs)), s2, s3, .val (.dat (.int (size : Int))), .val (.dat base.dat), s6, .val (.ls (fndD base σs)), s8, s9, s10, s11, s12] = some [.bor (.ls es), .val (.dat (.str signs)), s2, s3, .val (.dat (.int (size : Int))), .val (.dat base.dat), s6, .val (.ls (fndD base σs)), s8, .val (.dat (.int i)), s10, s11, s12] := by simp [x_fr h9]
  cases b with
  | true =>
    refine ⟨_, _, t0, .inl ?_, key (tau t') tk⟩
    rcases h6 with rfl | rfl <;> simp [L2_two, x_fr h10, x_fr h12, e1, e2, e3, hz]
  | false =>
    refine ⟨_, _, t0, .inl ?_, key (tau [(nm, .pl ⟨#[c]⟩)]) tk2⟩
    rcases h6 with rfl | rfl <;> simp [L2_two, x_fr h10, x_fr h12, e1, e2, e3, hz, sm, el, ed, e4, hN]
end Fn

namespace Fn
open PySem PySem.Spec PyProof.Rows L2 Ww Vs
noncomputable section
def B_counted : SF := seqS (setS 1 (lcF (itS (op1 sortedTxtO (tmpF (op1 lowerO (slotF 0))))) (nmT 2) (yesT) (tupF (consA (varF 2) (consA (op2 subO (tmpF (op2c isStr scntO (slotF 0) (slotF 2))) (tmpF (op2c isStr scntO (slotF 0) (tmpF (op1 upperO (slotF 2)))))) (nilA)))) [2]))
    (retS (lcF (itS (varF 1)) (nmT 3) (tstF (op2 neO (tmpF (ixS 3 (cF (.int 1)))) (tmpF (cF (.int 0))))) (varF 3) [3]))
def F_counted : FF := defF 1 4 B_counted

def B_flipped : SF := seqS (ifS (truF (tmpF (op1 isupO (slotF 0))))
    (retS (op1 lowerO (slotF 0)))
    (nxS))
    (retS (op1 upperO (slotF 0)))
def F_flipped : FF := defF 1 1 B_flipped

def B_undone : SF := retS (op2c isStr joinO (tmpF (cF (.str ""))) (tmpF (lcF (strI (op1 revSO (slotF 0))) (nmT 1) (yesT) (callF F_flipped (consC (aD (varF 1)) (nilC))) [1])))
def F_undone : FF := defF 1 2 B_undone

def B_line_k04 (self : FF) : SF := seqS (ifS (tstF (op2 eqO (tmpF (ixS 0 (cF (.int 0)))) (tmpF (cF (.str "plain")))))
    (retS (ixS 0 (cF (.int 1))))
    (nxS))
    (seqS (par2S 1 2 (consA (callF self (consC (aD (ixS 0 (cF (.int 1)))) (nilC))) (consA (callF self (consC (aD (ixS 0 (cF (.int 2)))) (nilC))) (nilA))))
    (seqS (ifS (tstF (op2 eqO (tmpF (ixS 0 (cF (.int 0)))) (tmpF (cF (.str "behind")))))
    (retS (op2 addO (slotF 1) (tmpF (callF F_undone (consC (aD (varF 2)) (nilC))))))
    (nxS))
    (seqS (ifS (tstF (op2 eqO (tmpF (ixS 0 (cF (.int 0)))) (tmpF (cF (.str "ahead")))))
    (retS (op2 addO (tmpF (callF F_undone (consC (aD (varF 1)) (nilC)))) (slotF 2)))
    (nxS))
    (retS (op2 addO (slotF 1) (slotF 2))))))
def F_line_k04 : Nat → FF
  | 0 => fun _ => .stuck
  | n + 1 => defF 1 3 (B_line_k04 (F_line_k04 n))

def B_pairs : SF := retS (lcF (strI (varF 0)) (nmT 1) (yesT) (tupF (consA (op1 lowerO (slotF 1)) (consA (op2 ixO (tmpF (lstF (consA (cF (.int 1)) (consA (op1 negO (tmpF (cF (.int 1)))) (nilA))))) (tmpF (op1 intO (tmpF (op1 isupO (slotF 1)))))) (nilA)))) [1])
def F_pairs : FF := defF 1 2 B_pairs

def L1_rest : SF := setS 0 (op3c isStr (repFO "") (tmpF (op3c isStr (repFO "") (slotF 0) (slotF 3) (tmpF (op1 upperO (slotF 3))))) (tmpF (op1 upperO (slotF 3))) (slotF 3))
def L2_rest : SF := forS (itS (varF 1)) (nmT 3) L1_rest
def B_rest : SF := seqS (setS 1 (op1 sortedTxtO (tmpF (op1 lowerO (slotF 0)))))
    (seqS (forS (rng1 (tmpF (op2 fdivO (tmpF (op1 lenO (slotF 0))) (tmpF (cF (.int 2)))))) (nmT 2) L2_rest)
    (retS (varF 0)))
def F_rest : FF := defF 1 4 B_rest

def B_checked_row : SF := seqS (ifS (tstF (op2 eqO (tmpF (callF F_checked_kinds (consC (aD (varF 0)) (nilC)))) (tmpF (lstF (nilA)))))
    (noS)
    (nxS))
    (retS (varF 0))
def F_checked_row : FF := defF 1 1 B_checked_row

def B_signed (self : FF) : SF := seqS (ifS (tstF (op2 eqO (tmpF (ixS 0 (cF (.int 0)))) (tmpF (cF (.str "plain")))))
    (retS (lstF (consA (tupF (consA (ixS 0 (cF (.int 1))) (consA (varF 1) (nilA)))) (nilA))))
    (nxS))
    (seqS (setS 2 (callF self (consC (aD (ixS 0 (cF (.int 1)))) (consC (aD (ifE (tstF (op2 eqO (tmpF (ixS 0 (cF (.int 0)))) (tmpF (cF (.str "ahead"))))) (op1 negO (slotF 1)) (varF 1))) (nilC)))))
    (seqS (setS 3 (callF self (consC (aD (ixS 0 (cF (.int 2)))) (consC (aD (ifE (tstF (op2 eqO (tmpF (ixS 0 (cF (.int 0)))) (tmpF (cF (.str "behind"))))) (op1 negO (slotF 1)) (varF 1))) (nilC)))))
    (retS (ifE (tstF (op2 eqO (slotF 1) (tmpF (cF (.int 1))))) (op2 addO (slotF 2) (slotF 3)) (op2 addO (slotF 3) (slotF 2))))))
def F_signed : Nat → FF
  | 0 => fun _ => .stuck
  | n + 1 => defF 2 4 (B_signed (F_signed n))

def B_row_signed : SF := retS (lc2F (itS (varF 0)) (nmT 1) (yesT) (itS (callF (F_signed 30) (consC (aD (varF 1)) (consC (aD (cF (.int 1))) (nilC))))) (nmT 2) (yesT) (varF 2) [1, 2] [2])
def F_row_signed : FF := defF 1 3 B_row_signed

def L1_balance : SF := stS 1 stA (varF 2) (op2 addO (tmpF (dGet2 1 (varF 2) (cF (.int 0)))) (slotF 3))
def B_balance : SF := seqS (setS 1 (newD))
    (seqS (forS (itS (callF F_row_signed (consC (aD (callF F_checked_row (consC (aD (varF 0)) (nilC)))) (nilC)))) (tupT 2 (consTs (nmT 2) (consTs (nmT 3) (nilTs)))) L1_balance)
    (retS (lcF (itS (sKeys 1)) (nmT 2) (tstF (op2 neO (tmpF (ixS 1 (varF 2))) (tmpF (cF (.int 0))))) (tupF (consA (varF 2) (consA (ixS 1 (varF 2)) (nilA)))) [2])))
def F_balance : FF := defF 1 4 B_balance

def L1_cancelled : SF := ifS (andT (tstF (op2 neO (slotF 1) (tmpF (lstF (nilA))))) (tstF (op2 eqO (tmpF (ixS 1 (op1 negO (tmpF (cF (.int 1)))))) (tmpF (tupF (consA (varF 2) (consA (op1 negO (slotF 3)) (nilA))))))))
    (exS (mm0 1 popO))
    (exS (mm1 1 appO (tupF (consA (varF 2) (consA (varF 3) (nilA))))))
def B_cancelled : SF := seqS (setS 1 (lstF (nilA)))
    (seqS (forS (itS (varF 0)) (tupT 2 (consTs (nmT 2) (consTs (nmT 3) (nilTs)))) L1_cancelled)
    (retS (movF 1)))
def F_cancelled : FF := defF 1 4 B_cancelled

def B_word : SF := retS (callF F_cancelled (consC (aD (callF F_row_signed (consC (aD (callF F_checked_row (consC (aD (varF 0)) (nilC)))) (nilC)))) (nilC)))
def F_word : FF := defF 1 1 B_word

def B_asked : SF := seqS (setS 1 (op2c isStr joinO (tmpF (cF (.str ""))) (tmpF (lcF (itS (varF 0)) (nmT 2) (yesT) (callF (F_line_k04 30) (consC (aD (varF 2)) (nilC))) [2]))))
    (seqS (setS 3 (lstF (consA (callF F_counted (consC (aD (varF 1)) (nilC))) (consA (callF F_pairs (consC (aD (callF F_rest (consC (aD (varF 1)) (nilC)))) (nilC))) (nilA)))))
    (seqS (setS 4 (op1 listO (slotF 0)))
    (seqS (frB [5] (seqS (setS 5 (llF (consA (callF F_balance (consC (aD (varF 4)) (nilC))) (consA (callF F_word (consC (aD (varF 4)) (nilC))) (nilA)))))
    (seqS (ifS (frT (orT (notT (truF (tmpF (callF (F_alike 30) (consC (aD (varF 5)) (consC (aD (varF 3)) (nilC))))))) (notT (truF (tmpF (callF (F_alike 30) (consC (aD (varF 4)) (consC (aD (varF 0)) (nilC)))))))))
    (retS (cF (.bool false)))
    (nxS))
    (seqS (exS (elL 5 0 appO (tupF (consA (cF (.str "z")) (consA (cF (.int 1)) (nilA))))))
    (exS (elLI 5 1 insO (.int 0) (tupF (consA (cF (.str "z")) (consA (cF (.int 1)) (nilA))))))))))
    (seqS (exS (mm2 4 insO (cF (.int 0)) (tupF (consA (cF (.str "plain")) (consA (cF (.str "z")) (nilA))))))
    (retS (callF (F_alike 30) (consC (aD (lstF (consA (callF F_balance (consC (aD (op1 listO (slotF 0))) (nilC))) (consA (callF F_word (consC (aD (op1 listO (slotF 0))) (nilC))) (nilA))))) (consC (aD (varF 3)) (nilC)))))))))
def F_asked : FF := defF 1 6 B_asked

def B_cancelling : SF := seqS (setS 1 (callF F_pool (lendC 0 (nilC))))
    (seqS (setS 2 (callF (F_grown 30) (lendC 0 (consC (aD (op2 addO (tmpF (cF (.int 1))) (tmpF (callF F_pick (lendC 0 (consC (aD (cF (.int 3))) (nilC))))))) (consC (aD (cF (.int 4))) (consC (aD (lstF (consA (cF (.str "behind")) (consA (cF (.str "ahead")) (nilA))))) (consC (aD (varF 1)) (nilC))))))))
    (seqS (setS 3 (callF (F_grown 30) (lendC 0 (consC (aD (op2 addO (tmpF (cF (.int 1))) (tmpF (callF F_pick (lendC 0 (consC (aD (cF (.int 2))) (nilC))))))) (consC (aD (cF (.int 4))) (consC (aD (lstF (consA (cF (.str "behind")) (consA (cF (.str "ahead")) (nilA))))) (consC (aD (varF 1)) (nilC))))))))
    (seqS (setS 4 (lstF (consA (lstF (consA (varF 2) (consA (tupF (consA (cF (.str "ahead")) (consA (varF 2) (consA (varF 3) (nilA))))) (nilA)))) (consA (lstF (consA (tupF (consA (cF (.str "behind")) (consA (varF 3) (consA (varF 2) (nilA))))) (consA (varF 2) (nilA)))) (nilA)))))
    (seqS (exS (mm1 4 appO (lstF (consA (tupF (consA (cF (.str "behind")) (consA (tupF (consA (cF (.str "ahead")) (consA (varF 2) (consA (varF 3) (nilA))))) (consA (varF 3) (nilA))))) (consA (varF 2) (nilA))))))
    (seqS (setS 5 (ixS 4 (callF F_pick (lendC 0 (consC (aD (cF (.int 3))) (nilC))))))
    (seqS (ifS (tstF (op2 eqO (tmpF (callF F_pick (lendC 0 (consC (aD (cF (.int 2))) (nilC))))) (tmpF (cF (.int 1)))))
    (setS 5 (op2 addO (slotF 5) (tmpF (lstF (consA (tupF (consA (cF (.str "plain")) (consA (ixS 1 (cF (.int 0))) (nilA)))) (nilA))))))
    (nxS))
    (retS (movF 5))))))))
def F_cancelling : FF := defF 1 6 B_cancelling

def L1_row : SF := ifS (tstF (op2 gtO (slotF 3) (tmpF (cF (.int 0)))))
    (seqS (exS (mm1 5 appO (callF (F_grown 30) (lendC 0 (consC (aD (op2 addO (tmpF (cF (.int 1))) (tmpF (callF F_pick (lendC 0 (consC (aD (op2 min2O (slotF 3) (tmpF (cF (.int 7))))) (nilC))))))) (consC (aD (cF (.int 5))) (consC (aD (varF 4)) (consC (aD (varF 1)) (nilC)))))))))
    (setS 3 (op2 subO (slotF 3) (tmpF (op1 lenO (tmpF (callF F_places (consC (aD (ixS 5 (op1 negO (tmpF (cF (.int 1)))))) (nilC)))))))))
    (nxS)
def B_row : SF := seqS (par2S 1 2 (consA (callF F_pool (lendC 0 (nilC))) (consA (callF F_pick (lendC 0 (consC (aD (cF (.int 2))) (nilC)))) (nilA))))
    (seqS (ifS (tstF (op2 eqO (tmpF (callF F_pick (lendC 0 (consC (aD (cF (.int 4))) (nilC))))) (tmpF (cF (.int 0)))))
    (setS 1 (op2 addO (slotF 1) (tmpF (callF F_pool (lendC 0 (nilC))))))
    (nxS))
    (seqS (par2S 3 4 (consA (op2 ixO (tmpF (lstF (consA (cF (.int 10)) (consA (cF (.int 14)) (nilA))))) (slotF 2)) (consA (op2 ixO (tmpF (lstF (consA (lstF (consA (cF (.str "behind")) (consA (cF (.str "ahead")) (consA (cF (.str "with")) (nilA))))) (consA (lstF (consA (cF (.str "behind")) (consA (cF (.str "ahead")) (nilA)))) (nilA))))) (slotF 2)) (nilA))))
    (seqS (setS 5 (lstF (nilA)))
    (seqS (forS (rng1 (tmpF (op2 addO (tmpF (cF (.int 1))) (tmpF (callF F_pick (lendC 0 (consC (aD (cF (.int 6))) (nilC)))))))) (nmT 6) L1_row)
    (retS (movF 5))))))
def F_row : FF := defF 1 7 B_row

def L1_law_k04 : SF := ifS (notT (truF (tmpF (callF F_asked (consC (aD (lstF (consA (varF 5) (nilA)))) (nilC))))))
    (retS (cF (.bool false)))
    (nxS)
def L2_law_k04 : SF := seqS (ifS (orT (notT (truF (tmpF (callF F_asked (consC (aD (varF 4)) (nilC)))))) (notT (truF (tmpF (callF F_asked (consC (aD (op1 revLO (slotF 4))) (nilC)))))))
    (retS (cF (.bool false)))
    (nxS))
    (forS (itS (varF 4)) (nmT 5) L1_law_k04)
def L3_law_k04 : SF := ifS (notT (truF (tmpF (callF F_asked (consC (aD (varF 4)) (nilC))))))
    (retS (cF (.bool false)))
    (nxS)
def B_law_k04 : SF := seqS (setS 1 (callF F_begun (consC (aD (varF 0)) (nilC))))
    (seqS (setS 2 (op2 addO (tmpF (lcF (rng1 (tmpF (cF (.int 7)))) (nmT 3) (yesT) (callF F_row (lendC 1 (nilC))) [3])) (tmpF (lstF (consA (callF F_cancelling (lendC 1 (nilC))) (nilA))))))
    (seqS (exS (mm1 2 appO (op2 mulO (tmpF (lstF (consA (tupF (consA (cF (.str "plain")) (consA (op2 ixO (tmpF (cF (.str "abcdefghijklmnopqrstuvwxyz"))) (tmpF (callF F_pick (lendC 1 (consC (aD (cF (.int 26))) (nilC)))))) (nilA)))) (nilA)))) (tmpF (cF (.int 6))))))
    (seqS (forS (itS (varF 2)) (nmT 4) L2_law_k04)
    (seqS (forS (itS (op1 revLO (slotF 2))) (nmT 4) L3_law_k04)
    (retS (cF (.bool true)))))))
def F_law_k04 : FF := defF 1 6 B_law_k04
end
end Fn

namespace Fn
open PySem PySem.Spec PyProof.Rows L2 Ww Vs
@[simp] theorem sne_pb : ¬ (Str.ofString "plain" = Str.ofString "behind") := by decide +kernel
@[simp] theorem sne_pa : ¬ (Str.ofString "plain" = Str.ofString "ahead") := by decide +kernel
@[simp] theorem sne_pw : ¬ (Str.ofString "plain" = Str.ofString "with") := by decide +kernel
@[simp] theorem sne_bp : ¬ (Str.ofString "behind" = Str.ofString "plain") := by decide +kernel
@[simp] theorem sne_ba : ¬ (Str.ofString "behind" = Str.ofString "ahead") := by decide +kernel
@[simp] theorem sne_bw : ¬ (Str.ofString "behind" = Str.ofString "with") := by decide +kernel
@[simp] theorem sne_ap : ¬ (Str.ofString "ahead" = Str.ofString "plain") := by decide +kernel
@[simp] theorem sne_ab : ¬ (Str.ofString "ahead" = Str.ofString "behind") := by decide +kernel
@[simp] theorem sne_aw : ¬ (Str.ofString "ahead" = Str.ofString "with") := by decide +kernel
@[simp] theorem sne_wp : ¬ (Str.ofString "with" = Str.ofString "plain") := by decide +kernel
@[simp] theorem sne_wb : ¬ (Str.ofString "with" = Str.ofString "behind") := by decide +kernel
@[simp] theorem sne_wa : ¬ (Str.ofString "with" = Str.ofString "ahead") := by decide +kernel
/-! ### signed letters -/
abbrev Wds := List (Str × Int)
def Sg (w : Wds) : Prop := ∀ x ∈ w, Let x.1 ∧ (x.2 = 1 ∨ x.2 = -1)
theorem Sg.app {a b : Wds} (h : Sg a) (k : Sg b) : Sg (a ++ b) := fun x m => by
  rcases List.mem_append.mp m with z | z
  · exact h x z
  · exact k x z
theorem sgn_sg : ∀ (k : Kd) (s : Int), k.ok → (s = 1 ∨ s = -1) → Sg (k.sgn s)
  | .pl y, s, h, hs => fun x m => by
    rw [List.mem_singleton.mp m]
    exact ⟨h, hs⟩
  | .nd f a b, s, ⟨_, ha, hb⟩, hs => by
    have n1 : (if f = "ahead" then -s else s) = 1 ∨ (if f = "ahead" then -s else s) = -1 := by split <;> omega
    have n2 : (if f = "behind" then -s else s) = 1 ∨ (if f = "behind" then -s else s) = -1 := by split <;> omega
    have h1 := sgn_sg a _ ha n1
    have h2 := sgn_sg b _ hb n2
    show Sg (if s = 1 then _ else _)
    split
    · exact h1.app h2
    · exact h2.app h1
theorem rowSgn_sg {ks : List Kd} (h : ∀ k ∈ ks, k.ok) : Sg (rowSgn ks) := fun x m => by
  obtain ⟨k, hk, hx⟩ := List.mem_flatMap.mp m
  exact sgn_sg k 1 (h k hk) (.inl rfl) x hx
theorem bh_eq {s : Str} : ((s == (Str.ofString "behind")) = true) = (s = "behind") := by
  simp
theorem ah_eq {s : Str} : ((s == (Str.ofString "ahead")) = true) = (s = "ahead") := by
  simp
theorem signed_ok : ∀ (n : Nat) (k : Kd) (s : Int), k.ok → k.deep ≤ n → k.letters.length ≤ 1000 → (s = 1 ∨ s = -1) → F_signed n [.dat k.dat, .dat (.int s)] = .ok (.ls ((k.sgn s).map rowD)) [.no, .no]
  | 0, k, s, _, h, _, _ => by have := k.deep_pos; omega
  | n + 1, .pl y, s, ok, h, _, hs => by
    simp [F_signed, x_def, x_entry, x_leave, B_signed, Kd.sgn, rowD]
  | n + 1, .nd f a b, s, ⟨hf, oa, ob⟩, h, hz, hs => by
    have dm : 1 + max a.deep b.deep ≤ n + 1 := h
    have lz : (a.letters ++ b.letters).length ≤ 1000 := hz
    rw [List.length_append] at lz
    have n1 : (if f = "ahead" then -s else s) = 1 ∨ (if f = "ahead" then -s else s) = -1 := by split <;> omega
    have n2 : (if f = "behind" then -s else s) = 1 ∨ (if f = "behind" then -s else s) = -1 := by split <;> omega
    have ea := signed_ok n a _ oa (by omega) (by omega) n1
    have eb := signed_ok n b _ ob (by omega) (by omega) n2
    have la := a.sgn_len (if f = "ahead" then -s else s)
    have lb := b.sgn_len (if f = "behind" then -s else s)
    have z1 : small ((a.sgn (if f = "ahead" then -s else s)).length + (b.sgn (if f = "behind" then -s else s)).length) = true := small_of (by omega)
    have z2 : small ((b.sgn (if f = "behind" then -s else s)).length + (a.sgn (if f = "ahead" then -s else s)).length) = true := small_of (by omega)
    rcases hf with rfl | rfl | rfl <;> rcases hs with rfl | rfl <;> simp at ea eb z1 z2 <;> simp [F_signed, x_def, x_entry, x_leave, B_signed, Kd.sgn, ea, eb, z1, z2]
end Fn

namespace Fn
open PySem PySem.Spec PyProof.Rows L2 Ww Vs
/-- a row: kinds within bounds -/
structure Rw (ks : List Kd) : Prop where
  ne : ks ≠ []
  ok : ∀ k ∈ ks, k.ok ∧ k.deep ≤ 29
  len : (rowSgn ks).length ≤ 60
theorem letters_le {ks : List Kd} (h : (rowSgn ks).length ≤ 60) : ∀ k ∈ ks, k.letters.length ≤ 60 := fun k hk => by
  have e : (k.sgn 1).length ≤ (rowSgn ks).length := by
    induction ks with
    | nil => cases hk
    | cons x ks ih =>
      show _ ≤ (x.sgn 1 ++ rowSgn ks).length
      have h' : (x.sgn 1 ++ rowSgn ks).length ≤ 60 := h
      rw [List.length_append] at h' ⊢
      rcases List.mem_cons.mp hk with z | z
      · rw [z]; omega
      · have := ih (by omega) z
        omega
  rw [Kd.sgn_len] at e
  omega
theorem row_len {ks : List Kd} (h : (rowSgn ks).length ≤ 60) : ks.length ≤ 60 := by
  have e : ks.length ≤ (rowSgn ks).length := by
    clear h
    induction ks with
    | nil => exact Nat.zero_le _
    | cons x ks ih =>
      show _ ≤ (x.sgn 1 ++ rowSgn ks).length
      have := x.letters_pos
      rw [List.length_append, List.length_cons, Kd.sgn_len]
      omega
  omega
theorem dats_ne {ks : List Kd} (h : ks ≠ []) : ks.map Kd.dat ≠ [] := fun z => h (List.map_eq_nil_iff.mp z)
@[simp] theorem y_e_nil3 (ds : List PyData) : PyData.eqv (.list ds) (.list []) = ds.isEmpty := by cases ds <;> rfl
@[simp] theorem y_min0 (a : Nat) : min a 1 ≤ 64 := by omega
theorem checked_row_ok {ks : List Kd} (r : Rw ks) : F_checked_row [.dat (.list (ks.map Kd.dat))] = .ok (.dat (.list (ks.map Kd.dat))) [.no] := by
  have l := checked_kinds_ok ks fun k hk => ⟨(r.ok k hk).1, by have := (r.ok k hk).2; omega⟩
  have e : (ks.map Kd.dat).isEmpty = false := by cases ks with
    | nil => exact absurd rfl r.ne
    | cons _ _ => rfl
  simp [F_checked_row, x_def, x_entry, x_leave, B_checked_row, l, r.ne]
theorem row_signed_ok {ks : List Kd} (r : Rw ks) : F_row_signed [.dat (.list (ks.map Kd.dat))] = .ok (.ls ((rowSgn ks).map rowD)) [.no] := by
  have z1 : small (ks.map Kd.dat).length = true := small_of (by rw [List.length_map]; have := row_len r.len; omega)
  have hl := letters_le r.len
  have e := lc2L_map (t := nmT 1) (t1 := nmT 2) (it1 := itS (callF (F_signed 30) (consC (aD (varF 1)) (consC (aD (cF (.int 1))) (nilC))))) (e := varF 2) (own := [1, 2]) (own1 := [2]) (ρ := [.val (.dat (.list (ks.map Kd.dat))), .no, .no])
    Kd.dat (fun k => (k.sgn 1).map rowD) (fun _ x => x) (ds := ks) (by
    intro k hk
    obtain ⟨ok, dp⟩ := r.ok k hk
    have s1 := signed_ok 30 k 1 ok (by omega) (by have := hl k hk; omega) (.inl rfl)
    refine ⟨[.val (.dat (.list (ks.map Kd.dat))), .val (.dat k.dat), .no], [.val (.dat (.list (ks.map Kd.dat))), .val (.dat k.dat), .no], by simp, by simp [s1], ?_, by simp [wipeR]⟩
    intro x hx
    exact ⟨[.val (.dat (.list (ks.map Kd.dat))), .val (.dat k.dat), .val (.dat x)], _, .dat x, by simp [wipeR], by simp; rfl, rfl, by simp [wipeR]⟩)
  have e2 : (ks.flatMap fun d => ((d.sgn 1).map rowD).map fun x => x) = (rowSgn ks).map rowD := by
    simp only [List.map_id']
    rw [rowSgn, List.map_flatMap]
  rw [e2] at e
  have z2 : small (rowSgn ks).length = true := small_of (by have := r.len; omega)
  simp only [F_row_signed, x_def, x_entry, B_row_signed]
  simp [x_leave, wipeR, e, lc2Fin_ok, z2, restF]
/-! ### what cancels is left out -/
/-- a stack, its last item first -/
def push (st : Wds) (x : Str × Int) : Wds := match st with
  | y :: r => if y = (x.1, -x.2) then r else x :: y :: r
  | [] => [x]
def redS (st : Wds) (w : Wds) : Wds := w.foldl push st
def red (w : Wds) : Wds := (redS [] w).reverse
@[simp] theorem y_e_p (a b : Str) (s t : Int) : PyData.eqv (.tuple [.str a, .int s]) (.tuple [.str b, .int t]) = (a == b && s == t) := by
  show (PyData.eqv (.str a) (.str b) && (PyData.eqv (.int s) (.int t) && true)) = _
  rw [y_e_str, y_e_int, Bool.and_true]
theorem push_len (st : Wds) (x : Str × Int) : (push st x).length ≤ st.length + 1 := by
  unfold push
  cases st with
  | nil => simp
  | cons y r =>
    show (if y = (x.1, -x.2) then r else x :: y :: r).length ≤ _
    split
    · simp; omega
    · simp
theorem at_last1 {α : Type} (xs : List α) (x : α) : atI (xs ++ [x]) (-1) = some x := by
  have h : ¬ (0 : Int) ≤ -1 := by decide
  have e : ixN (xs ++ [x]).length (-1) = some xs.length := by
    unfold ixN
    rw [List.length_append]
    simp
    omega
  unfold atI
  rw [e]
  simp
theorem cancel_loop (d : PyData) : ∀ (w st : Wds) (s2 s3 : Sl), st.length + w.length ≤ 1000 → Fr s2 → Fr s3 →
    ∃ u v, loopF (tupT 2 (consTs (nmT 2) (consTs (nmT 3) (nilTs)))) L1_cancelled (w.map rowD) [.val (.dat d), .val (.ls (st.map rowD).reverse), s2, s3] = .nx [.val (.dat d), .val (.ls ((redS st w).map rowD).reverse), u, v]
  | [], st, s2, s3, _, _, _ => ⟨s2, s3, rfl⟩
  | x :: w, st, s2, s3, h, h2, h3 => by
    have hp := push_len st x
    have hz : small (st.length + 1) = true := small_of (by omega)
    obtain ⟨u, v, ih⟩ := cancel_loop d w (push st x) (.val (.dat (.str x.1))) (.val (.dat (.int x.2))) (by rw [List.length_cons] at h; omega) .val .val
    refine ⟨u, v, ?_⟩
    have b : L1_cancelled [.val (.dat d), .val (.ls (st.map rowD).reverse), .val (.dat (.str x.1)), .val (.dat (.int x.2))] = .nx [.val (.dat d), .val (.ls ((push st x).map rowD).reverse), .val (.dat (.str x.1)), .val (.dat (.int x.2))] := by
      cases st with
      | nil => simp [L1_cancelled, push, rowD]
      | cons y r =>
        have hz' : small (r.length + 1 + 1) = true := by simpa using hz
        have e1 : (y = (x.1, -x.2)) = (y.1 = x.1 ∧ y.2 = -x.2) := propext ⟨fun z => by rw [z]; exact ⟨rfl, rfl⟩, fun z => Prod.ext z.1 z.2⟩
        by_cases c : y.1 = x.1 ∧ y.2 = -x.2
        · simp [L1_cancelled, push, rowD, at_last1, e1, c]
        · simp [L1_cancelled, push, rowD, at_last1, e1, c, hz']
    rw [List.map_cons, x_loop_cons]
    rw [show redS st (x :: w) = redS (push st x) w from rfl]
    simp [rowD, x_fr h2, x_fr h3, b, ih]
theorem cancelled_ok (w : Wds) (h : w.length ≤ 1000) : F_cancelled [.dat (.list (w.map rowD))] = .ok (.ls ((red w).map rowD)) [.no] := by
  obtain ⟨u, v, e⟩ := cancel_loop (.list (w.map rowD)) w [] .no .no (by simpa using h) .no .no
  simp at e
  simp [F_cancelled, x_def, x_entry, x_leave, B_cancelled, e, red]
theorem word_ok {ks : List Kd} (r : Rw ks) : F_word [.dat (.list (ks.map Kd.dat))] = .ok (.ls ((red (rowSgn ks)).map rowD)) [.no] := by
  simp [F_word, x_def, x_entry, x_leave, B_word, checked_row_ok r, row_signed_ok r, cancelled_ok (rowSgn ks) (by have := r.len; omega)]
end Fn

namespace Fn
open PySem PySem.Spec PyProof.Rows L2 Ww Vs
/-! ### a table of sums -/
def cnt (w : Wds) (l : Str) : Int := ((w.filter fun x => decide (x.1 = l)).map (·.2)).sum
theorem cnt_app (a b : Wds) (l : Str) : cnt (a ++ b) l = cnt a l + cnt b l := by
  unfold cnt
  rw [List.filter_append, List.map_append, List.sum_append]
theorem cnt_one (x : Str × Int) (l : Str) : cnt [x] l = if x.1 = l then x.2 else 0 := by
  unfold cnt
  by_cases h : x.1 = l <;> simp [h]
theorem cnt_no {w : Wds} {l : Str} (h : l ∉ w.map (·.1)) : cnt w l = 0 := by
  unfold cnt
  have : (w.filter fun x => decide (x.1 = l)) = [] := List.filter_eq_nil_iff.mpr fun x hx z => h (List.mem_map.mpr ⟨x, hx, of_decide_eq_true z⟩)
  rw [this]
  rfl
def kadd (ks : List Str) (l : Str) : List Str := if l ∈ ks then ks else ks ++ [l]
def tab (ks : List Str) (c : Str → Int) : List (L2.Key × PyData) := ks.map fun l => (.inr l, .int (c l))
theorem valD_nil' (k : L2.Key) : valD [] k = none := rfl
theorem valD_cons' (x : L2.Key × PyData) (r : List (L2.Key × PyData)) (k : L2.Key) : valD (x :: r) k = if x.1 = k then some x.2 else valD r k := by
  unfold valD
  rw [List.find?_cons]
  by_cases h : x.1 = k <;> simp [h]
theorem val_tab (c : Str → Int) (l : Str) : ∀ ks : List Str, valD (tab ks c) (.inr l) = if l ∈ ks then some (.int (c l)) else none
  | [] => by simp [tab, valD_nil']
  | k :: ks => by
    show valD ((.inr k, .int (c k)) :: tab ks c) (.inr l) = _
    rw [valD_cons', val_tab c l ks]
    by_cases h : k = l
    · subst h; simp
    · have h2 : ¬ l = k := fun z => h z.symm
      simp [h, h2]
theorem put_tab (c c' : Str → Int) (l : Str) (ks : List Str) (hc : ∀ k, k ≠ l → c' k = c k) : putD (tab ks c) (.inr l) (.int (c' l)) = tab (kadd ks l) c' := by
  have ha : ((tab ks c).any fun kv => decide (kv.1 = Sum.inr l)) = decide (l ∈ ks) := by
    unfold tab
    induction ks with
    | nil => simp
    | cons k ks ih =>
      rw [List.map_cons, List.any_cons, ih]
      by_cases h : k = l
      · subst h; simp
      · have h2 : ¬ l = k := fun z => h z.symm
        simp [h, h2]
  unfold putD kadd
  rw [ha]
  by_cases h : l ∈ ks
  · rw [if_pos (by simpa using h), if_pos h]
    unfold tab
    rw [List.map_map]
    apply List.map_congr_left
    intro k _
    show (if (Sum.inr k : L2.Key) = Sum.inr l then ((Sum.inr k : L2.Key), PyData.int (c' l)) else (Sum.inr k, .int (c k))) = _
    by_cases e : k = l
    · subst e; simp
    · rw [if_neg (fun z => e (Sum.inr.inj z)), hc k e]
  · rw [if_neg (by simpa using h), if_neg h]
    unfold tab
    rw [List.map_append]
    congr 1
    apply List.map_congr_left
    intro k hk
    rw [hc k fun z => h (z ▸ hk)]
theorem kadd_nodup {ks : List Str} {l : Str} (h : ks.Nodup) : (kadd ks l).Nodup := by
  unfold kadd
  split
  · exact h
  · rename_i n
    exact List.nodup_append.mpr ⟨h, by simp, fun a ha b hb z => by rw [List.mem_singleton.mp hb] at z; exact n (z ▸ ha)⟩
theorem kadd_mem {ks : List Str} {l k : Str} : k ∈ kadd ks l ↔ k ∈ ks ∨ k = l := by
  unfold kadd
  split
  · rename_i h
    exact ⟨.inl, fun z => z.elim id fun z => z ▸ h⟩
  · simp
theorem kadd_len (ks : List Str) (l : Str) : (kadd ks l).length ≤ ks.length + 1 := by
  unfold kadd
  split <;> simp
def tkeys (ks : List Str) (w : Wds) : List Str := w.foldl (fun ks x => kadd ks x.1) ks
theorem tkeys_nodup : ∀ {w : Wds} {ks : List Str}, ks.Nodup → (tkeys ks w).Nodup
  | [], _, h => h
  | x :: w, ks, h => tkeys_nodup (w := w) (kadd_nodup h)
theorem tkeys_mem : ∀ {w : Wds} {ks : List Str} {k : Str}, k ∈ tkeys ks w ↔ k ∈ ks ∨ k ∈ w.map (·.1)
  | [], _, _ => by simp [tkeys]
  | x :: w, ks, k => by
    show k ∈ tkeys (kadd ks x.1) w ↔ _
    rw [tkeys_mem, kadd_mem, List.map_cons, List.mem_cons]
    exact ⟨fun z => z.elim (fun z => z.elim .inl fun z => .inr (.inl z)) fun z => .inr (.inr z), fun z => z.elim (fun z => .inl (.inl z)) fun z => z.elim (fun z => .inl (.inr z)) .inr⟩
theorem tkeys_len : ∀ (w : Wds) (ks : List Str), (tkeys ks w).length ≤ ks.length + w.length
  | [], _ => Nat.le_refl _
  | x :: w, ks => by
    have := tkeys_len w (kadd ks x.1)
    have := kadd_len ks x.1
    show (tkeys (kadd ks x.1) w).length ≤ _
    rw [List.length_cons]
    omega
theorem balance_loop (d : PyData) : ∀ (w : Wds) (ks : List Str) (c : Str → Int) (s2 s3 : Sl), (∀ k, k ∉ ks → c k = 0) → ks.length + w.length ≤ 1000 → Fr s2 → Fr s3 →
    ∃ u v, loopF (tupT 2 (consTs (nmT 2) (consTs (nmT 3) (nilTs)))) L1_balance (w.map rowD) [.val (.dat d), .val (.dk (tab ks c)), s2, s3] = .nx [.val (.dat d), .val (.dk (tab (tkeys ks w) fun l => c l + cnt w l)), u, v] ∧ Fr u ∧ Fr v
  | [], ks, c, s2, s3, _, _, h2, h3 => ⟨s2, s3, by
    have : (fun l => c l + cnt [] l) = c := funext fun l => by simp [cnt]
    rw [this]; rfl, h2, h3⟩
  | x :: w, ks, c, s2, s3, hc, hl, h2, h3 => by
    have kl := kadd_len ks x.1
    have hz : small ((tab ks c).length + 1) = true := small_of (by rw [tab, List.length_map]; rw [List.length_cons] at hl; omega)
    have hp := put_tab c (fun l => c l + if x.1 = l then x.2 else 0) x.1 ks fun k hk => by
      have : ¬ x.1 = k := fun z => hk z.symm
      simp [this]
    obtain ⟨u, v, ih, fu, fv⟩ := balance_loop d w (kadd ks x.1) (fun l => c l + if x.1 = l then x.2 else 0) (.val (.dat (.str x.1))) (.val (.dat (.int x.2))) (fun k hk => by
      have hk' : k ∉ ks ∧ ¬ k = x.1 := ⟨fun z => hk (kadd_mem.mpr (.inl z)), fun z => hk (kadd_mem.mpr (.inr z))⟩
      have : ¬ x.1 = k := fun z => hk'.2 z.symm
      simp [hc k hk'.1, this]) (by rw [List.length_cons] at hl; omega) .val .val
    refine ⟨u, v, ?_, fu, fv⟩
    have hv : (valD (tab ks c) (.inr x.1)).getD (.int 0) = .int (c x.1) := by
      rw [val_tab]
      by_cases h : x.1 ∈ ks
      · rw [if_pos h]; rfl
      · rw [if_neg h, hc _ h]; rfl
    have hp' : putD (tab ks c) (.inr x.1) (.int (c x.1 + x.2)) = tab (kadd ks x.1) fun l => c l + if x.1 = l then x.2 else 0 := by simpa using hp
    have b : L1_balance [.val (.dat d), .val (.dk (tab ks c)), .val (.dat (.str x.1)), .val (.dat (.int x.2))] = .nx [.val (.dat d), .val (.dk (tab (kadd ks x.1) fun l => c l + if x.1 = l then x.2 else 0)), .val (.dat (.str x.1)), .val (.dat (.int x.2))] := by
      simp [L1_balance, hv, hz, hp']
    have ef : (fun l => c l + (if x.1 = l then x.2 else 0) + cnt w l) = fun l => c l + cnt (x :: w) l := funext fun l => by
      have := cnt_app [x] w l
      rw [List.singleton_append, cnt_one] at this
      rw [this]
      omega
    rw [ef] at ih
    rw [List.map_cons, x_loop_cons, show tkeys ks (x :: w) = tkeys (kadd ks x.1) w from rfl]
    simp [rowD, x_fr h2, x_fr h3, b, ih]
theorem keys_tab (c : Str → Int) : ∀ ks : List Str, keysS (tab ks c) = some ks
  | [] => rfl
  | k :: ks => by
    show (keysS (tab ks c)).map _ = _
    rw [keys_tab c ks]
    rfl
/-- the sums of a word, 0 left out -/
def bal (w : Wds) : Wds := ((sortU (w.map (·.1))).filter fun l => !(cnt w l == 0)).map fun l => (l, cnt w l)
theorem sortU_same {xs ys : List Str} (h : ∀ k, k ∈ xs ↔ k ∈ ys) : sortU xs = sortU ys := ((sortU_srt xs).same h).eq (sortU_srt ys)
theorem insU_le (x : Str) : ∀ l : List Str, (insU x l).length ≤ l.length + 1
  | [] => by simp [insU]
  | y :: l => by
    unfold insU
    have := insU_le x l
    split
    · simp
    · split <;> simp <;> omega
theorem sortU_le : ∀ l : List Str, (sortU l).length ≤ l.length
  | [] => Nat.le_refl 0
  | x :: l => by
    have h1 := sortU_le l
    have h2 := insU_le x (sortU l)
    show (insU x (sortU l)).length ≤ l.length + 1
    omega
theorem balance_ok {ks : List Kd} (r : Rw ks) : F_balance [.dat (.list (ks.map Kd.dat))] = .ok (.ls ((bal (rowSgn ks)).map rowD)) [.no] := by
  have hw := r.len
  generalize hw0 : rowSgn ks = w at hw
  obtain ⟨u, v, e, fu, fv⟩ := balance_loop (.list (ks.map Kd.dat)) w [] (fun _ => 0) .no .no (fun _ _ => rfl) (by simp; omega) .no .no
  have e0 : tab [] (fun _ => 0) = [] := rfl
  have ec : (fun l => (0 : Int) + cnt w l) = cnt w := funext fun l => Int.zero_add _
  rw [e0, ec] at e
  have nd : (tkeys [] w).Nodup := tkeys_nodup .nil
  have ln := tkeys_len w []
  rw [List.length_nil] at ln
  have es : sortU (tkeys [] w) = sortU (w.map (·.1)) := sortU_same fun k => by rw [tkeys_mem]; simp
  have rs := row_signed_ok r
  rw [hw0] at rs
  have lc : lcL (nmT 2) (tstF (op2 neO (tmpF (ixS 1 (varF 2))) (tmpF (cF (.int 0))))) (tupF (consA (varF 2) (consA (ixS 1 (varF 2)) (nilA)))) [2] ((sortU (w.map (·.1))).map .str) [.val (.dat (.list (ks.map Kd.dat))), .val (.dk (tab (tkeys [] w) (cnt w))), .no, v]
      = .ok ((bal w).map rowD) [.val (.dat (.list (ks.map Kd.dat))), .val (.dk (tab (tkeys [] w) (cnt w))), .no, v] := by
    rw [lcL_filterT .str (fun l => !(cnt w l == 0)) (fun l => rowD (l, cnt w l))]
    · rw [bal, List.map_map]
      rfl
    · intro l hl
      have hm : l ∈ tkeys [] w := by
        rw [tkeys_mem]
        exact .inr ((sortU_srt _).mem l |>.1 hl)
      have hv : valD (tab (tkeys [] w) (cnt w)) (.inr l) = some (.int (cnt w l)) := by rw [val_tab, if_pos hm]
      let ρ1 : En := [.val (.dat (.list (ks.map Kd.dat))), .val (.dk (tab (tkeys [] w) (cnt w))), .val (.dat (.str l)), v]
      refine ⟨ρ1, ρ1, by simp [ρ1], by simp [ρ1, dIx, hv], fun _ => by simp [ρ1, wipeR], fun _ => ⟨ρ1, .dat (rowD (l, cnt w l)), by simp [ρ1, dIx, hv, rowD], rfl, by simp [ρ1, wipeR]⟩⟩
  have l64 : (tkeys [] w).length < 64 := by omega
  have z1 : small (sortU (w.map (·.1))).length = true := small_of (by have := sortU_le (w.map (·.1)); rw [List.length_map] at this; omega)
  rcases fu with rfl | ⟨o, rfl⟩
  · simp [F_balance, x_def, x_entry, x_leave, B_balance, checked_row_ok r, rs, e, keys_tab, nd, l64, es, lc, z1, wipeR]
  · cases o <;> simp [F_balance, x_def, x_entry, x_leave, B_balance, checked_row_ok r, rs, e, keys_tab, nd, l64, es, lc, z1, wipeR, restK]
end Fn

namespace Fn
open PySem PySem.Spec PyProof.Rows L2 Ww Vs
/-! ### a word as a text -/
def hd (s : Str) : Nat := s.cps.toList.headD 0
def cdn (x : Str × Int) : Nat := if x.2 = 1 then hd x.1 else hd x.1 - 32
def enc (w : Wds) : Str := ⟨(w.map cdn).toArray⟩
def inv (w : Wds) : Wds := (w.map fun x => (x.1, -x.2)).reverse
def T1 (c : Nat) : Str := ⟨#[c]⟩
theorem let_cd {s : Str} (h : Let s) : s = T1 (hd s) ∧ 97 ≤ hd s ∧ hd s ≤ 122 := by
  obtain ⟨c, rfl, h1, h2⟩ := h
  exact ⟨rfl, h1, h2⟩
theorem hd_T1 (c : Nat) : hd (T1 c) = c := rfl
theorem up_lo' : ∀ c, c < 128 → 97 ≤ c → c ≤ 122 → Txt.isupper (T1 c) = false ∧ Txt.upper (T1 c) = T1 (c - 32) ∧ Txt.lower (T1 c) = T1 c := by decide +kernel
theorem lo_up' : ∀ c, c < 128 → 97 ≤ c → c ≤ 122 → Txt.isupper (T1 (c - 32)) = true ∧ Txt.lower (T1 (c - 32)) = T1 c := by decide +kernel
theorem up_lo {c : Nat} (h1 : 97 ≤ c) (h2 : c ≤ 122) : Txt.isupper (T1 c) = false ∧ Txt.upper (T1 c) = T1 (c - 32) ∧ Txt.lower (T1 c) = T1 c := up_lo' c (by omega) h1 h2
theorem lo_up {c : Nat} (h1 : 97 ≤ c) (h2 : c ≤ 122) : Txt.isupper (T1 (c - 32)) = true ∧ Txt.lower (T1 (c - 32)) = T1 c := lo_up' c (by omega) h1 h2
theorem Sg.at {w : Wds} (h : Sg w) {x : Str × Int} (m : x ∈ w) : x.1 = T1 (hd x.1) ∧ 97 ≤ hd x.1 ∧ hd x.1 ≤ 122 ∧ (x.2 = 1 ∨ x.2 = -1) := by
  obtain ⟨a, b, c⟩ := let_cd (h x m).1
  exact ⟨a, b, c, (h x m).2⟩
theorem inv_sg {w : Wds} (h : Sg w) : Sg (inv w) := fun x m => by
  obtain ⟨y, hy, rfl⟩ := List.mem_map.mp (List.mem_reverse.mp m)
  obtain ⟨a, b⟩ := h y hy
  exact ⟨a, by show -y.2 = 1 ∨ -y.2 = -1; omega⟩
theorem enc_cps (w : Wds) : (enc w).cps.toList = w.map cdn := rfl
theorem enc_len (w : Wds) : (enc w).length = w.length := by show (w.map cdn).toArray.size = _; simp
theorem enc_app (a b : Wds) : enc (a ++ b) = enc a ++ enc b := by
  apply str_ext
  show (enc (a ++ b)).cps.toList = ((enc a).cps ++ (enc b).cps).toList
  rw [Array.toList_append, enc_cps, enc_cps, enc_cps, List.map_append]
@[simp] theorem inv_app (a b : Wds) : inv (a ++ b) = inv b ++ inv a := by simp [inv]
@[simp] theorem inv_inv (a : Wds) : inv (inv a) = a := by simp [inv, List.map_reverse, Function.comp_def]
theorem sgn_neg : ∀ (k : Kd), k.ok → k.sgn (-1) = inv (k.sgn 1)
  | .pl x, _ => by simp [Kd.sgn, inv]
  | .nd f a b, ⟨hf, oa, ob⟩ => by
    have ha := sgn_neg a oa
    have hb := sgn_neg b ob
    rcases hf with rfl | rfl | rfl <;> simp [Kd.sgn, ha, hb]
/-! ### flipped, undone, the line of a kind -/
theorem flipped_ok {x : Str × Int} (h1 : x.1 = T1 (hd x.1)) (h2 : 97 ≤ hd x.1) (h3 : hd x.1 ≤ 122) (h4 : x.2 = 1 ∨ x.2 = -1) : F_flipped [.dat (.str (T1 (cdn x)))] = .ok (.dat (.str (T1 (cdn (x.1, -x.2))))) [.no] := by
  obtain ⟨u1, u2, u3⟩ := up_lo h2 h3
  obtain ⟨l1, l2⟩ := lo_up h2 h3
  have z : ∀ c, (T1 c).length ≤ 1000 := fun c => by show 1 ≤ 1000; omega
  rcases h4 with e | e
  · simp [F_flipped, x_def, x_entry, x_leave, B_flipped, cdn, e, u1, u2, z]
  · simp [F_flipped, x_def, x_entry, x_leave, B_flipped, cdn, e, l1, l2, z]
theorem join_T1 (cs : List Nat) : Txt.join (Str.ofString "") (cs.map T1) = ⟨cs.toArray⟩ := by
  apply str_ext
  rw [join_cps]
  simp [List.flatMap_map, T1, List.flatMap_singleton']
theorem joinO_T1 (cs : List Nat) (h : cs.length ≤ 1000) : joinO (.dat (.str (Str.ofString ""))) (.ls (cs.map fun c => .str (T1 c))) = some (.dat (.str ⟨cs.toArray⟩)) := by
  have e0 : (Str.ofString "").length = 0 := by decide +kernel
  have e1 : (cs.map fun c => PyData.str (T1 c)) = (cs.map T1).map .str := by rw [List.map_map]; rfl
  have e2 : ((cs.map T1).map (·.length)).sum = cs.length := by
    rw [List.map_map]
    clear h e1
    induction cs with
    | nil => rfl
    | cons c cs ih => rw [List.map_cons, List.sum_cons, ih, List.length_cons]; show 1 + cs.length = _; omega
  rw [e1]
  show ((some ((cs.map T1).map PyData.str)).bind allStr).bind _ = _
  rw [Option.bind_some, allStr_map, Option.bind_some, if_pos (by rw [e2, e0]; omega), join_T1]
theorem enc_chars (w : Wds) : (List.map (fun c => PyData.str { cps := #[c] }) (enc w).cps.toList) = w.map fun x => PyData.str (T1 (cdn x)) := by
  rw [enc_cps, List.map_map]
  rfl
theorem undone_ok {w : Wds} (h : Sg w) (hl : w.length ≤ 500) : F_undone [.dat (.str (enc w))] = .ok (.dat (.str (enc (inv w)))) [.no] := by
  have lc : lcL (nmT 1) yesT (callF F_flipped (consC (aD (varF 1)) (nilC))) [1] (w.map fun x => PyData.str (T1 (cdn x))).reverse [.val (.dat (.str (enc w))), .no] = .ok (w.map fun x => PyData.str (T1 (cdn (x.1, -x.2)))).reverse [.val (.dat (.str (enc w))), .no] := by
    rw [← List.map_reverse, ← List.map_reverse]
    refine lcL_mapT (fun x : Str × Int => PyData.str (T1 (cdn x))) (fun x => PyData.str (T1 (cdn (x.1, -x.2)))) fun x hx => ?_
    obtain ⟨a, b, c, d⟩ := h.at (List.mem_reverse.mp hx)
    have f := flipped_ok a b c d
    exact ⟨_, _, .dat (.str (T1 (cdn (x.1, -x.2)))), by simp; rfl, by simp [f]; rfl, rfl, by simp [wipeR]⟩
  have e2 : (w.map fun x => PyData.str (T1 (cdn (x.1, -x.2)))).reverse = ((inv w).map cdn).map fun c => PyData.str (T1 c) := by
    simp [inv, Function.comp_def]
  have ln : (inv w).length = w.length := by simp [inv]
  have j := joinO_T1 ((inv w).map cdn) (by rw [List.length_map, ln]; omega)
  rw [← e2] at j
  have z1 : (enc w).length ≤ 1000 := by rw [enc_len]; omega
  have z2 : small w.length = true := small_of (by omega)
  simp [F_undone, x_def, x_entry, x_leave, B_undone, z1, z2, enc_chars, lc, j]
  rfl
theorem line_ok : ∀ (n : Nat) (k : Kd), k.ok → k.deep ≤ n → k.letters.length ≤ 200 → F_line_k04 n [.dat k.dat] = .ok (.dat (.str (enc (k.sgn 1)))) [.no]
  | 0, k, _, h, _ => by have := k.deep_pos; omega
  | n + 1, .pl y, ok, _, _ => by
    have e : enc [(y, 1)] = y := by
      obtain ⟨a, _, _⟩ := let_cd ok
      show (⟨#[hd y]⟩ : Str) = y
      exact a.symm
    simp [F_line_k04, x_def, x_entry, x_leave, B_line_k04, Kd.sgn, e]
  | n + 1, .nd f a b, ⟨hf, oa, ob⟩, h, hz => by
    have dm : 1 + max a.deep b.deep ≤ n + 1 := h
    have lz : (a.letters ++ b.letters).length ≤ 200 := hz
    rw [List.length_append] at lz
    have ea := line_ok n a oa (by omega) (by omega)
    have eb := line_ok n b ob (by omega) (by omega)
    have la := a.sgn_len 1
    have lb := b.sgn_len 1
    have sa := sgn_sg a 1 oa (.inl rfl)
    have sb := sgn_sg b 1 ob (.inl rfl)
    have ua := undone_ok sa (by omega)
    have ub := undone_ok sb (by omega)
    have li : ∀ w : Wds, (inv w).length = w.length := fun w => by simp [inv]
    have z1 : small ((enc (a.sgn 1)).length + (enc (b.sgn 1)).length) = true := small_of (by rw [enc_len, enc_len]; omega)
    have z2 : small ((enc (a.sgn 1)).length + (enc (inv (b.sgn 1))).length) = true := small_of (by rw [enc_len, enc_len, li]; omega)
    have z3 : small ((enc (inv (a.sgn 1))).length + (enc (b.sgn 1)).length) = true := small_of (by rw [enc_len, enc_len, li]; omega)
    rcases hf with rfl | rfl | rfl
    · simp [F_line_k04, x_def, x_entry, x_leave, B_line_k04, Kd.sgn, ea, eb, ua, ub, z1, z2, z3, sgn_neg a oa, sgn_neg b ob, enc_app]
    · simp [F_line_k04, x_def, x_entry, x_leave, B_line_k04, Kd.sgn, ea, eb, ua, ub, z1, z2, z3, sgn_neg a oa, sgn_neg b ob, enc_app]
    · simp [F_line_k04, x_def, x_entry, x_leave, B_line_k04, Kd.sgn, ea, eb, ua, ub, z1, z2, z3, sgn_neg a oa, sgn_neg b ob, enc_app]
theorem pairs_ok {w : Wds} (h : Sg w) (hl : w.length ≤ 500) : F_pairs [.dat (.str (enc w))] = .ok (.ls (w.map rowD)) [.no] := by
  have lc : lcL (nmT 1) yesT (tupF (consA (op1 lowerO (slotF 1)) (consA (op2 ixO (tmpF (lstF (consA (cF (.int 1)) (consA (op1 negO (tmpF (cF (.int 1)))) (nilA))))) (tmpF (op1 intO (tmpF (op1 isupO (slotF 1)))))) (nilA)))) [1] (w.map fun x => PyData.str (T1 (cdn x))) [.val (.dat (.str (enc w))), .no] = .ok (w.map rowD) [.val (.dat (.str (enc w))), .no] := by
    refine lcL_mapT (fun x : Str × Int => PyData.str (T1 (cdn x))) rowD fun x hx => ?_
    obtain ⟨a, b, c, d⟩ := h.at hx
    obtain ⟨u1, u2, u3⟩ := up_lo b c
    obtain ⟨l1, l2⟩ := lo_up b c
    have z : ∀ c, (T1 c).length ≤ 1000 := fun c => by show 1 ≤ 1000; omega
    refine ⟨[.val (.dat (.str (enc w))), .val (.dat (.str (T1 (cdn x))))], [.val (.dat (.str (enc w))), .val (.dat (.str (T1 (cdn x))))], .dat (rowD x), by simp, ?_, rfl, by simp [wipeR]⟩
    have ra : rowD x = .tuple [.str (T1 (hd x.1)), .int x.2] := by rw [← a]; rfl
    rw [ra]
    rcases d with e | e
    · simp [cdn, e, u1, u3, z]
    · simp [cdn, e, l1, l2, z]
  have z2 : small w.length = true := small_of (by omega)
  simp [F_pairs, x_def, x_entry, x_leave, B_pairs, z2, enc_chars, lc]
/-! ### counted -/
theorem lower_enc {w : Wds} (h : Sg w) : Txt.lower (enc w) = ⟨(w.map fun x => hd x.1).toArray⟩ := by
  rw [lower_ascii]
  · apply str_ext
    show ((enc w).cps.map lo1).toList = _
    rw [Array.toList_map, enc_cps, List.map_map]
    apply List.map_congr_left
    intro x hx
    obtain ⟨a, b, c, d⟩ := h.at hx
    show lo1 (cdn x) = hd x.1
    unfold cdn lo1
    rcases d with e | e
    · simp [e]
      omega
    · simp [e]
      rw [if_pos (by omega)]
      omega
  · intro c hc
    rw [enc_cps] at hc
    obtain ⟨x, hx, rfl⟩ := List.mem_map.mp hc
    obtain ⟨a, b, c, d⟩ := h.at hx
    unfold cdn
    split <;> omega
theorem letters1_enc {w : Wds} (h : Sg w) : letters1 (Txt.lower (enc w)) = w.map (·.1) := by
  rw [lower_enc h]
  show (w.map fun x => hd x.1).map (fun c => (⟨#[c]⟩ : Str)) = _
  rw [List.map_map]
  apply List.map_congr_left
  intro x hx
  exact (h.at hx).1.symm
theorem names_ok {w : Wds} (h : Sg w) (hl : w.length ≤ 60) : sortedTxtO (.dat (.str (Txt.lower (enc w)))) = some (.ls ((sortU (w.map (·.1))).map .str)) := by
  have hdd := dedup_len (w.map (·.1)) []
  have z : (Txt.lower (enc w)).length ≤ 1000 := by
    rw [lower_enc h]
    show (w.map fun x => hd x.1).toArray.size ≤ _
    simp
    omega
  rw [x_sortedTxt, letters1_enc h, if_pos ⟨z, by rw [List.length_map, List.length_nil] at hdd; omega⟩]
end Fn

namespace Fn
open PySem PySem.Spec PyProof.Rows L2 Ww Vs
/-! ### words: what cancels -/
def neg (x : Str × Int) : Str × Int := (x.1, -x.2)
@[simp] theorem neg_neg (x : Str × Int) : neg (neg x) = x := by simp [neg]
theorem neg_ne {x : Str × Int} (h : x.2 = 1 ∨ x.2 = -1) : neg x ≠ x := fun z => by
  have := congrArg Prod.snd z
  have : -x.2 = x.2 := this
  omega
/-- a stack in which nothing cancels -/
def RSt : Wds → Prop
  | y :: z :: r => z ≠ neg y ∧ RSt (z :: r)
  | _ => True
theorem RSt.tail {y : Str × Int} {r : Wds} (h : RSt (y :: r)) : RSt r := by
  cases r with
  | nil => trivial
  | cons z r => exact h.2
theorem push_def (st : Wds) (x : Str × Int) : push st x = match st with
    | y :: r => if y = neg x then r else x :: y :: r
    | [] => [x] := rfl
theorem push_rst {st : Wds} (h : RSt st) (x : Str × Int) : RSt (push st x) := by
  rw [push_def]
  cases st with
  | nil => trivial
  | cons y r =>
    show RSt (if y = neg x then r else x :: y :: r)
    split
    · exact h.tail
    · rename_i n
      exact ⟨n, h⟩
theorem push_back {st : Wds} (h : RSt st) (x : Str × Int) (hx : x.2 = 1 ∨ x.2 = -1) : push (push st x) (neg x) = st := by
  rw [push_def st]
  cases st with
  | nil =>
    show (if x = neg (neg x) then [] else neg x :: x :: []) = []
    rw [neg_neg, if_pos rfl]
  | cons y r =>
    show push (if y = neg x then r else x :: y :: r) (neg x) = y :: r
    by_cases e : y = neg x
    · rw [if_pos e]
      subst e
      cases r with
      | nil => rfl
      | cons z r =>
        have n : z ≠ neg (neg x) := h.1
        show (if z = neg (neg x) then r else neg x :: z :: r) = _
        rw [if_neg n]
    · rw [if_neg e]
      show (if x = neg (neg x) then y :: r else _) = _
      rw [neg_neg, if_pos rfl]
theorem redS_app (st a b : Wds) : redS st (a ++ b) = redS (redS st a) b := List.foldl_append
theorem redS_rst : ∀ {w st : Wds}, RSt st → RSt (redS st w)
  | [], _, h => h
  | x :: w, _, h => redS_rst (w := w) (push_rst h x)
/-- all pairs x, neg x taken out, from the left -/
def rmv (x : Str × Int) : Wds → Wds
  | y :: z :: r => if y = x ∧ z = neg x then rmv x r else y :: rmv x (z :: r)
  | w => w
theorem rmv_two (x y z : Str × Int) (r : Wds) : rmv x (y :: z :: r) = if y = x ∧ z = neg x then rmv x r else y :: rmv x (z :: r) := by
  rw [rmv]
theorem rmv_nil (x : Str × Int) : rmv x [] = [] := by
  unfold rmv
  rfl
theorem rmv_one (x y : Str × Int) : rmv x [y] = [y] := by
  unfold rmv
  rfl
theorem rmv_red (x : Str × Int) (hx : x.2 = 1 ∨ x.2 = -1) : ∀ (n : Nat) (w st : Wds), w.length ≤ n → RSt st → redS st (rmv x w) = redS st w
  | _, [], _, _, _ => by rw [rmv_nil]
  | _, [y], _, _, _ => by rw [rmv_one]
  | 0, _ :: _ :: _, _, h, _ => by simp at h
  | n + 1, y :: z :: r, st, h, hs => by
    rw [rmv_two]
    simp only [List.length_cons] at h
    by_cases c : y = x ∧ z = neg x
    · rw [if_pos c, rmv_red x hx n r st (by omega) hs]
      obtain ⟨rfl, rfl⟩ := c
      show redS st r = redS (push (push st y) (neg y)) r
      rw [push_back hs y hx]
    · rw [if_neg c]
      show redS (push st y) (rmv x (z :: r)) = redS (push st y) (z :: r)
      exact rmv_red x hx n (z :: r) _ (by simp; omega) (push_rst hs y)
theorem rmv_len (x : Str × Int) : ∀ (n : Nat) (w : Wds), w.length ≤ n → (rmv x w).length ≤ w.length
  | _, [], _ => by rw [rmv_nil]; simp
  | _, [y], _ => by rw [rmv_one]; simp
  | 0, _ :: _ :: _, h => by simp at h
  | n + 1, y :: z :: r, h => by
    rw [rmv_two]
    simp only [List.length_cons] at h
    split
    · have := rmv_len x n r (by omega)
      simp only [List.length_cons]
      omega
    · have := rmv_len x n (z :: r) (by simp; omega)
      simp only [List.length_cons] at this ⊢
      omega
theorem rmv_sub (x : Str × Int) : ∀ (n : Nat) (w : Wds), w.length ≤ n → ∀ y ∈ rmv x w, y ∈ w
  | _, [], _ => by rw [rmv_nil]; exact fun y h => h
  | _, [y], _ => by rw [rmv_one]; exact fun y h => h
  | 0, _ :: _ :: _, h => by simp at h
  | n + 1, y :: z :: r, h => by
    rw [rmv_two]
    simp only [List.length_cons] at h
    split
    · exact fun u hu => List.mem_cons_of_mem _ (List.mem_cons_of_mem _ (rmv_sub x n r (by omega) u hu))
    · intro u hu
      rcases List.mem_cons.mp hu with w | w
      · rw [w]; exact List.mem_cons_self
      · exact List.mem_cons_of_mem _ (rmv_sub x n (z :: r) (by simp; omega) u w)
/-- no pair x, neg x stands side by side -/
def NoP (x : Str × Int) : Wds → Prop
  | y :: z :: r => ¬ (y = x ∧ z = neg x) ∧ NoP x (z :: r)
  | _ => True
/-- either nothing was there, or it is shorter by two -/
theorem rmv_or (x : Str × Int) : ∀ (n : Nat) (w : Wds), w.length ≤ n → (rmv x w = w ∧ NoP x w) ∨ (rmv x w).length + 2 ≤ w.length
  | _, [], _ => .inl ⟨by first | exact rmv_nil _ | exact rmv_one _ _, trivial⟩
  | _, [y], _ => .inl ⟨by first | exact rmv_nil _ | exact rmv_one _ _, trivial⟩
  | 0, _ :: _ :: _, h => by simp at h
  | n + 1, y :: z :: r, h => by
    rw [rmv_two]
    simp only [List.length_cons] at h
    by_cases c : y = x ∧ z = neg x
    · rw [if_pos c]
      have := rmv_len x r.length r (Nat.le_refl _)
      exact .inr (by simp only [List.length_cons]; omega)
    · rw [if_neg c]
      rcases rmv_or x n (z :: r) (by simp; omega) with ⟨e, p⟩ | q
      · exact .inl ⟨by rw [e], c, p⟩
      · refine .inr ?_
        simp only [List.length_cons] at q ⊢
        omega
/-- one letter's turn -/
def turn1 (w : Wds) (a : Str) : Wds := rmv (a, -1) (rmv (a, 1) w)
theorem turn1_red (w : Wds) (a : Str) : red (turn1 w a) = red w := by
  unfold red turn1
  have n0 : RSt [] := trivial
  rw [rmv_red _ (.inr rfl) _ _ _ (Nat.le_refl _) n0, rmv_red _ (.inl rfl) _ _ _ (Nat.le_refl _) n0]
theorem turn1_sub (w : Wds) (a : Str) : ∀ y ∈ turn1 w a, y ∈ w := fun y h => rmv_sub _ _ _ (Nat.le_refl _) y (rmv_sub _ _ _ (Nat.le_refl _) y h)
theorem turn1_or (w : Wds) (a : Str) : (turn1 w a = w ∧ NoP (a, 1) w ∧ NoP (a, -1) w) ∨ (turn1 w a).length + 2 ≤ w.length := by
  unfold turn1
  have l2 := rmv_len (a, -1) _ (rmv (a, 1) w) (Nat.le_refl _)
  rcases rmv_or (a, 1) _ w (Nat.le_refl _) with ⟨e, p⟩ | q
  · rw [e] at l2 ⊢
    rcases rmv_or (a, -1) _ w (Nat.le_refl _) with ⟨e2, p2⟩ | q2
    · exact .inl ⟨e2, p, p2⟩
    · exact .inr q2
  · exact .inr (by omega)
def round (w : Wds) (ns : List Str) : Wds := ns.foldl turn1 w
theorem round_red : ∀ (ns : List Str) (w : Wds), red (round w ns) = red w
  | [], _ => rfl
  | a :: ns, w => by
    show red (round (turn1 w a) ns) = _
    rw [round_red ns, turn1_red]
theorem round_sub : ∀ (ns : List Str) (w : Wds), ∀ y ∈ round w ns, y ∈ w
  | [], _, y, h => h
  | a :: ns, w, y, h => turn1_sub w a y (round_sub ns (turn1 w a) y h)
theorem round_len : ∀ (ns : List Str) (w : Wds), (round w ns).length ≤ w.length
  | [], _ => Nat.le_refl _
  | a :: ns, w => by
    have h1 := round_len ns (turn1 w a)
    have h2 : (turn1 w a).length ≤ w.length := by
      rcases turn1_or w a with ⟨e, _⟩ | q
      · rw [e]; exact Nat.le_refl _
      · omega
    exact Nat.le_trans h1 h2
theorem round_or : ∀ (ns : List Str) (w : Wds), (round w ns = w ∧ ∀ a ∈ ns, NoP (a, 1) w ∧ NoP (a, -1) w) ∨ (round w ns).length + 2 ≤ w.length
  | [], w => .inl ⟨rfl, fun _ z => nomatch z⟩
  | a :: ns, w => by
    show (round (turn1 w a) ns = w ∧ _) ∨ (round (turn1 w a) ns).length + 2 ≤ w.length
    have l := round_len ns (turn1 w a)
    rcases turn1_or w a with ⟨e, p⟩ | q
    · rw [e]
      rcases round_or ns w with ⟨e2, p2⟩ | q2
      · refine .inl ⟨e2, fun b hb => ?_⟩
        rcases List.mem_cons.mp hb with z | z
        · rw [z]; exact p
        · exact p2 b z
      · exact .inr q2
    · exact .inr (by omega)
/-- nothing cancels -/
def Rd' : Wds → Prop
  | y :: z :: r => z ≠ neg y ∧ Rd' (z :: r)
  | _ => True
theorem rd_of : ∀ {w : Wds}, Sg w → (∀ x ∈ w, NoP (x.1, 1) w ∧ NoP (x.1, -1) w) → Rd' w
  | [], _, _ => trivial
  | [_], _, _ => trivial
  | y :: z :: r, hs, h => by
    refine ⟨fun e => ?_, rd_of (w := z :: r) (fun x m => hs x (List.mem_cons_of_mem _ m)) fun x m => ⟨(h x (List.mem_cons_of_mem _ m)).1.2, (h x (List.mem_cons_of_mem _ m)).2.2⟩⟩
    obtain ⟨p, q⟩ := h y List.mem_cons_self
    rcases (hs y List.mem_cons_self).2 with s | s
    · refine p.1 ⟨Prod.ext rfl s, ?_⟩
      rw [e]
      exact Prod.ext rfl (by show -y.2 = -1; rw [s])
    · refine q.1 ⟨Prod.ext rfl s, ?_⟩
      rw [e]
      exact Prod.ext rfl (by show -y.2 = - -1; rw [s])
theorem rd_red : ∀ {w st : Wds}, Rd' w → (∀ y r x v, st = y :: r → w = x :: v → x ≠ neg y) → redS st w = w.reverse ++ st
  | [], st, _, _ => rfl
  | x :: w, st, h, hh => by
    have e : push st x = x :: st := by
      rw [push_def]
      cases st with
      | nil => rfl
      | cons y r =>
        show (if y = neg x then r else x :: y :: r) = _
        rw [if_neg fun z => hh y r x w rfl rfl (by rw [z, neg_neg])]
    show redS (push st x) w = _
    rw [e, rd_red (w := w) (st := x :: st) (by
      cases w with
      | nil => trivial
      | cons z r => exact h.2) (fun y r u v e1 e2 => by
      cases e1
      subst e2
      exact h.1)]
    simp
theorem red_self {w : Wds} (h : Rd' w) : red w = w := by
  unfold red
  rw [rd_red h fun y r x v e => by cases e]
  simp
end Fn

namespace Fn
open PySem PySem.Spec PyProof.Rows L2 Ww Vs
def Sg1 (x : Str × Int) : Prop := Let x.1 ∧ (x.2 = 1 ∨ x.2 = -1)
theorem cdn_inj {x y : Str × Int} (hx : Sg1 x) (hy : Sg1 y) (h : cdn x = cdn y) : x = y := by
  obtain ⟨a1, b1, c1⟩ := let_cd hx.1
  obtain ⟨a2, b2, c2⟩ := let_cd hy.1
  unfold cdn at h
  rcases hx.2 with e1 | e1 <;> rcases hy.2 with e2 | e2
  · simp [e1, e2] at h
    exact Prod.ext (by rw [a1, a2, h]) (by rw [e1, e2])
  · simp [e1, e2] at h
    omega
  · simp [e1, e2] at h
    omega
  · simp [e1, e2] at h
    exact Prod.ext (by rw [a1, a2, show hd x.1 = hd y.1 by omega]) (by rw [e1, e2])
theorem neg_sg {x : Str × Int} (h : Sg1 x) : Sg1 (neg x) := ⟨h.1, by show -x.2 = 1 ∨ -x.2 = -1; have := h.2; omega⟩
theorem repl_rmv {x : Str × Int} (hx : Sg1 x) : ∀ (n : Nat) (w : Wds), w.length ≤ n → Sg w → StrLaws.replL [cdn x, cdn (neg x)] [] (w.map cdn) = (rmv x w).map cdn
  | _, [], _, _ => by rw [rmv_nil]; exact StrLaws.replL_nil
  | _, [y], _, _ => by
    rw [rmv_one, List.map_cons, List.map_nil, StrLaws.replL_miss (by simp), StrLaws.replL_nil]
  | 0, _ :: _ :: _, h, _ => by simp at h
  | n + 1, y :: z :: r, h, hs => by
    simp only [List.length_cons] at h
    have hy := hs y List.mem_cons_self
    have hz := hs z (List.mem_cons_of_mem _ List.mem_cons_self)
    have hr : Sg (z :: r) := fun u m => hs u (List.mem_cons_of_mem _ m)
    rw [rmv_two]
    by_cases c : y = x ∧ z = neg x
    · rw [if_pos c]
      obtain ⟨rfl, rfl⟩ := c
      rw [List.map_cons, List.map_cons, StrLaws.replL_hit (by simp) (by simp)]
      simp only [List.length_cons, List.length_nil, List.drop_succ_cons, List.drop_zero, List.nil_append]
      exact repl_rmv hx n r (by omega) fun u m => hr u (List.mem_cons_of_mem _ m)
    · have ih := repl_rmv hx n (z :: r) (by simp; omega) hr
      rw [if_neg c, List.map_cons, StrLaws.replL_miss, ih, List.map_cons]
      intro e
      simp at e
      exact c ⟨cdn_inj hy hx e.1, cdn_inj hz (neg_sg hx) e.2⟩
theorem rep_ok {x : Str × Int} (hx : Sg1 x) {w : Wds} (h : Sg w) : Txt.replace (enc w) (T1 (cdn x) ++ T1 (cdn (neg x))) (Str.ofString "") = enc (rmv x w) := by
  apply str_ext
  rw [StrLaws.replace_list (by show 1 ≤ (#[cdn x] ++ #[cdn (neg x)]).size; simp)]
  have e1 : (T1 (cdn x) ++ T1 (cdn (neg x))).cps.toList = [cdn x, cdn (neg x)] := by
    show ((#[cdn x] : Array Nat) ++ #[cdn (neg x)]).toList = _
    simp
  have e2 : (Str.ofString "").cps.toList = [] := by decide +kernel
  rw [e1, e2, enc_cps, enc_cps]
  exact repl_rmv hx _ w (Nat.le_refl _) h
theorem rmv_sg {x : Str × Int} {w : Wds} (h : Sg w) : Sg (rmv x w) := fun y m => h y (rmv_sub _ _ _ (Nat.le_refl _) y m)
theorem round_sg {ns : List Str} {w : Wds} (h : Sg w) : Sg (round w ns) := fun y m => h y (round_sub ns w y m)
theorem ne_empty (a b : Nat) : ((T1 a ++ T1 b) == (Str.ofString "")) = false := by
  rw [beq_eq_false_iff_ne]
  intro z
  have := congrArg (fun s : Str => s.cps.size) z
  have e0 : (Str.ofString "").cps.size = 0 := by decide +kernel
  have e1 : (T1 a ++ T1 b).cps.size = 2 := by
    show ((#[a] : Array Nat) ++ #[b]).size = 2
    simp
  have : (T1 a ++ T1 b).cps.size = (Str.ofString "").cps.size := this
  omega
/-- one letter's turn in the text -/
theorem rest_step {w : Wds} (h : Sg w) (hl : w.length ≤ 60) {a : Str} (ha : Let a) (s1 s2 : Sl) : L1_rest [.val (.dat (.str (enc w))), s1, s2, .val (.dat (.str a))] = .nx [.val (.dat (.str (enc (turn1 w a)))), s1, s2, .val (.dat (.str a))] := by
  obtain ⟨e, b, c⟩ := let_cd ha
  obtain ⟨u1, u2, u3⟩ := up_lo b c
  have r1 := rep_ok (x := (a, 1)) ⟨ha, .inl rfl⟩ h
  have r2 := rep_ok (x := (a, -1)) ⟨ha, .inr rfl⟩ (rmv_sg (x := (a, 1)) h)
  have l1 := rmv_len (a, 1) _ w (Nat.le_refl _)
  have q1 : cdn (a, 1) = hd a := by simp [cdn]
  have q2 : cdn (neg (a, 1)) = hd a - 32 := by simp [cdn, neg]
  have q3 : cdn (a, -1) = hd a - 32 := by simp [cdn]
  have q4 : cdn (neg (a, -1)) = hd a := by simp [cdn, neg]
  rw [q1, q2] at r1
  rw [q3, q4] at r2
  have z : ∀ c, (T1 c).length = 1 := fun c => rfl
  have z0 : (Str.ofString "").length = 0 := by decide +kernel
  have z1 : (enc w).length ≤ 1000 := by rw [enc_len]; omega
  have z2 : (enc (rmv (a, 1) w)).length ≤ 1000 := by rw [enc_len]; omega
  generalize hd a = x at *
  subst e
  simp [L1_rest, u2, z, z0, z1, z2, ne_empty, r1, r2, turn1]
theorem rest_inner (s1 s2 : Sl) : ∀ (ns : List Str) (w : Wds) (s3 : Sl), Sg w → w.length ≤ 60 → (∀ a ∈ ns, Let a) → Fr s3 → ∃ u, Fr u ∧ loopF (nmT 3) L1_rest (ns.map .str) [.val (.dat (.str (enc w))), s1, s2, s3] = .nx [.val (.dat (.str (enc (round w ns)))), s1, s2, u]
  | [], w, s3, _, _, _, h3 => ⟨s3, h3, rfl⟩
  | a :: ns, w, s3, h, hl, hn, h3 => by
    have l1 : (turn1 w a).length ≤ w.length := round_len [a] w
    obtain ⟨u, fu, ih⟩ := rest_inner s1 s2 ns (turn1 w a) (.val (.dat (.str a))) (fun y m => h y (turn1_sub w a y m)) (by omega) (fun b hb => hn b (List.mem_cons_of_mem _ hb)) .val
    refine ⟨u, fu, ?_⟩
    rw [List.map_cons, x_loop_cons]
    simp [x_fr h3, rest_step h hl (hn a List.mem_cons_self), ih]
    rfl
end Fn

namespace Fn
open PySem PySem.Spec PyProof.Rows L2 Ww Vs
def RestI (w : Wds) (N : List Str) (i : Nat) (ρ : En) : Prop := ∃ (v : Wds) (s1 s2 s3 : Sl), ρ = [.val (.dat (.str (enc v))), s1, s2, s3] ∧ (s1 = .val (.ls (N.map .str)) ∨ s1 = .val (.dat (.list (N.map .str)))) ∧ Fr s2 ∧ Fr s3 ∧ Sg v ∧ red v = red w ∧ (∀ y ∈ v, y ∈ w) ∧ v.length ≤ w.length ∧ (Rd' v ∨ v.length + 2 * i ≤ w.length)
theorem rd_short {v : Wds} (h : v.length ≤ 1) : Rd' v := by
  match v, h with
  | [], _ => trivial
  | [_], _ => trivial
theorem NoP_of_rd {x : Str × Int} : ∀ {w : Wds}, Rd' w → NoP x w
  | [], _ => trivial
  | [_], _ => trivial
  | y :: z :: r, h => ⟨fun c => h.1 (by rw [c.1, c.2]), NoP_of_rd (w := z :: r) h.2⟩
theorem rmv_rd {x : Str × Int} {w : Wds} (h : NoP x w) : rmv x w = w := by
  rcases rmv_or x _ w (Nat.le_refl _) with ⟨e, _⟩ | q
  · exact e
  · exfalso
    have : ∀ (n : Nat) (w : Wds), w.length ≤ n → NoP x w → rmv x w = w := by
      intro n
      induction n with
      | zero =>
        intro w hl _
        match w, hl with
        | [], _ => exact rmv_nil x
      | succ n ih =>
        intro w hl hn
        match w, hl, hn with
        | [], _, _ => exact rmv_nil x
        | [y], _, _ => exact rmv_one x y
        | y :: z :: r, hl, hn =>
          rw [rmv_two, if_neg hn.1, ih (z :: r) (by simp only [List.length_cons] at hl ⊢; omega) hn.2]
    rw [this _ w (Nat.le_refl _) h] at q
    omega
theorem round_rd : ∀ {ns : List Str} {w : Wds}, Rd' w → round w ns = w
  | [], _, _ => rfl
  | a :: ns, w, h => by
    have e : turn1 w a = w := by
      unfold turn1
      rw [rmv_rd (x := (a, 1)) (NoP_of_rd h), rmv_rd (NoP_of_rd h)]
    show round (turn1 w a) ns = w
    rw [e]
    exact round_rd h
theorem rest_outer {w : Wds} {N : List Str} (hs : Sg w) (hl : w.length ≤ 60) (hN : ∀ a ∈ N, Let a) (hm : ∀ y ∈ w, y.1 ∈ N) : ∀ i ρ, i < w.length / 2 → RestI w N i ρ → ∃ ρ1 ρ2, (nmT 2).f (.int (i : Int)) ρ = some ρ1 ∧ (L2_rest ρ1 = .nx ρ2 ∨ L2_rest ρ1 = .ct ρ2) ∧ RestI w N (i + 1) ρ2 := by
  rintro i ρ hi ⟨v, s1, s2, s3, rfl, h1, h2, h3, sv, rv, mv, lv, ov⟩
  obtain ⟨u, fu, e⟩ := rest_inner (.val (.dat (.list (N.map .str)))) (.val (.dat (.int i))) N v s3 sv (by omega) hN h3
  have lr := round_len N v
  refine ⟨[.val (.dat (.str (enc v))), s1, .val (.dat (.int i)), s3], [.val (.dat (.str (enc (round v N)))), .val (.dat (.list (N.map .str))), .val (.dat (.int i)), u], by simp [x_fr h2], .inl ?_, round v N, _, _, u, rfl, .inr rfl, .val, fu, round_sg sv, (round_red N v).trans rv, fun y m => mv y (round_sub N v y m), by omega, ?_⟩
  · rcases h1 with rfl | rfl <;> simp [L2_rest, e]
  · rcases ov with o | o
    · rw [round_rd o]; exact .inl o
    · rcases round_or N v with ⟨q, p⟩ | q
      · rw [q]
        exact .inl (rd_of sv fun x m => p x.1 (hm x (mv x m)))
      · exact .inr (by omega)
theorem rest_ok {w : Wds} (hs : Sg w) (hl : w.length ≤ 60) : F_rest [.dat (.str (enc w))] = .ok (.dat (.str (enc (red w)))) [.no] := by
  have hN : ∀ a ∈ sortU (w.map (·.1)), Let a := fun a ha => by
    obtain ⟨x, hx, rfl⟩ := List.mem_map.mp ((sortU_srt _).mem a |>.1 ha)
    exact (hs x hx).1
  have hm : ∀ y ∈ w, y.1 ∈ sortU (w.map (·.1)) := fun y hy => (sortU_srt _).mem _ |>.2 (List.mem_map.mpr ⟨y, hy, rfl⟩)
  obtain ⟨ρ', e, v, s1, s2, s3, rfl, _, _, _, sv, rv, _, lv, ov⟩ := loop_rng0 (t := nmT 2) (body := L2_rest) (n := w.length / 2) (RestI w (sortU (w.map (·.1)))) (ρ := [.val (.dat (.str (enc w))), .val (.ls ((sortU (w.map (·.1))).map .str)), .no, .no]) ⟨w, _, _, _, rfl, .inl rfl, .no, .no, hs, rfl, fun y h => h, Nat.le_refl _, .inr (by omega)⟩ (rest_outer hs hl hN hm)
  have hr : Rd' v := by
    rcases ov with o | o
    · exact o
    · exact rd_short (by omega)
  have ev : v = red w := by rw [← rv, red_self hr]
  subst ev
  have nm := names_ok hs hl
  have z1 : w.length ≤ 1000 := by omega
  have z2 : small w.length = true := small_of (by omega)
  have rr : rngB ((w.length : Int) / 2) = true := rngB_of (by omega) (by omega)
  have w2 : Wid 2 := by decide
  have tn : ((w.length : Int) / 2).toNat = w.length / 2 := by omega
  simp [F_rest, x_def, x_entry, x_leave, B_rest, z1, z2, nm, enc_len, rr, tn, e, w2, -x_sortedTxt]
theorem count_enc {w : Wds} (hs : Sg w) {a : Str} (ha : Let a) : Txt.count (enc w) a - Txt.count (enc w) (T1 (hd a - 32)) = cnt w a := by
  obtain ⟨e, b, c⟩ := let_cd ha
  have h1 : Txt.count (enc w) a = PyProof.Rows.cnt (hd a) (w.map cdn) := by
    have : Txt.count (enc w) (T1 (hd a)) = PyProof.Rows.cnt (hd a) (enc w).cps.toList := count_cnt (enc w) (hd a)
    rw [← e] at this
    exact this
  have h2 : Txt.count (enc w) (T1 (hd a - 32)) = PyProof.Rows.cnt (hd a - 32) (w.map cdn) := count_cnt (enc w) (hd a - 32)
  rw [h1, h2]
  clear h1 h2
  induction w with
  | nil => rfl
  | cons x w ih =>
    have ih := ih fun y m => hs y (List.mem_cons_of_mem _ m)
    have hx := hs x List.mem_cons_self
    have hc : cnt (x :: w) a = (if x.1 = a then x.2 else 0) + cnt w a := by
      have := cnt_app [x] w a
      rw [List.singleton_append, cnt_one] at this
      exact this
    rw [hc, List.map_cons, PyProof.Rows.cnt_cons, PyProof.Rows.cnt_cons]
    obtain ⟨e2, b2, c2⟩ := let_cd hx.1
    have q : (x.1 = a) ↔ hd x.1 = hd a := ⟨fun z => by rw [z], fun z => by rw [e2, e, z]⟩
    rcases hx.2 with s | s
    · have e3 : cdn x = hd x.1 := by simp [cdn, s]
      rw [e3]
      by_cases k : hd x.1 = hd a
      · rw [if_pos k, if_neg (by omega), if_pos (q.mpr k), s]
        omega
      · rw [if_neg k, if_neg (by omega), if_neg (fun z => k (q.mp z))]
        omega
    · have e3 : cdn x = hd x.1 - 32 := by simp [cdn, s]
      rw [e3]
      by_cases k : hd x.1 = hd a
      · rw [if_neg (by omega), if_pos (by omega), if_pos (q.mpr k), s]
        omega
      · rw [if_neg (by omega), if_neg (by omega), if_neg (fun z => k (q.mp z))]
        omega
theorem counted_ok {w : Wds} (hs : Sg w) (hl : w.length ≤ 60) : F_counted [.dat (.str (enc w))] = .ok (.ls ((bal w).map rowD)) [.no] := by
  have hN : ∀ a ∈ sortU (w.map (·.1)), Let a := fun a ha => by
    obtain ⟨x, hx, rfl⟩ := List.mem_map.mp ((sortU_srt _).mem a |>.1 ha)
    exact (hs x hx).1
  have nm := names_ok hs hl
  have sl := sortU_le (w.map (·.1))
  rw [List.length_map] at sl
  have z1 : w.length ≤ 1000 := by omega
  have z2 : small (sortU (w.map (·.1))).length = true := small_of (by omega)
  have lc : lcL (nmT 2) yesT (tupF (consA (varF 2) (consA (op2 subO (tmpF (op2c isStr scntO (slotF 0) (slotF 2))) (tmpF (op2c isStr scntO (slotF 0) (tmpF (op1 upperO (slotF 2)))))) (nilA)))) [2] ((sortU (w.map (·.1))).map .str) [.val (.dat (.str (enc w))), .no, .no, .no]
      = .ok ((sortU (w.map (·.1))).map fun a => rowD (a, cnt w a)) [.val (.dat (.str (enc w))), .no, .no, .no] := by
    refine lcL_mapT .str (fun a => rowD (a, cnt w a)) fun a ha => ?_
    obtain ⟨e, b, c⟩ := let_cd (hN a ha)
    obtain ⟨u1, u2, u3⟩ := up_lo b c
    have ct := count_enc hs (hN a ha)
    rw [← e] at u2
    have z3 : a.length ≤ 1000 := by rw [e]; show 1 ≤ 1000; omega
    refine ⟨[.val (.dat (.str (enc w))), .no, .val (.dat (.str a)), .no], [.val (.dat (.str (enc w))), .no, .val (.dat (.str a)), .no], .dat (rowD (a, cnt w a)), by simp, ?_, rfl, by simp [wipeR]⟩
    simp [u2, z3, ct, rowD]
  have lc2 : lcL (nmT 3) (tstF (op2 neO (tmpF (ixS 3 (cF (.int 1)))) (tmpF (cF (.int 0))))) (varF 3) [3] ((sortU (w.map (·.1))).map fun a => rowD (a, cnt w a)) [.val (.dat (.str (enc w))), .val (.dat (.list ((sortU (w.map (·.1))).map fun a => rowD (a, cnt w a)))), .no, .no]
      = .ok ((bal w).map rowD) [.val (.dat (.str (enc w))), .val (.dat (.list ((sortU (w.map (·.1))).map fun a => rowD (a, cnt w a)))), .no, .no] := by
    rw [lcL_filterT (fun a => rowD (a, cnt w a)) (fun a => !(cnt w a == 0)) (fun a => rowD (a, cnt w a))]
    · rw [bal, List.map_map]
      rfl
    · intro a ha
      generalize (PyData.list ((sortU (w.map (·.1))).map fun a => rowD (a, cnt w a))) = L
      refine ⟨[.val (.dat (.str (enc w))), .val (.dat L), .no, .val (.dat (rowD (a, cnt w a)))], [.val (.dat (.str (enc w))), .val (.dat L), .no, .val (.dat (rowD (a, cnt w a)))], by simp, by simp [rowD], fun _ => by simp [wipeR], fun _ => ⟨_, .dat (rowD (a, cnt w a)), by simp; rfl, rfl, by simp [wipeR]⟩⟩
  simp [F_counted, x_def, x_entry, x_leave, B_counted, z1, z2, nm, enc_len, lc, lc2, wipeR, -x_sortedTxt]
end Fn

namespace Fn
open PySem PySem.Spec PyProof.Rows L2 Ww Vs
theorem join_encs : ∀ ks : List Kd, Txt.join (Str.ofString "") (ks.map fun k => enc (k.sgn 1)) = enc (rowSgn ks) := by
  intro ks
  apply str_ext
  rw [join_cps, enc_cps]
  unfold rowSgn
  rw [List.map_flatMap, List.flatMap_map]
  rfl
theorem join_row {ks : List Kd} (h : (rowSgn ks).length ≤ 60) : joinO (.dat (.str (Str.ofString ""))) (.ls (ks.map fun k => .str (enc (k.sgn 1)))) = some (.dat (.str (enc (rowSgn ks)))) := by
  have e0 : (Str.ofString "").length = 0 := by decide +kernel
  have e1 : (ks.map fun k => PyData.str (enc (k.sgn 1))) = (ks.map fun k => enc (k.sgn 1)).map .str := by rw [List.map_map]; rfl
  have e2 : ((ks.map fun k => enc (k.sgn 1)).map (·.length)).sum = (rowSgn ks).length := by
    clear h e1
    induction ks with
    | nil => rfl
    | cons k ks ih =>
      rw [List.map_cons, List.map_cons, List.sum_cons, ih, enc_len]
      show _ = (k.sgn 1 ++ rowSgn ks).length
      rw [List.length_append]
  rw [e1]
  show ((some ((ks.map fun k => enc (k.sgn 1)).map PyData.str)).bind allStr).bind _ = _
  rw [Option.bind_some, allStr_map, Option.bind_some, if_pos (by rw [e2, e0]; omega), join_encs]
theorem gd_rows (w : Wds) (h : w.length ≤ 1000) : Gd 10 (.list (w.map rowD)) := ⟨by rw [List.length_map]; omega, fun d hd => by
  obtain ⟨x, _, rfl⟩ := List.mem_map.mp hd
  refine ⟨by show 2 ≤ 100000; omega, fun e he => ?_⟩
  have : e = .str x.1 ∨ e = .int x.2 := by simpa [rowD] using he
  rcases this with rfl | rfl <;> trivial⟩
theorem gd_two {a b : PyData} {n : Nat} (ha : Gd n a) (hb : Gd n b) : Gd (n + 1) (.list [a, b]) := ⟨by show 2 ≤ 100000; omega, fun d hd => by
  rcases List.mem_cons.mp hd with rfl | hd
  · exact ha
  · rw [List.mem_singleton.mp hd]; exact hb⟩
theorem gd_kds {ks : List Kd} (h : ∀ k ∈ ks, k.deep ≤ 28) (hl : ks.length ≤ 1000) : Gd 30 (.list (ks.map Kd.dat)) := ⟨by rw [List.length_map]; omega, fun d hd => by
  obtain ⟨k, hk, rfl⟩ := List.mem_map.mp hd
  exact Gd.kd.mono (m := 29) (by have := h k hk; omega)⟩
theorem red_len (w : Wds) : (red w).length ≤ w.length := by
  have : ∀ (w st : Wds), (redS st w).length ≤ st.length + w.length := by
    intro w
    induction w with
    | nil => exact fun st => Nat.le_refl _
    | cons x w ih =>
      intro st
      have h1 := ih (push st x)
      have h2 := push_len st x
      show (redS (push st x) w).length ≤ _
      rw [List.length_cons]
      omega
  have h := this w []
  unfold red
  rw [List.length_reverse]
  simpa using h
theorem bal_len (w : Wds) : (bal w).length ≤ w.length := by
  have h1 := sortU_le (w.map (·.1))
  have h2 := List.length_filter_le (fun l => !(cnt w l == 0)) (sortU (w.map (·.1)))
  rw [List.length_map] at h1
  unfold bal
  rw [List.length_map]
  omega
theorem asked_ok {ks : List Kd} (r : Rw ks) (hd : ∀ k ∈ ks, k.deep ≤ 28) : F_asked [.dat (.list (ks.map Kd.dat))] = .ok (.dat (.bool true)) [.no] := by
  have ll := letters_le r.len
  have kl := row_len r.len
  have sg := rowSgn_sg fun k hk => (r.ok k hk).1
  have lc : ∀ s1 s3 s4 s5 : Sl, lcL (nmT 2) yesT (callF (F_line_k04 30) (consC (aD (varF 2)) (nilC))) [2] (ks.map Kd.dat) [.val (.dat (.list (ks.map Kd.dat))), s1, .no, s3, s4, s5] = .ok (ks.map fun k => .str (enc (k.sgn 1))) [.val (.dat (.list (ks.map Kd.dat))), s1, .no, s3, s4, s5] := fun s1 s3 s4 s5 => by
    refine lcL_mapT Kd.dat (fun k => .str (enc (k.sgn 1))) fun k hk => ?_
    have e := line_ok 30 k (r.ok k hk).1 (by have := hd k hk; omega) (by have := ll k hk; omega)
    exact ⟨_, _, .dat (.str (enc (k.sgn 1))), by simp; rfl, by simp [e]; rfl, rfl, by simp [wipeR]⟩
  have j := join_row r.len
  have c := counted_ok sg r.len
  have q := rest_ok sg r.len
  have hr := red_len (rowSgn ks)
  have hb := bal_len (rowSgn ks)
  have rl := r.len
  have rsg : Sg (red (rowSgn ks)) := fun y m => by
    have : ∀ (w st : Wds), ∀ y ∈ redS st w, y ∈ st ∨ y ∈ w := by
      intro w
      induction w with
      | nil => exact fun st y m => .inl m
      | cons x w ih =>
        intro st y m
        rcases ih (push st x) y m with z | z
        · rw [push_def] at z
          cases st with
          | nil => exact .inr (by rw [List.mem_singleton.mp z]; exact List.mem_cons_self)
          | cons u v =>
            have z : y ∈ (if u = neg x then v else x :: u :: v) := z
            split at z
            · exact .inl (List.mem_cons_of_mem _ z)
            · rcases List.mem_cons.mp z with z | z
              · exact .inr (by rw [z]; exact List.mem_cons_self)
              · exact .inl z
        · exact .inr (List.mem_cons_of_mem _ z)
    rcases this (rowSgn ks) [] y (List.mem_reverse.mp m) with z | z
    · cases z
    · exact sg y z
  have p := pairs_ok rsg (by omega)
  have b := balance_ok r
  have w := word_ok r
  have a1 := alike_ok 30 (.list [.list ((bal (rowSgn ks)).map rowD), .list ((red (rowSgn ks)).map rowD)]) ((gd_two (gd_rows _ (by omega)) (gd_rows _ (by omega))).mono (by omega))
  have a2 := alike_ok 30 (.list (ks.map Kd.dat)) (gd_kds hd (by omega))
  have z1 : small ks.length = true := small_of (by omega)
  have z2 : small (ks.length + 1) = true := small_of (by omega)
  have z4 : small ((red (rowSgn ks)).length + 1) = true := small_of (by omega)
  have z3 : small ((bal (rowSgn ks)).length + 1) = true := small_of (by omega)
  simp [F_asked, x_def, x_entry, x_leave, B_asked, lc, j, c, q, p, b, w, a1, a2, z1, z2, z3, z4]
end Fn

namespace Fn
open PySem PySem.Spec PyProof.Rows L2 Ww Vs
def lets (ks : List Kd) : Nat := (ks.map fun k => k.letters.length).sum
theorem lets_app (a b : List Kd) : lets (a ++ b) = lets a + lets b := by simp [lets]
theorem lets_sgn (ks : List Kd) : (rowSgn ks).length = lets ks := by
  unfold rowSgn lets
  rw [List.length_flatMap]
  congr 1
  exact List.map_congr_left fun k _ => k.sgn_len 1
theorem fms3 : Forms [Str.ofString "behind", Str.ofString "ahead", Str.ofString "with"] := ⟨by simp, by decide, fun f hf => by
  simp only [List.mem_cons, List.not_mem_nil, or_false] at hf
  exact hf⟩
theorem fms2 : Forms [Str.ofString "behind", Str.ofString "ahead"] := ⟨by simp, by decide, fun f hf => by
  simp only [List.mem_cons, List.not_mem_nil, or_false] at hf
  exact hf.elim .inl fun z => .inr (.inl z)⟩
@[simp] theorem x_min2' (i j : Int) : min2O (.dat (.int i)) (.dat (.int j)) = some (.dat (.int (if j < i then j else i))) := (rfl)
def RowI (n L : Nat) (t : Str) (p : Int) (fs : List Str) (i : Nat) (ρ : En) : Prop := ∃ (es : List PyData) (left : Int) (ks : List Kd) (s6 : Sl), Src (n + 30 * i) es ∧ ρ = [.bor (.ls es), .val (.dat (.str t)), .val (.dat (.int p)), .val (.dat (.int left)), .val (.dat (.list (fs.map .str))), .val (.ls (ks.map Kd.dat)), s6] ∧ Fr s6 ∧
  ks.length ≤ i ∧ (∀ k ∈ ks, k.ok ∧ k.deep ≤ 5 ∧ k.letters.length ≤ 7) ∧ (lets ks : Int) + left = L ∧ 0 ≤ left ∧ (0 < i → ks ≠ [])
theorem dat_last (ks : List Kd) (k : Kd) : atI ((ks.map Kd.dat) ++ [k.dat]) (-1) = some k.dat := at_last1 _ _
theorem row_step (n L : Nat) (t : Str) (p : Int) (fs : List Str) (hn : n ≤ 800000) (hL : 1 ≤ L) (hf : Forms fs) (ht : Pool t) : ∀ i ρ, i < 6 → RowI n L t p fs i ρ → ∃ ρ1 ρ2, (nmT 6).f (.int (i : Int)) ρ = some ρ1 ∧ (L1_row ρ1 = .nx ρ2 ∨ L1_row ρ1 = .ct ρ2) ∧ RowI n L t p fs (i + 1) ρ2 := by
  rintro i ρ hi ⟨es, left, ks, s6, hs, rfl, h6, hk, hok, hl, l0, hne⟩
  have t0 : (nmT 6).f (.int (i : Int)) [.bor (.ls es), .val (.dat (.str t)), .val (.dat (.int p)), .val (.dat (.int left)), .val (.dat (.list (fs.map .str))), .val (.ls (ks.map Kd.dat)), s6] = some [.bor (.ls es), .val (.dat (.str t)), .val (.dat (.int p)), .val (.dat (.int left)), .val (.dat (.list (fs.map .str))), .val (.ls (ks.map Kd.dat)), .val (.dat (.int i))] := by simp [x_fr h6]
  by_cases c : 0 < left
  · obtain ⟨r, es1, u1, v1, s1, e1⟩ := pick_ok _ es (if (7 : Int) < left then 7 else left) hs (by omega) (by split <;> omega) (by split <;> omega)
    have r7 : r < 7 ∧ r < left := by split at v1 <;> omega
    obtain ⟨k, es2, ko, kd, kl, s2, e2⟩ := grown_ok 30 _ es1 (1 + r) 5 fs t s1 (by omega) hf ht (by omega) (by omega) (by decide) (by decide)
    have kp := k.letters_pos
    have pl := places_ok k ko (by omega)
    have pn : ((k.places 1).length : Int) = k.letters.length := by rw [k.places_len]
    have z1 : small (ks.length + 1) = true := small_of (by omega)
    refine ⟨_, [.bor (.ls es2), .val (.dat (.str t)), .val (.dat (.int p)), .val (.dat (.int (left - k.letters.length))), .val (.dat (.list (fs.map .str))), .val (.ls ((ks ++ [k]).map Kd.dat)), .val (.dat (.int i))], t0, .inl ?_, es2, left - k.letters.length, ks ++ [k], _, s2.le (by omega), rfl, .val, by simp; omega, ?_, ?_, by omega, fun _ => by simp⟩
    · simp [L1_row, c, e1, e2, z1, pl, at_last1, k.places_len]
    · intro x hx
      rcases List.mem_append.mp hx with z | z
      · exact hok x z
      · rw [List.mem_singleton.mp z]
        exact ⟨ko, by omega, by omega⟩
    · rw [lets_app]
      show ((lets ks + (k.letters.length + 0) : Nat) : Int) + _ = _
      omega
  · refine ⟨_, [.bor (.ls es), .val (.dat (.str t)), .val (.dat (.int p)), .val (.dat (.int left)), .val (.dat (.list (fs.map .str))), .val (.ls (ks.map Kd.dat)), .val (.dat (.int i))], t0, .inl (by simp [L1_row, c]), es, left, ks, _, hs.le (by omega), rfl, .val, by omega, hok, hl, l0, fun _ => ?_⟩
    by_cases i0 : 0 < i
    · exact hne i0
    · intro z
      subst z
      have : (lets [] : Int) = 0 := rfl
      omega
/-- a row as the law draws it -/
structure Dr (ks : List Kd) : Prop where
  ne : ks ≠ []
  ok : ∀ k ∈ ks, k.ok ∧ k.deep ≤ 5 ∧ k.letters.length ≤ 7
  len : ks.length ≤ 6
  sum : lets ks ≤ 14
theorem row_ok (n : Nat) (ds : List PyData) (hs : Src n ds) (hn : n ≤ 700000) : ∃ ks es, Dr ks ∧ Src (n + 400) es ∧ F_row [.ls ds] = .ok (.ls (ks.map Kd.dat)) [.bor (.ls es)] := by
  obtain ⟨t1, es1, a1, b1, c1, s1, e1⟩ := pool_ok n ds hs (by omega)
  obtain ⟨p, es2, u2, v2, s2, e2⟩ := pick_ok (n + 9) es1 2 s1 (by omega) (by decide) (by decide)
  obtain ⟨q, es3, u3, v3, s3, e3⟩ := pick_ok (n + 10) es2 4 s2 (by omega) (by decide) (by decide)
  obtain ⟨t, es4, ht, s4, e4⟩ : ∃ t es4, Pool t ∧ Src (n + 21) es4 ∧ (ifS (tstF (op2 eqO (tmpF (callF F_pick (lendC 0 (consC (aD (cF (.int 4))) (nilC))))) (tmpF (cF (.int 0)))))
    (setS 1 (op2 addO (slotF 1) (tmpF (callF F_pool (lendC 0 (nilC))))))
    (nxS)) [.bor (.ls es2), .val (.dat (.str t1)), .val (.dat (.int p)), .no, .no, .no, .no] = .nx [.bor (.ls es4), .val (.dat (.str t)), .val (.dat (.int p)), .no, .no, .no, .no] := by
    by_cases c : q = 0
    · subst c
      obtain ⟨t2, es4, a4, b4, c4, s4, e4⟩ := pool_ok (n + 11) es3 s3 (by omega)
      have tl : (t1 ++ t2).length = t1.length + t2.length := Array.size_append ..
      have sz : small (t1.length + t2.length) = true := small_of (by omega)
      exact ⟨t1 ++ t2, es4, ⟨a1.app a4, by omega, by omega⟩, s4.le (by omega), by simp [e3, e4, sz]⟩
    · exact ⟨t1, es3, ⟨a1, b1, by omega⟩, s3.le (by omega), by simp [e3, c]⟩
  obtain ⟨L, fs, hL, hL2, hf, em, ef⟩ : ∃ (L : Nat) (fs : List Str), 1 ≤ L ∧ L ≤ 14 ∧ Forms fs ∧ atI [PyData.int 10, .int 14] p = some (.int (L : Int)) ∧ atI [PyData.list [.str (Str.ofString "behind"), .str (Str.ofString "ahead"), .str (Str.ofString "with")], .list [.str (Str.ofString "behind"), .str (Str.ofString "ahead")]] p = some (.list (fs.map .str)) := by
    by_cases c : p = 0
    · subst c
      exact ⟨10, _, by omega, by omega, fms3, rfl, rfl⟩
    · have : p = 1 := by omega
      subst this
      exact ⟨14, _, by omega, by omega, fms2, rfl, rfl⟩
  obtain ⟨r, es5, u5, v5, s5, e5⟩ := pick_ok _ es4 6 s4 (by omega) (by decide) (by decide)
  obtain ⟨ρ', h6, es6, left, ks, s6, sr, rfl, h7, kl, kok, ksum, k0, kne⟩ := loop_rng0 (t := nmT 6) (body := L1_row) (n := (1 + r).toNat) (RowI (n + 22) L t p fs) (ρ := [.bor (.ls es5), .val (.dat (.str t)), .val (.dat (.int p)), .val (.dat (.int (L : Int))), .val (.dat (.list (fs.map .str))), .val (.ls ([].map Kd.dat)), .no]) ⟨es5, L, [], .no, s5.le (by omega), rfl, .no, Nat.le_refl _, (fun _ z => nomatch z), by simp [lets], by omega, fun z => absurd z (by omega)⟩ (fun i ρ hi => row_step (n + 22) L t p fs (by omega) hL hf ht i ρ (by omega))
  refine ⟨ks, es6, ⟨kne (by omega), kok, by omega, by omega⟩, sr.le (by omega), ?_⟩
  have rr : rngB (1 + r) = true := rngB_of (by omega) (by omega)
  simp at h6
  simp [F_row, x_def, x_entry, x_leave, B_row, e1, e2, e4, em, ef, e5, rr, h6, -x_ifS]
theorem cancelling_ok (n : Nat) (ds : List PyData) (hs : Src n ds) (hn : n ≤ 700000) : ∃ ks es, (ks ≠ [] ∧ (∀ k ∈ ks, k.ok ∧ k.deep ≤ 20) ∧ lets ks ≤ 60) ∧ Src (n + 100) es ∧ F_cancelling [.ls ds] = .ok (.dat (.list (ks.map Kd.dat))) [.bor (.ls es)] ∨
    ∃ es, (ks ≠ [] ∧ (∀ k ∈ ks, k.ok ∧ k.deep ≤ 20) ∧ lets ks ≤ 60) ∧ Src (n + 100) es ∧ F_cancelling [.ls ds] = .ok (.ls (ks.map Kd.dat)) [.bor (.ls es)] := by
  obtain ⟨t, es1, a1, b1, c1, s1, e1⟩ := pool_ok n ds hs (by omega)
  obtain ⟨q1, es2, u2, v2, s2, e2⟩ := pick_ok _ es1 3 s1 (by omega) (by decide) (by decide)
  obtain ⟨k1, es3, o3, d3, l3, s3, e3⟩ := grown_ok 30 _ es2 (1 + q1) 4 _ t s2 (by omega) fms2 ⟨a1, b1, by omega⟩ (by omega) (by omega) (by decide) (by decide)
  obtain ⟨q2, es4, u4, v4, s4, e4⟩ := pick_ok _ es3 2 s3 (by omega) (by decide) (by decide)
  obtain ⟨k2, es5, o5, d5, l5, s5, e5⟩ := grown_ok 30 _ es4 (1 + q2) 4 _ t s4 (by omega) fms2 ⟨a1, b1, by omega⟩ (by omega) (by omega) (by decide) (by decide)
  obtain ⟨q3, es6, u6, v6, s6, e6⟩ := pick_ok _ es5 3 s5 (by omega) (by decide) (by decide)
  obtain ⟨q4, es7, u7, v7, s7, e7⟩ := pick_ok _ es6 2 s6 (by omega) (by decide) (by decide)
  simp at e3 e5
  obtain ⟨ks, em, hne, hok, hl⟩ : ∃ ks : List Kd, atI [PyData.list [k1.dat, (Kd.nd (Str.ofString "ahead") k1 k2).dat], .list [(Kd.nd (Str.ofString "behind") k2 k1).dat, k1.dat], .list [(Kd.nd (Str.ofString "behind") (.nd (Str.ofString "ahead") k1 k2) k2).dat, k1.dat]] q3 = some (.list (ks.map Kd.dat)) ∧ ks ≠ [] ∧ (∀ k ∈ ks, k.ok ∧ k.deep ≤ 20) ∧ lets ks ≤ 40 := by
    have fa : Form (Str.ofString "ahead") := .inr (.inl rfl)
    have fb : Form (Str.ofString "behind") := .inl rfl
    have dd : ∀ f (a b : Kd), (Kd.nd f a b).deep = 1 + max a.deep b.deep := fun _ _ _ => rfl
    have dl : ∀ f (a b : Kd), (Kd.nd f a b).letters.length = a.letters.length + b.letters.length := fun _ a b => List.length_append
    by_cases c0 : q3 = 0
    · subst c0
      refine ⟨[k1, .nd (Str.ofString "ahead") k1 k2], rfl, by simp, fun k hk => ?_, ?_⟩
      · rcases List.mem_cons.mp hk with rfl | hk
        · exact ⟨o3, by omega⟩
        · rw [List.mem_singleton.mp hk]
          exact ⟨⟨fa, o3, o5⟩, by rw [dd]; omega⟩
      · simp [lets, dl]; omega
    · by_cases c1 : q3 = 1
      · subst c1
        refine ⟨[.nd (Str.ofString "behind") k2 k1, k1], rfl, by simp, fun k hk => ?_, ?_⟩
        · rcases List.mem_cons.mp hk with rfl | hk
          · exact ⟨⟨fb, o5, o3⟩, by rw [dd]; omega⟩
          · rw [List.mem_singleton.mp hk]
            exact ⟨o3, by omega⟩
        · simp [lets, dl]; omega
      · have : q3 = 2 := by omega
        subst this
        refine ⟨[.nd (Str.ofString "behind") (.nd (Str.ofString "ahead") k1 k2) k2, k1], rfl, by simp, fun k hk => ?_, ?_⟩
        · rcases List.mem_cons.mp hk with rfl | hk
          · exact ⟨⟨fb, ⟨fa, o3, o5⟩, o5⟩, by rw [dd, dd]; omega⟩
          · rw [List.mem_singleton.mp hk]
            exact ⟨o3, by omega⟩
        · simp [lets, dl]; omega
  simp only [y_k_nd] at em
  by_cases c : q4 = 1
  · subst c
    obtain ⟨x, hx, lx⟩ := a1.at (r := 0) (by decide) (by omega)
    have ec : atI t.cps.toList 0 = some x := by
      unfold atI
      rw [ixN_of (by omega) (by rw [← len_cps]; omega)]
      simpa using hx
    have sz : small t.length = true := small_of (by omega)
    have sz2 : small (ks.length + 1) = true := small_of (by
      have : ks.length ≤ lets ks := by
        clear em hne hok hl
        induction ks with
        | nil => exact Nat.le_refl 0
        | cons k ks ih =>
          have := k.letters_pos
          show ks.length + 1 ≤ k.letters.length + lets ks
          omega
      omega)
    refine ⟨ks ++ [.pl ⟨#[x]⟩], ds, .inr ⟨es7, ⟨by simp, fun k hk => ?_, ?_⟩, s7.le (by omega), ?_⟩⟩
    · rcases List.mem_append.mp hk with z | z
      · exact hok k z
      · rw [List.mem_singleton.mp z]
        exact ⟨lx, by show 1 ≤ 20; omega⟩
    · rw [lets_app]
      show lets ks + 1 ≤ 60
      omega
    · simp [F_cancelling, x_def, x_entry, x_leave, B_cancelling, e1, e2, e3, e4, e5, e6, e7, em, sz, sz2, ec]
  · refine ⟨ks, es7, .inl ⟨⟨hne, hok, by omega⟩, s7.le (by omega), ?_⟩⟩
    simp [F_cancelling, x_def, x_entry, x_leave, B_cancelling, e1, e2, e3, e4, e5, e6, e7, em, c]
end Fn

namespace Fn
open PySem PySem.Spec PyProof.Rows L2 Ww Vs
/-- a row that can be asked of -/
structure Rq (ks : List Kd) : Prop where
  ne : ks ≠ []
  ok : ∀ k ∈ ks, k.ok ∧ k.deep ≤ 20
  sum : lets ks ≤ 60
theorem Rq.rw {ks : List Kd} (h : Rq ks) : Rw ks := ⟨h.ne, fun k m => ⟨(h.ok k m).1, by have := (h.ok k m).2; omega⟩, by rw [lets_sgn]; exact h.sum⟩
theorem Rq.asked {ks : List Kd} (h : Rq ks) : F_asked [.dat (.list (ks.map Kd.dat))] = .ok (.dat (.bool true)) [.no] := asked_ok h.rw fun k m => by have := (h.ok k m).2; omega
theorem lets_rev (ks : List Kd) : lets ks.reverse = lets ks := by simp [lets]
theorem Rq.rev {ks : List Kd} (h : Rq ks) : Rq ks.reverse := ⟨fun z => h.ne (List.reverse_eq_nil_iff.mp z), fun k m => h.ok k (List.mem_reverse.mp m), by rw [lets_rev]; exact h.sum⟩
theorem lets_mem {ks : List Kd} {k : Kd} (h : k ∈ ks) : k.letters.length ≤ lets ks := by
  induction ks with
  | nil => cases h
  | cons x ks ih =>
    show _ ≤ x.letters.length + lets ks
    rcases List.mem_cons.mp h with z | z
    · rw [z]; omega
    · have := ih z; omega
theorem Rq.one {ks : List Kd} (h : Rq ks) {k : Kd} (m : k ∈ ks) : Rq [k] := ⟨by simp, fun x hx => by rw [List.mem_singleton.mp hx]; exact h.ok k m, by
  have := lets_mem m
  have := h.sum
  show k.letters.length + 0 ≤ 60
  omega⟩
def rrD (ks : List Kd) : PyData := .list (ks.map Kd.dat)
theorem Rq.len {ks : List Kd} (h : Rq ks) : ks.length ≤ 60 := row_len h.rw.len
theorem inner_loop {ks : List Kd} (h : Rq ks) (s0 s1 s2 s3 s4 : Sl) : ∀ (xs : List Kd) (s5 : Sl), (∀ k ∈ xs, k ∈ ks) → Fr s5 → ∃ u, Fr u ∧ loopF (nmT 5) L1_law_k04 (xs.map Kd.dat) [s0, s1, s2, s3, s4, s5] = .nx [s0, s1, s2, s3, s4, u]
  | [], s5, _, h5 => ⟨s5, h5, rfl⟩
  | k :: xs, s5, hm, h5 => by
    obtain ⟨u, fu, ih⟩ := inner_loop h s0 s1 s2 s3 s4 xs (.val (.dat k.dat)) (fun x m => hm x (List.mem_cons_of_mem _ m)) .val
    refine ⟨u, fu, ?_⟩
    have a := (h.one (hm k List.mem_cons_self)).asked
    simp only [List.map_cons, List.map_nil] at a
    have b : L1_law_k04 [s0, s1, s2, s3, s4, .val (.dat k.dat)] = .nx [s0, s1, s2, s3, s4, .val (.dat k.dat)] := by simp [L1_law_k04, a]
    rw [List.map_cons, x_loop_cons]
    simp [x_fr h5, b, ih]
theorem outer_loop (s0 s1 s2 s3 : Sl) : ∀ (rs : List (List Kd)) (s4 s5 : Sl), (∀ r ∈ rs, Rq r) → Fr s4 → Fr s5 → ∃ u v, Fr u ∧ Fr v ∧ loopF (nmT 4) L2_law_k04 (rs.map rrD) [s0, s1, s2, s3, s4, s5] = .nx [s0, s1, s2, s3, u, v]
  | [], s4, s5, _, h4, h5 => ⟨s4, s5, h4, h5, rfl⟩
  | r :: rs, s4, s5, hr, h4, h5 => by
    have q := hr r List.mem_cons_self
    obtain ⟨w, fw, il⟩ := inner_loop q s0 s1 s2 s3 (.val (.dat (.list (r.map Kd.dat)))) r s5 (fun k m => m) h5
    obtain ⟨u, v, fu, fv, ih⟩ := outer_loop s0 s1 s2 s3 rs (.val (.dat (.list (r.map Kd.dat)))) w (fun x m => hr x (List.mem_cons_of_mem _ m)) .val fw
    refine ⟨u, v, fu, fv, ?_⟩
    have a1 := q.asked
    have a2 := q.rev.asked
    rw [List.map_reverse] at a2
    have b : L2_law_k04 [s0, s1, s2, s3, .val (.dat (.list (r.map Kd.dat))), s5] = .nx [s0, s1, s2, s3, .val (.dat (.list (r.map Kd.dat))), w] := by simp [L2_law_k04, a1, a2, il]
    rw [List.map_cons, x_loop_cons]
    simp [x_fr h4, b, ih, rrD]
theorem last_loop (s0 s1 s2 s3 s5 : Sl) : ∀ (rs : List (List Kd)) (s4 : Sl), (∀ r ∈ rs, Rq r) → Fr s4 → ∃ u, Fr u ∧ loopF (nmT 4) L3_law_k04 (rs.map rrD) [s0, s1, s2, s3, s4, s5] = .nx [s0, s1, s2, s3, u, s5]
  | [], s4, _, h4 => ⟨s4, h4, rfl⟩
  | r :: rs, s4, hr, h4 => by
    have q := hr r List.mem_cons_self
    obtain ⟨u, fu, ih⟩ := last_loop s0 s1 s2 s3 s5 rs (.val (.dat (.list (r.map Kd.dat)))) (fun x m => hr x (List.mem_cons_of_mem _ m)) .val
    refine ⟨u, fu, ?_⟩
    have a1 := q.asked
    have b : L3_law_k04 [s0, s1, s2, s3, .val (.dat (.list (r.map Kd.dat))), s5] = .nx [s0, s1, s2, s3, .val (.dat (.list (r.map Kd.dat))), s5] := by simp [L3_law_k04, a1]
    rw [List.map_cons, x_loop_cons]
    simp [x_fr h4, b, ih, rrD]
theorem Dr.rq {ks : List Kd} (h : Dr ks) : Rq ks := ⟨h.ne, fun k m => ⟨(h.ok k m).1, by have := (h.ok k m).2.1; omega⟩, by have := h.sum; omega⟩
def GenI (s0 : Sl) (i : Nat) (acc : List PyData) (ρ : En) : Prop := ∃ (es : List PyData) (rs : List (List Kd)), Src (400 * i) es ∧ acc = rs.map rrD ∧ (∀ r ∈ rs, Rq r) ∧ rs.length = i ∧ ρ = [s0, .val (.ls es), .no, .no, .no, .no]
theorem rep_dat (k : Kd) : (List.replicate 6 [k.dat]).flatten = (List.replicate 6 k).map Kd.dat := rfl
end Fn
namespace Lk04
open PySem PySem.Spec PyProof.Rows L2 Ww Vs Fn
theorem law_ok : LawOk F_law_k04 := by
  intro ns hn
  obtain ⟨es0, s0, e0⟩ := begun_ok ns hn
  obtain ⟨xs, ρ', h1, es1, rs, s1, rfl, hr, hl, rfl⟩ := lcL_inv (t := nmT 3) (e := callF F_row (lendC 1 (nilC))) (own := [3]) (GenI (.val (.dat (.list (ns.map .int))))) (ds := (List.range 7).map fun i : Nat => .int (i : Int)) (k := 0) (acc := []) (ρ := [.val (.dat (.list (ns.map .int))), .val (.ls es0), .no, .no, .no, .no]) ⟨es0, [], s0, rfl, (fun _ z => nomatch z), rfl, rfl⟩ (by
    rintro i d acc ρ hd hi ⟨es, rs, hs, rfl, hr, hl, rfl⟩
    rw [List.length_map, List.length_range] at hi
    obtain ⟨j, _, rfl⟩ := List.mem_map.mp hd
    obtain ⟨ks, es', dr, s', e'⟩ := row_ok _ es hs (by omega)
    refine ⟨[.val (.dat (.list (ns.map .int))), .val (.ls es), .no, .val (.dat (.int j)), .no, .no], [.val (.dat (.list (ns.map .int))), .val (.ls es'), .no, .val (.dat (.int j)), .no, .no], .ls (ks.map Kd.dat), rrD ks, by simp, by simp [e'], rfl, es', rs ++ [ks], s'.le (by omega), by simp, fun r m => ?_, by simp [hl], by simp [wipeR]⟩
    rcases List.mem_append.mp m with z | z
    · exact hr r z
    · rw [List.mem_singleton.mp z]; exact dr.rq)
  rw [List.length_map, List.length_range] at s1 hl
  obtain ⟨q, es2, hq, s2, e2⟩ : ∃ (q : List Kd) (es2 : List PyData), Rq q ∧ Src 3000 es2 ∧ (lstF (consA (callF F_cancelling (lendC 1 (nilC))) (nilA))) [.val (.dat (.list (ns.map .int))), .val (.ls es1), .no, .no, .no, .no] = .ok (.ls [rrD q]) [.val (.dat (.list (ns.map .int))), .val (.ls es2), .no, .no, .no, .no] := by
    obtain ⟨ks, ds, h⟩ := cancelling_ok _ es1 s1 (by omega)
    rcases h with ⟨⟨a, b, c⟩, s, e⟩ | ⟨es2, ⟨a, b, c⟩, s, e⟩
    · exact ⟨ks, ds, ⟨a, b, c⟩, s.le (by omega), by simp [e, rrD]⟩
    · exact ⟨ks, es2, ⟨a, b, c⟩, s.le (by omega), by simp [e, rrD]⟩
  obtain ⟨r, es3, u3, v3, s3, e3⟩ := pick_ok _ es2 26 s2 (by omega) (by decide) (by decide)
  obtain ⟨x, hx, lx⟩ := abc_all.at u3 (by rw [abc_len]; exact v3)
  have ec : atI (Str.ofString "abcdefghijklmnopqrstuvwxyz").cps.toList r = some x := by
    unfold atI
    rw [ixN_of u3 (by rw [← len_cps, abc_len]; exact v3)]
    simpa using hx
  have sm : small (Str.ofString "abcdefghijklmnopqrstuvwxyz").length = true := by rw [abc_len]; rfl
  have hall : ∀ z ∈ rs ++ [q] ++ [List.replicate 6 (Kd.pl ⟨#[x]⟩)], Rq z := fun z m => by
    rcases List.mem_append.mp m with m | m
    · rcases List.mem_append.mp m with m | m
      · exact hr z m
      · rw [List.mem_singleton.mp m]; exact hq
    · rw [List.mem_singleton.mp m]
      exact ⟨by simp, fun k hk => by rw [List.eq_of_mem_replicate hk]; exact ⟨lx, by show 1 ≤ 20; omega⟩, by show 6 ≤ 60; omega⟩
  have rr : rngB 7 = true := by decide
  obtain ⟨P, hP⟩ : ∃ P, P = (List.replicate 6 (Kd.pl ⟨#[x]⟩)).map Kd.dat := ⟨_, rfl⟩
  have em : mulO (.ls [(Kd.pl ⟨#[x]⟩).dat]) (.dat (.int 6)) = some (.ls P) := by
    rw [hP]
    unfold mulO
    simp
    rw [sz_lit]
    omega
  simp only [y_k_pl] at em
  have z1 : small (rs.length + 1) = true := small_of (by omega)
  have z2 : small (rs.length + 1 + 1) = true := small_of (by omega)
  have eg : (rs ++ [q] ++ [List.replicate 6 (Kd.pl ⟨#[x]⟩)]).map rrD = rs.map rrD ++ [rrD q, .list P] := by
    rw [hP]
    simp only [List.map_append, List.append_assoc]
    rfl
  have eg2 : (rs ++ [q] ++ [List.replicate 6 (Kd.pl ⟨#[x]⟩)]).reverse.map rrD = .list P :: rrD q :: (rs.map rrD).reverse := by
    rw [List.map_reverse, eg]
    simp
  obtain ⟨u, v, fu, fv, l1⟩ := outer_loop (.val (.dat (.list (ns.map .int)))) (.val (.ls es3)) (.val (.dat (.list (rs.map rrD ++ [rrD q, .list P])))) .no _ .no .no hall .no .no
  obtain ⟨u2, fu2, l2⟩ := last_loop (.val (.dat (.list (ns.map .int)))) (.val (.ls es3)) (.val (.dat (.list (rs.map rrD ++ [rrD q, .list P])))) .no v (rs ++ [q] ++ [List.replicate 6 (Kd.pl ⟨#[x]⟩)]).reverse u (fun z m => hall z (List.mem_reverse.mp m)) fu
  rw [eg] at l1
  rw [eg2] at l2
  clear eg eg2 hall hP
  simp at e2
  exact ⟨_, by simp [F_law_k04, x_def, x_entry, x_leave, B_law_k04, e0, rr, h1, wipeR, e2, z1, z2, e3, sm, ec, em, l1, l2]; rfl⟩
end Lk04

namespace Fn
open PySem PySem.Spec PyProof.Rows L2 Ww Vs
noncomputable section
def B_lift : SF := seqS (ifS (truF (slotF 2))
    (retS (tupF (consA (cF (.str "behind")) (consA (varF 1) (consA (tupF (consA (cF (.str "ahead")) (consA (varF 0) (consA (varF 1) (nilA))))) (nilA))))))
    (nxS))
    (retS (tupF (consA (cF (.str "ahead")) (consA (tupF (consA (cF (.str "behind")) (consA (varF 1) (consA (varF 0) (nilA))))) (consA (varF 1) (nilA))))))
def F_lift : FF := defF 3 3 B_lift

def B_mirror (self : FF) : SF := seqS (ifS (tstF (op2 eqO (tmpF (ixS 0 (cF (.int 0)))) (tmpF (cF (.str "plain")))))
    (retS (varF 0))
    (nxS))
    (seqS (setS 1 (ixS 0 (cF (.int 0))))
    (seqS (ifS (tstF (op2 neO (slotF 1) (tmpF (cF (.str "with")))))
    (setS 1 (op2 ixO (tmpF (lstF (consA (cF (.str "ahead")) (consA (cF (.str "behind")) (nilA))))) (tmpF (op1 intO (tmpF (op2 eqO (slotF 1) (tmpF (cF (.str "ahead")))))))))
    (nxS))
    (retS (tupF (consA (varF 1) (consA (callF self (consC (aD (ixS 0 (cF (.int 2)))) (nilC))) (consA (callF self (consC (aD (ixS 0 (cF (.int 1)))) (nilC))) (nilA))))))))
def F_mirror : Nat → FF
  | 0 => fun _ => .stuck
  | n + 1 => defF 1 2 (B_mirror (F_mirror n))

def L1_sums : SF := seqS (setS 4 (op2 subO (tmpF (op2c isStr scntO (slotF 1) (slotF 3))) (tmpF (op2c isStr scntO (slotF 1) (tmpF (op1 upperO (slotF 3)))))))
    (ifS (tstF (op2 neO (slotF 4) (tmpF (cF (.int 0)))))
    (exS (mm1 2 appO (tupF (consA (varF 3) (consA (varF 4) (nilA))))))
    (nxS))
def B_sums : SF := seqS (par2S 1 2 (consA (callF (F_line_k04 30) (consC (aD (varF 0)) (nilC))) (consA (lstF (nilA)) (nilA))))
    (seqS (forS (strI (cF (.str "abcdefghijklmnopqrstuvwxyz"))) (nmT 3) L1_sums)
    (retS (movF 2)))
def F_sums : FF := defF 1 5 B_sums

def B_lifted : SF := seqS (exS (callF F_checked_kinds (consC (aD (lstF (consA (varF 0) (consA (varF 1) (nilA))))) (nilC))))
    (seqS (ifS (truF (slotF 2))
    (retS (tupF (consA (cF (.str "behind")) (consA (varF 1) (consA (tupF (consA (cF (.str "ahead")) (consA (varF 0) (consA (varF 1) (nilA))))) (nilA))))))
    (nxS))
    (retS (tupF (consA (cF (.str "ahead")) (consA (tupF (consA (cF (.str "behind")) (consA (varF 1) (consA (varF 0) (nilA))))) (consA (varF 1) (nilA)))))))
def F_lifted : FF := defF 3 3 B_lifted

def B_check_letter : SF := ifS (notT (truF (tmpF (callF F_is_letter (consC (aD (varF 0)) (nilC))))))
    (noS)
    (nxS)
def F_check_letter : FF := defF 1 1 B_check_letter

def B_put_all (self : FF) : SF := seqS (ifS (tstF (op2 eqO (tmpF (ixS 0 (cF (.int 0)))) (tmpF (cF (.str "plain")))))
    (retS (dGet2 1 (ixS 0 (cF (.int 1))) (varF 0)))
    (nxS))
    (retS (tupF (consA (ixS 0 (cF (.int 0))) (consA (callF self (consC (aD (ixS 0 (cF (.int 1)))) (lendC 1 (nilC)))) (consA (callF self (consC (aD (ixS 0 (cF (.int 2)))) (lendC 1 (nilC)))) (nilA))))))
def F_put_all : Nat → FF
  | 0 => fun _ => .stuck
  | n + 1 => defF 2 2 (B_put_all (F_put_all n))

def B_swapped : SF := seqS (exS (callF F_checked_kinds (consC (aD (lstF (consA (varF 0) (consA (varF 2) (nilA))))) (nilC))))
    (seqS (exS (callF F_check_letter (consC (aD (varF 1)) (nilC))))
    (retS (callF (F_put_all 30) (consC (aD (varF 0)) (consC (aT (dispF (consP (varF 1) (varF 2) (nilP)))) (nilC))))))
def F_swapped : FF := defF 3 3 B_swapped

def L1_small_k03 : SF := seqS (setS 5 (callF F_lifted (consC (aD (varF 2)) (consC (aD (varF 3)) (consC (aD (varF 4)) (nilC))))))
    (ifS (truF (tmpF (callF F_within (consC (aD (varF 5)) (nilC)))))
    (seqS (ifS (notT (truF (tmpF (callF (F_alike 30) (consC (aD (callF F_word (consC (aD (lstF (consA (varF 5) (nilA)))) (nilC)))) (consC (aD (callF F_pairs (consC (aD (callF F_rest (consC (aD (callF (F_line_k04 30) (consC (aD (varF 2)) (nilC)))) (nilC)))) (nilC)))) (nilC)))))))
    (retS (cF (.bool false)))
    (nxS))
    (ifS (notT (truF (tmpF (callF (F_alike 30) (consC (aD (callF F_balance (consC (aD (lstF (consA (varF 5) (nilA)))) (nilC)))) (consC (aD (callF F_sums (consC (aD (varF 2)) (nilC)))) (nilC)))))))
    (retS (cF (.bool false)))
    (nxS)))
    (nxS))
def L2_small_k03 : SF := seqS (setS 14 (op2 addO (tmpF (op1 sumO (tmpF (lcF (itS (varF 11)) (nmT 10) (tstF (op2 eqO (tmpF (ixS 10 (cF (.int 0)))) (slotF 13))) (ixS 10 (cF (.int 1))) [10])))) (tmpF (op2 mulO (slotF 9) (tmpF (op1 sumO (tmpF (lcF (itS (varF 12)) (nmT 10) (tstF (op2 eqO (tmpF (ixS 10 (cF (.int 0)))) (slotF 13))) (ixS 10 (cF (.int 1))) [10]))))))))
    (ifS (tstF (op2 neO (slotF 14) (tmpF (cF (.int 0)))))
    (exS (mm1 8 appO (tupF (consA (varF 13) (consA (varF 14) (nilA))))))
    (nxS))
def B_small_k03 : SF := seqS (setS 2 (callF (F_grown 30) (lendC 0 (consC (aD (op2 addO (tmpF (cF (.int 1))) (tmpF (callF F_pick (lendC 0 (consC (aD (cF (.int 3))) (nilC))))))) (consC (aD (cF (.int 3))) (consC (aD (lstF (consA (cF (.str "behind")) (consA (cF (.str "ahead")) (consA (cF (.str "with")) (nilA)))))) (consC (aD (varF 1)) (nilC))))))))
    (seqS (setS 3 (callF (F_grown 30) (lendC 0 (consC (aD (op2 addO (tmpF (cF (.int 1))) (tmpF (callF F_pick (lendC 0 (consC (aD (cF (.int 2))) (nilC))))))) (consC (aD (cF (.int 2))) (consC (aD (lstF (consA (cF (.str "behind")) (consA (cF (.str "ahead")) (consA (cF (.str "with")) (nilA)))))) (consC (aD (varF 1)) (nilC))))))))
    (seqS (forS (itS (lstF (consA (cF (.bool true)) (consA (cF (.bool false)) (nilA))))) (nmT 4) L1_small_k03)
    (seqS (setS 6 (ixS 1 (callF F_pick (lendC 0 (consC (aD (op1 lenO (slotF 1))) (nilC))))))
    (seqS (setS 5 (callF F_swapped (consC (aD (varF 2)) (consC (aD (varF 6)) (consC (aD (varF 3)) (nilC))))))
    (seqS (ifS (notT (truF (tmpF (callF F_within (consC (aD (varF 5)) (nilC))))))
    (retS (callF (F_alike 30) (consC (aD (varF 5)) (consC (aD (callF (F_put 30) (consC (aD (varF 2)) (consC (aT (dispF (consP (varF 6) (varF 3) (nilP)))) (nilC))))) (nilC)))))
    (nxS))
    (seqS (par2S 7 8 (consA (callF F_balance (consC (aD (lstF (consA (varF 2) (nilA)))) (nilC))) (consA (lstF (nilA)) (nilA))))
    (seqS (setS 9 (op1 sumO (tmpF (lcF (itS (varF 7)) (nmT 10) (tstF (op2 eqO (tmpF (ixS 10 (cF (.int 0)))) (slotF 6))) (ixS 10 (cF (.int 1))) [10]))))
    (seqS (setS 11 (lcF (itS (varF 7)) (nmT 10) (tstF (op2 neO (tmpF (ixS 10 (cF (.int 0)))) (slotF 6))) (varF 10) [10]))
    (seqS (setS 12 (callF F_balance (consC (aD (lstF (consA (varF 3) (nilA)))) (nilC))))
    (seqS (forS (strI (cF (.str "abcdefghijklmnopqrstuvwxyz"))) (nmT 13) L2_small_k03)
    (retS (andE (callF (F_alike 30) (consC (aD (callF F_balance (consC (aD (lstF (consA (varF 5) (nilA)))) (nilC)))) (consC (aD (varF 8)) (nilC)))) (callF (F_alike 30) (consC (aD (varF 7)) (consC (aD (callF F_sums (consC (aD (varF 2)) (nilC)))) (nilC))))))))))))))))
def F_small_k03 : FF := defF 2 15 B_small_k03

def B_turned_kind (self : FF) : SF := seqS (ifS (tstF (op2 eqO (tmpF (ixS 0 (cF (.int 0)))) (tmpF (cF (.str "plain")))))
    (retS (varF 0))
    (nxS))
    (retS (tupF (consA (op1 (kdO [("behind", "ahead"), ("ahead", "behind"), ("with", "with")]) (tmpF (ixS 0 (cF (.int 0))))) (consA (callF self (consC (aD (ixS 0 (cF (.int 2)))) (nilC))) (consA (callF self (consC (aD (ixS 0 (cF (.int 1)))) (nilC))) (nilA))))))
def F_turned_kind : Nat → FF
  | 0 => fun _ => .stuck
  | n + 1 => defF 1 1 (B_turned_kind (F_turned_kind n))

def B_turned : SF := retS (callF (F_turned_kind 30) (consC (aD (callF F_checked_kind (consC (aD (varF 0)) (nilC)))) (nilC)))
def F_turned : FF := defF 1 1 B_turned

def L1_law_k03 : SF := seqS (setS 14 (callF F_lifted (consC (aD (varF 7)) (consC (aD (varF 8)) (consC (aD (varF 13)) (nilC))))))
    (seqS (ifS (notT (truF (tmpF (callF (F_alike 30) (consC (aD (varF 14)) (consC (aD (callF F_lift (consC (aD (varF 7)) (consC (aD (varF 8)) (consC (aD (varF 13)) (nilC)))))) (nilC)))))))
    (retS (cF (.bool false)))
    (nxS))
    (seqS (setS 14 (callF F_lifted (revC (consC (aD (varF 13)) (consC (aD (callF F_turned (consC (aD (varF 8)) (nilC)))) (consC (aD (callF F_turned (consC (aD (varF 7)) (nilC)))) (nilC)))))))
    (ifS (notT (truF (tmpF (callF (F_alike 30) (consC (aD (varF 14)) (consC (aD (callF (F_mirror 30) (consC (aD (callF F_lift (consC (aD (varF 7)) (consC (aD (varF 8)) (consC (aD (op1 notO (slotF 13))) (nilC)))))) (nilC)))) (nilC)))))))
    (retS (cF (.bool false)))
    (nxS))))
def L2_law_k03 : SF := seqS (setS 3 (callF F_pool (lendC 1 (nilC))))
    (seqS (setS 4 (op2 ixO (tmpF (lstF (consA (lstF (consA (cF (.str "behind")) (consA (cF (.str "ahead")) (consA (cF (.str "with")) (nilA))))) (consA (lstF (consA (cF (.str "behind")) (consA (cF (.str "ahead")) (nilA)))) (nilA))))) (tmpF (callF F_pick (lendC 1 (consC (aD (cF (.int 2))) (nilC)))))))
    (seqS (setS 5 (lcF (rng1 (tmpF (cF (.int 3)))) (nmT 6) (yesT) (callF (F_grown 30) (lendC 1 (consC (aD (op2 addO (tmpF (cF (.int 1))) (tmpF (callF F_pick (lendC 1 (consC (aD (cF (.int 7))) (nilC))))))) (consC (aD (cF (.int 5))) (consC (aD (varF 4)) (consC (aD (varF 3)) (nilC))))))) [6]))
    (seqS (asgS (tupT 3 (consTs (nmT 7) (consTs (nmT 8) (consTs (nmT 9) (nilTs))))) (varF 5))
    (seqS (setS 10 (op2 ixO (tmpF (lstF (consA (varF 3) (consA (cF (.str "abcdefghijklmnopqrstuvwxyz")) (nilA))))) (tmpF (callF F_pick (lendC 1 (consC (aD (cF (.int 2))) (nilC)))))))
    (seqS (setS 11 (ixS 10 (callF F_pick (lendC 1 (consC (aD (op1 lenO (slotF 10))) (nilC))))))
    (seqS (setS 12 (callF (F_put 30) (consC (aD (varF 7)) (consC (aT (dispF (consP (varF 11) (varF 8) (nilP)))) (nilC)))))
    (seqS (ifS (notT (truF (tmpF (callF (F_alike 30) (consC (aD (callF F_swapped (consC (aD (varF 7)) (consC (aD (varF 11)) (consC (aD (varF 8)) (nilC)))))) (consC (aD (varF 12)) (nilC)))))))
    (retS (cF (.bool false)))
    (nxS))
    (seqS (ifS (notT (truF (tmpF (callF (F_alike 30) (consC (aD (callF F_swapped (revC (consC (aD (varF 9)) (consC (aD (varF 11)) (consC (aD (varF 7)) (nilC))))))) (consC (aD (callF (F_put 30) (consC (aD (varF 7)) (consC (aT (dispF (consP (varF 11) (varF 9) (nilP)))) (nilC))))) (nilC)))))))
    (retS (cF (.bool false)))
    (nxS))
    (seqS (ifS (notT (truF (tmpF (callF (F_alike 30) (consC (aD (callF F_swapped (consC (aD (varF 7)) (consC (aD (varF 11)) (consC (aD (tupF (consA (cF (.str "plain")) (consA (varF 11) (nilA))))) (nilC)))))) (consC (aD (varF 7)) (nilC)))))))
    (retS (cF (.bool false)))
    (nxS))
    (seqS (ifS (notT (truF (tmpF (callF (F_alike 30) (consC (aD (callF F_swapped (consC (aD (callF F_turned (consC (aD (varF 7)) (nilC)))) (consC (aD (varF 11)) (consC (aD (callF F_turned (consC (aD (varF 8)) (nilC)))) (nilC)))))) (consC (aD (callF (F_mirror 30) (consC (aD (varF 12)) (nilC)))) (nilC)))))))
    (retS (cF (.bool false)))
    (nxS))
    (seqS (forS (itS (lstF (consA (cF (.bool true)) (consA (cF (.bool false)) (nilA))))) (nmT 13) L1_law_k03)
    (ifS (orT (notT (truF (tmpF (callF (F_alike 30) (consC (aD (callF F_swapped (consC (aD (varF 7)) (consC (aD (varF 11)) (consC (aD (varF 8)) (nilC)))))) (consC (aD (varF 12)) (nilC))))))) (notT (truF (tmpF (callF F_small_k03 (lendC 1 (consC (aD (varF 3)) (nilC))))))))
    (retS (cF (.bool false)))
    (nxS)))))))))))))
def B_law_k03 : SF := seqS (setS 1 (callF F_begun (consC (aD (varF 0)) (nilC))))
    (seqS (forS (rng1 (tmpF (cF (.int 8)))) (nmT 2) L2_law_k03)
    (retS (cF (.bool true))))
def F_law_k03 : FF := defF 1 15 B_law_k03
end
end Fn

namespace Fn
open PySem PySem.Spec PyProof.Rows L2 Ww Vs
/-! ### words of lifted and swapped kinds -/
theorem inv_cons (x : Str × Int) (w : Wds) : inv (x :: w) = inv w ++ [neg x] := by simp [inv, neg]
theorem redS_inv : ∀ {w st : Wds}, Sg w → RSt st → redS st (w ++ inv w) = st
  | [], st, _, _ => rfl
  | x :: w, st, hs, h => by
    have e : (x :: w) ++ inv (x :: w) = [x] ++ ((w ++ inv w) ++ [neg x]) := by rw [inv_cons]; simp
    rw [e, redS_app, redS_app, redS_inv (fun y m => hs y (List.mem_cons_of_mem _ m)) (redS_rst h)]
    show push (push st x) (neg x) = st
    exact push_back h x (hs x List.mem_cons_self).2
theorem red_front {u v : Wds} (hu : Sg u) : red (u ++ inv u ++ v) = red v := by
  unfold red
  have n0 : RSt [] := trivial
  rw [redS_app, redS_inv hu n0]
theorem red_back {u v : Wds} (hv : Sg v) : red (u ++ (v ++ inv v)) = red u := by
  unfold red
  have n0 : RSt [] := trivial
  rw [redS_app, redS_inv hv (redS_rst n0)]
theorem cnt_inv (w : Wds) (l : Str) : cnt (inv w) l = - cnt w l := by
  induction w with
  | nil => rfl
  | cons x w ih =>
    have h := cnt_app [x] w l
    rw [List.singleton_append, cnt_one] at h
    rw [inv_cons, cnt_app, ih, cnt_one, h]
    show -cnt w l + (if x.1 = l then -x.2 else 0) = _
    split <;> omega
theorem cnt_abs (w : Wds) (l : Str) (h : Sg w) : (cnt w l).natAbs ≤ w.length := by
  induction w with
  | nil => exact Nat.zero_le _
  | cons x w ih =>
    have ih := ih fun y m => h y (List.mem_cons_of_mem _ m)
    have e := cnt_app [x] w l
    rw [List.singleton_append, cnt_one] at e
    have s := (h x List.mem_cons_self).2
    rw [e, List.length_cons]
    split <;> omega
def lift (k o : Kd) (b : Bool) : Kd := if b = true then .nd "behind" o (.nd "ahead" k o) else .nd "ahead" (.nd "behind" o k) o
theorem lift_sgn (k o : Kd) (b : Bool) (hk : k.ok) (ho : o.ok) : (lift k o b).sgn 1 = if b = true then o.sgn 1 ++ inv (o.sgn 1) ++ k.sgn 1 else k.sgn 1 ++ (inv (o.sgn 1) ++ inv (inv (o.sgn 1))) := by
  have e1 := sgn_neg k hk
  have e2 := sgn_neg o ho
  cases b with
  | true => simp [lift, Kd.sgn, e1, e2]
  | false => simp [lift, Kd.sgn, e1, e2]
theorem lift_red (k o : Kd) (b : Bool) (hk : k.ok) (ho : o.ok) : red ((lift k o b).sgn 1) = red (k.sgn 1) := by
  have so := sgn_sg o 1 ho (.inl rfl)
  rw [lift_sgn k o b hk ho]
  cases b with
  | true => exact red_front so
  | false => exact red_back (inv_sg so)
theorem lift_cnt (k o : Kd) (b : Bool) (hk : k.ok) (ho : o.ok) (l : Str) : cnt ((lift k o b).sgn 1) l = cnt (k.sgn 1) l := by
  rw [lift_sgn k o b hk ho]
  cases b with
  | true =>
    rw [if_pos rfl, cnt_app, cnt_app, cnt_inv]
    omega
  | false =>
    rw [if_neg Bool.false_ne_true]
    simp only [cnt_app, cnt_inv]
    omega
theorem lift_ok {k o : Kd} {b : Bool} (hk : k.ok) (ho : o.ok) : (lift k o b).ok ∧ (lift k o b).deep ≤ 2 + max k.deep o.deep ∧ (lift k o b).letters.length = k.letters.length + 2 * o.letters.length := by
  have fa : Form (Str.ofString "ahead") := .inr (.inl rfl)
  have fb : Form (Str.ofString "behind") := .inl rfl
  cases b with
  | true =>
    refine ⟨⟨fb, ho, fa, hk, ho⟩, ?_, ?_⟩
    · show 1 + max o.deep (1 + max k.deep o.deep) ≤ _
      omega
    · show (o.letters ++ (k.letters ++ o.letters)).length = _
      rw [List.length_append, List.length_append]
      omega
  | false =>
    refine ⟨⟨fa, ⟨fb, ho, hk⟩, ho⟩, ?_, ?_⟩
    · show 1 + max (1 + max o.deep k.deep) o.deep ≤ _
      omega
    · show ((o.letters ++ k.letters) ++ o.letters).length = _
      rw [List.length_append, List.length_append]
      omega
theorem lift_turn (k o : Kd) (b : Bool) : (lift k o (!b)).turn = lift k.turn o.turn b := by
  cases b with
  | true => 
    show Kd.nd (turnF "ahead") o.turn (.nd (turnF "behind") k.turn o.turn) = _
    rw [turnF_a, turnF_b]; rfl
  | false =>
    show Kd.nd (turnF "behind") (.nd (turnF "ahead") o.turn k.turn) o.turn = _
    rw [turnF_a, turnF_b]; rfl
/-! ### a letter for which a kind is put -/
def sw (l : Str) (o : Kd) : Kd → Kd := Kd.sub (tau [(l, o)])
theorem tau_one (l s : Str) (o : Kd) : tau [(l, o)] s = if s = l then o else .pl s := by
  unfold tau
  rw [List.lookup_cons]
  by_cases h : s = l
  · subst h; simp
  · have : (s == l) = false := by simpa using h
    simp [this, h]
theorem sw_id (l : Str) : ∀ k : Kd, sw l (.pl l) k = k
  | .pl s => by
    show tau [(l, .pl l)] s = _
    rw [tau_one]
    split
    · rename_i h; rw [h]
    · rfl
  | .nd f a b => by
    show Kd.nd f (sw l (.pl l) a) (sw l (.pl l) b) = _
    rw [sw_id l a, sw_id l b]
theorem sw_turn (l : Str) (o : Kd) : ∀ k : Kd, sw l o.turn k.turn = (sw l o k).turn
  | .pl s => by
    show tau [(l, o.turn)] s = (tau [(l, o)] s).turn
    rw [tau_one, tau_one]
    split <;> rfl
  | .nd f a b => by
    show Kd.nd (turnF f) (sw l o.turn b.turn) (sw l o.turn a.turn) = Kd.nd (turnF f) (sw l o b).turn (sw l o a).turn
    rw [sw_turn l o a, sw_turn l o b]
theorem sw_ok (l : Str) {o : Kd} (ho : o.ok) : ∀ {k : Kd}, k.ok → (sw l o k).ok ∧ (sw l o k).deep ≤ k.deep + o.deep ∧ (sw l o k).letters.length ≤ k.letters.length * o.letters.length
  | .pl s, hk => by
    have lp := o.letters_pos
    have dp := o.deep_pos
    show (tau [(l, o)] s).ok ∧ (tau [(l, o)] s).deep ≤ 1 + o.deep ∧ (tau [(l, o)] s).letters.length ≤ 1 * o.letters.length
    rw [tau_one]
    split
    · exact ⟨ho, by omega, by omega⟩
    · exact ⟨hk, by show 1 ≤ _; omega, by show 1 ≤ _; omega⟩
  | .nd f a b, ⟨hf, oa, ob⟩ => by
    obtain ⟨a1, a2, a3⟩ := sw_ok l ho oa
    obtain ⟨b1, b2, b3⟩ := sw_ok l ho ob
    refine ⟨⟨hf, a1, b1⟩, ?_, ?_⟩
    · show 1 + max (sw l o a).deep (sw l o b).deep ≤ 1 + max a.deep b.deep + o.deep
      omega
    · show ((sw l o a).letters ++ (sw l o b).letters).length ≤ (a.letters ++ b.letters).length * _
      rw [List.length_append, List.length_append, Nat.add_mul]
      omega
theorem sgn_cnt (k : Kd) (s : Int) (hk : k.ok) (hs : s = 1 ∨ s = -1) (x : Str) : cnt (k.sgn s) x = s * cnt (k.sgn 1) x := by
  rcases hs with rfl | rfl
  · omega
  · rw [sgn_neg k hk, cnt_inv]
    omega
theorem sgn_nd (f : Str) (a b : Kd) (s : Int) (hs : s = 1 ∨ s = -1) (oa : a.ok) (ob : b.ok) (x : Str) : cnt ((Kd.nd f a b).sgn s) x = (if f = "ahead" then -s else s) * cnt (a.sgn 1) x + (if f = "behind" then -s else s) * cnt (b.sgn 1) x := by
  have n1 : (if f = "ahead" then -s else s) = 1 ∨ (if f = "ahead" then -s else s) = -1 := by split <;> omega
  have n2 : (if f = "behind" then -s else s) = 1 ∨ (if f = "behind" then -s else s) = -1 := by split <;> omega
  have h1 := sgn_cnt a _ oa n1 x
  have h2 := sgn_cnt b _ ob n2 x
  show cnt (if s = 1 then _ else _) x = _
  split
  · rw [cnt_app, h1, h2]
  · rw [cnt_app, h1, h2]
    omega
theorem sw_cnt (l : Str) {o : Kd} (ho : o.ok) (x : Str) : ∀ {k : Kd}, k.ok → cnt ((sw l o k).sgn 1) x = (if x = l then 0 else cnt (k.sgn 1) x) + cnt (k.sgn 1) l * cnt (o.sgn 1) x
  | .pl s, hk => by
    show cnt ((tau [(l, o)] s).sgn 1) x = (if x = l then 0 else cnt [(s, 1)] x) + cnt [(s, 1)] l * _
    rw [tau_one, cnt_one, cnt_one]
    by_cases h : s = l
    · subst h
      rw [if_pos rfl, if_pos rfl]
      by_cases h2 : x = s
      · rw [if_pos h2]; omega
      · rw [if_neg h2, if_neg (fun z => h2 z.symm)]; omega
    · rw [if_neg h, if_neg h]
      show cnt [(s, 1)] x = _
      rw [cnt_one]
      by_cases h2 : x = l
      · rw [if_pos h2, if_neg (fun z => h (by rw [← h2]; exact z))]; omega
      · rw [if_neg h2]; omega
  | .nd f a b, ⟨hf, oa, ob⟩ => by
    have a0 := sw_ok l ho oa
    have b0 := sw_ok l ho ob
    have ha := sw_cnt l ho x oa
    have hb := sw_cnt l ho x ob
    have e1 := sgn_nd f (sw l o a) (sw l o b) 1 (.inl rfl) a0.1 b0.1 x
    have e2 := sgn_nd f a b 1 (.inl rfl) oa ob x
    have e3 := sgn_nd f a b 1 (.inl rfl) oa ob l
    show cnt ((Kd.nd f (sw l o a) (sw l o b)).sgn 1) x = _
    rw [e1, e2, e3, ha, hb]
    generalize (if f = "ahead" then (-1 : Int) else 1) = p
    generalize (if f = "behind" then (-1 : Int) else 1) = q
    generalize cnt (a.sgn 1) x = ax
    generalize cnt (b.sgn 1) x = bx
    generalize cnt (a.sgn 1) l = al
    generalize cnt (b.sgn 1) l = bl
    generalize cnt (o.sgn 1) x = ox
    by_cases h2 : x = l
    · rw [if_pos h2, if_pos h2, if_pos h2]
      rw [Int.zero_add, Int.zero_add, Int.zero_add, Int.add_mul, Int.mul_assoc, Int.mul_assoc]
    · rw [if_neg h2, if_neg h2, if_neg h2]
      rw [Int.mul_add, Int.mul_add, Int.add_mul, Int.mul_assoc, Int.mul_assoc]
      omega
end Fn

namespace Fn
open PySem PySem.Spec PyProof.Rows L2 Ww Vs
theorem put_all_eq : ∀ n, F_put_all n = F_put n
  | 0 => rfl
  | n + 1 => by
    show defF 2 2 (B_put_all (F_put_all n)) = defF 2 2 (B_put (F_put n))
    rw [put_all_eq n]
    rfl
theorem put1_ok (l : Str) (o : Kd) (n : Nat) (k : Kd) (ok : k.ok) (h : k.deep ≤ n) : F_put n [.dat k.dat, .dk [(.inr l, o.dat)]] = .ok (.dat (sw l o k).dat) [.no, .bor (.dk [(.inr l, o.dat)])] := put_ok [(l, o)] n k ok h
theorem put1a_ok (l : Str) (o : Kd) (n : Nat) (k : Kd) (ok : k.ok) (h : k.deep ≤ n) : F_put_all n [.dat k.dat, .dk [(.inr l, o.dat)]] = .ok (.dat (sw l o k).dat) [.no, .bor (.dk [(.inr l, o.dat)])] := by
  rw [put_all_eq]
  exact put1_ok l o n k ok h
theorem merge1 (k : L2.Key) (v : PyData) : mergeD [] [(k, v)] = [(k, v)] := rfl
theorem check_letter_ok {s : Str} (h : Let s) : F_check_letter [.dat (.str s)] = .ok (.dat .none) [.no] := by
  have e : isLet s = true := isLet_iff.mpr h
  have l1 := h.len
  have e2 := is_letter_ok s (by omega)
  rw [e] at e2
  simp [F_check_letter, x_def, x_entry, x_leave, B_check_letter, e2]
/-- a kind of the law's size -/
def Kb (k : Kd) : Prop := k.ok ∧ k.deep ≤ 30
theorem two_checked {k o : Kd} (hk : Kb k) (ho : Kb o) : F_checked_kinds [.dat (.list [k.dat, o.dat])] = .ok (.dat (.list [k.dat, o.dat])) [.no] := checked_kinds_ok [k, o] fun x hx => by
  rcases List.mem_cons.mp hx with rfl | hx
  · exact hk
  · rw [List.mem_singleton.mp hx]; exact ho
theorem swapped_ok {k o : Kd} {l : Str} (hk : Kb k) (ho : Kb o) (hl : Let l) : F_swapped [.dat k.dat, .dat (.str l), .dat o.dat] = .ok (.dat (sw l o k).dat) [.no, .no, .no] := by
  have e1 := two_checked hk ho
  have e2 := check_letter_ok hl
  have e3 := put1a_ok l o 30 k hk.1 hk.2
  simp [F_swapped, x_def, x_entry, x_leave, B_swapped, e1, e2, e3, merge1]
theorem swapped_pl_ok {k : Kd} {l : Str} (hk : Kb k) (hl : Let l) : F_swapped [.dat k.dat, .dat (.str l), .dat (.tuple [.str (Str.ofString "plain"), .str l])] = .ok (.dat k.dat) [.no, .no, .no] := by
  have h := swapped_ok (o := .pl l) hk ⟨hl, by show 1 ≤ 30; omega⟩ hl
  rw [sw_id] at h
  exact h
theorem lifted_ok {k o : Kd} {b : Bool} (hk : Kb k) (ho : Kb o) : F_lifted [.dat k.dat, .dat o.dat, .dat (.bool b)] = .ok (.dat (lift k o b).dat) [.no, .no, .no] := by
  have e1 := two_checked hk ho
  cases b <;> simp [F_lifted, x_def, x_entry, x_leave, B_lifted, e1, lift]
theorem liftF_ok {k o : Kd} {b : Bool} : F_lift [.dat k.dat, .dat o.dat, .dat (.bool b)] = .ok (.dat (lift k o b).dat) [.no, .no, .no] := by
  cases b <;> simp [F_lift, x_def, x_entry, x_leave, B_lift, lift]
theorem turnF_b' : turnF (Str.ofString "behind") = Str.ofString "ahead" := turnF_b
theorem turnF_a' : turnF (Str.ofString "ahead") = Str.ofString "behind" := turnF_a
theorem turnF_w' : turnF (Str.ofString "with") = Str.ofString "with" := turnF_w
theorem sbf {x y : Str} (h : x ≠ y) : (x == y) = false := by simpa using h
theorem kd_b : kdO [(Str.ofString "behind", Str.ofString "ahead"), (Str.ofString "ahead", Str.ofString "behind"), (Str.ofString "with", Str.ofString "with")] (.dat (.str (Str.ofString "behind"))) = some (.dat (.str (Str.ofString "ahead"))) := by
  simp [kdO, List.lookup_cons]
theorem kd_a : kdO [(Str.ofString "behind", Str.ofString "ahead"), (Str.ofString "ahead", Str.ofString "behind"), (Str.ofString "with", Str.ofString "with")] (.dat (.str (Str.ofString "ahead"))) = some (.dat (.str (Str.ofString "behind"))) := by
  simp [kdO, List.lookup_cons, sbf sne_ab]
theorem kd_w : kdO [(Str.ofString "behind", Str.ofString "ahead"), (Str.ofString "ahead", Str.ofString "behind"), (Str.ofString "with", Str.ofString "with")] (.dat (.str (Str.ofString "with"))) = some (.dat (.str (Str.ofString "with"))) := by
  simp [kdO, List.lookup_cons, sbf sne_wb, sbf sne_wa]
theorem turned_kind_ok : ∀ (n : Nat) (k : Kd), k.ok → k.deep ≤ n → F_turned_kind n [.dat k.dat] = .ok (.dat k.turn.dat) [.no]
  | 0, k, _, h => by have := k.deep_pos; omega
  | n + 1, .pl y, ok, h => by simp [F_turned_kind, x_def, x_entry, x_leave, B_turned_kind, Kd.turn]
  | n + 1, .nd f a b, ⟨hf, oa, ob⟩, h => by
    have dm : 1 + max a.deep b.deep ≤ n + 1 := h
    have ea := turned_kind_ok n a oa (by omega)
    have eb := turned_kind_ok n b ob (by omega)
    rcases hf with rfl | rfl | rfl <;> simp [F_turned_kind, x_def, x_entry, x_leave, B_turned_kind, Kd.turn, ea, eb, turnF_b', turnF_a', turnF_w', kd_b, kd_a, kd_w]
theorem mirror_ok : ∀ (n : Nat) (k : Kd), k.ok → k.deep ≤ n → F_mirror n [.dat k.dat] = .ok (.dat k.turn.dat) [.no]
  | 0, k, _, h => by have := k.deep_pos; omega
  | n + 1, .pl y, ok, h => by simp [F_mirror, x_def, x_entry, x_leave, B_mirror, Kd.turn]
  | n + 1, .nd f a b, ⟨hf, oa, ob⟩, h => by
    have dm : 1 + max a.deep b.deep ≤ n + 1 := h
    have ea := mirror_ok n a oa (by omega)
    have eb := mirror_ok n b ob (by omega)
    rcases hf with rfl | rfl | rfl <;> simp [F_mirror, x_def, x_entry, x_leave, B_mirror, Kd.turn, ea, eb, turnF_b', turnF_a', turnF_w']
theorem turned_ok {k : Kd} (hk : Kb k) : F_turned [.dat k.dat] = .ok (.dat k.turn.dat) [.no] := by
  have e1 := checked_kind_ok k hk.1 hk.2
  have e2 := turned_kind_ok 30 k hk.1 hk.2
  simp [F_turned, x_def, x_entry, x_leave, B_turned, e1, e2]
theorem Kb.turn {k : Kd} (h : Kb k) : Kb k.turn := ⟨Kd.turn_ok h.1, by rw [Kd.turn_deep]; exact h.2⟩
/-! ### sums letter by letter -/
theorem srt_filt {xs a : List Str} (h : Srt xs a) (p : Str → Bool) : Srt (xs.filter p) (a.filter p) := ⟨h.up.filter _, fun k => by
  simp only [List.mem_filter, h.mem]⟩
def abcs : List Str := (Str.ofString "abcdefghijklmnopqrstuvwxyz").cps.toList.map T1
theorem abc_lit : (Str.ofString "abcdefghijklmnopqrstuvwxyz").cps.toList = (List.range 26).map (97 + ·) := by decide +kernel
theorem abcs_srt : Srt abcs abcs := ⟨by
  unfold abcs
  rw [abc_lit, List.map_map, List.pairwise_map]
  refine List.Pairwise.imp ?_ List.pairwise_lt_range
  intro a b h
  show [97 + a] < [97 + b]
  exact List.Lex.rel (by omega), fun k => Iff.rfl⟩
theorem abcs_let {a : Str} : a ∈ abcs ↔ Let a := by
  constructor
  · intro h
    obtain ⟨c, hc, rfl⟩ := List.mem_map.mp h
    exact ⟨c, rfl, abc_all c hc⟩
  · rintro ⟨c, rfl, h⟩
    exact List.mem_map.mpr ⟨c, (abc_mem c).2 h, rfl⟩
theorem bal_abc {c : Str → Int} {xs : List Str} (hx : ∀ x ∈ xs, Let x) (h0 : ∀ a, a ∉ xs → c a = 0) : abcs.filter (fun a => !(c a == 0)) = (sortU xs).filter (fun a => !(c a == 0)) := by
  refine Srt.eq (srt_filt abcs_srt _) ((srt_filt (sortU_srt xs) _).same fun k => ?_)
  rw [List.mem_filter, List.mem_filter, abcs_let]
  constructor
  · rintro ⟨a, b⟩
    exact ⟨hx k a, b⟩
  · rintro ⟨a, b⟩
    refine ⟨Classical.byContradiction fun z => ?_, b⟩
    rw [h0 k z] at b
    cases b
theorem sums_loop {w : Wds} (hs : Sg w) (hl : w.length ≤ 60) (s0 : Sl) : ∀ (cs : List Nat) (fo : List PyData) (s3 s4 : Sl), (∀ c ∈ cs, 97 ≤ c ∧ c ≤ 122) → fo.length + cs.length ≤ 1000 → Fr s3 → Fr s4 →
    ∃ u v, Fr u ∧ Fr v ∧ loopF (nmT 3) L1_sums (cs.map fun c => .str ⟨#[c]⟩) [s0, .val (.dat (.str (enc w))), .val (.ls fo), s3, s4] =
      .nx [s0, .val (.dat (.str (enc w))), .val (.ls (fo ++ ((cs.map T1).filter fun a => !(cnt w a == 0)).map fun a => rowD (a, cnt w a))), u, v]
  | [], fo, s3, s4, _, _, h3, h4 => ⟨s3, s4, h3, h4, by simp⟩
  | c :: cs, fo, s3, s4, hc, hz, h3, h4 => by
    rw [List.length_cons] at hz
    obtain ⟨c1, c2⟩ := hc c List.mem_cons_self
    obtain ⟨u1, u2, u3⟩ := up_lo c1 c2
    have ct := count_enc hs (a := T1 c) ⟨c, rfl, c1, c2⟩
    rw [hd_T1] at ct
    have z1 : (enc w).length ≤ 1000 := by rw [enc_len]; omega
    have z3 : (T1 c).length ≤ 1000 := by show 1 ≤ 1000; omega
    have z4 : (T1 (c - 32)).length ≤ 1000 := by show 1 ≤ 1000; omega
    have z5 : small (fo.length + 1) = true := small_of (by omega)
    have e0 : (⟨#[c]⟩ : Str) = T1 c := rfl
    have em : ∀ g : Str → PyData, ((List.map T1 (c :: cs)).filter fun a => !(cnt w a == 0)).map g = (if cnt w (T1 c) = 0 then [] else [g (T1 c)]) ++ (((List.map T1 cs).filter fun a => !(cnt w a == 0)).map g) := fun g => by
      rw [List.map_cons, List.filter_cons]
      by_cases z : cnt w (T1 c) = 0 <;> simp [z]
    by_cases z : cnt w (T1 c) = 0
    · obtain ⟨u, v, fu, fv, ih⟩ := sums_loop hs hl s0 cs fo (.val (.dat (.str (T1 c)))) (.val (.dat (.int 0))) (fun x m => hc x (List.mem_cons_of_mem _ m)) (by omega) .val .val
      refine ⟨u, v, fu, fv, ?_⟩
      rw [em, if_pos z, List.nil_append, List.map_cons, x_loop_cons, e0]
      have b : L1_sums [s0, .val (.dat (.str (enc w))), .val (.ls fo), .val (.dat (.str (T1 c))), s4] = .nx [s0, .val (.dat (.str (enc w))), .val (.ls fo), .val (.dat (.str (T1 c))), .val (.dat (.int 0))] := by
        simp [L1_sums, u2, z1, z3, z4, ct, z, x_fr h4]
      simp [x_fr h3, b, ih]
    · obtain ⟨u, v, fu, fv, ih⟩ := sums_loop hs hl s0 cs (fo ++ [rowD (T1 c, cnt w (T1 c))]) (.val (.dat (.str (T1 c)))) (.val (.dat (.int (cnt w (T1 c))))) (fun x m => hc x (List.mem_cons_of_mem _ m)) (by rw [List.length_append]; simp; omega) .val .val
      refine ⟨u, v, fu, fv, ?_⟩
      rw [em, if_neg z, ← List.append_assoc, List.map_cons, x_loop_cons, e0]
      have b : L1_sums [s0, .val (.dat (.str (enc w))), .val (.ls fo), .val (.dat (.str (T1 c))), s4] = .nx [s0, .val (.dat (.str (enc w))), .val (.ls (fo ++ [rowD (T1 c, cnt w (T1 c))])), .val (.dat (.str (T1 c))), .val (.dat (.int (cnt w (T1 c))))] := by
        simp [L1_sums, u2, z1, z3, z4, ct, z, z5, x_fr h4, rowD]
      simp [x_fr h3, b, ih]
theorem sums_ok {k : Kd} (ok : k.ok) (d : k.deep ≤ 30) (l : k.letters.length ≤ 60) : F_sums [.dat k.dat] = .ok (.ls ((bal (k.sgn 1)).map rowD)) [.no] := by
  have e1 := line_ok 30 k ok d (by omega)
  have hs := sgn_sg k 1 ok (.inl rfl)
  have hl : (k.sgn 1).length ≤ 60 := by rw [Kd.sgn_len]; exact l
  obtain ⟨u, v, fu, fv, e2⟩ := sums_loop hs hl (.val (.dat k.dat)) (Str.ofString "abcdefghijklmnopqrstuvwxyz").cps.toList [] .no .no (fun c m => abc_all c m) (by rw [← len_cps, abc_len]; decide) .no .no
  have e3 := bal_abc (c := cnt (k.sgn 1)) (xs := (k.sgn 1).map (·.1)) (fun x m => by
    obtain ⟨y, hy, rfl⟩ := List.mem_map.mp m
    exact (hs y hy).1) (fun a h => cnt_no h)
  have e4 : (List.map (fun a => rowD (a, cnt (k.sgn 1) a)) (abcs.filter fun a => !(cnt (k.sgn 1) a == 0))) = (bal (k.sgn 1)).map rowD := by
    rw [e3, bal, List.map_map]
    rfl
  rw [List.nil_append] at e2
  change _ = Out.nx [_, _, .val (.ls (List.map _ (abcs.filter _))), u, v] at e2
  rw [e4] at e2
  simp [F_sums, x_def, x_entry, x_leave, B_sums, e1, e2]
end Fn

namespace Fn
open PySem PySem.Spec PyProof.Rows L2 Ww Vs
theorem rowSgn_1 (k : Kd) : rowSgn [k] = k.sgn 1 := List.append_nil _
theorem rw_1 {k : Kd} (ok : k.ok) (d : k.deep ≤ 29) (l : k.letters.length ≤ 60) : Rw [k] := ⟨by simp, fun x hx => by rw [List.mem_singleton.mp hx]; exact ⟨ok, d⟩, by rw [rowSgn_1, Kd.sgn_len]; exact l⟩
theorem bal_eq {w : Wds} (hs : Sg w) : bal w = (abcs.filter fun a => !(cnt w a == 0)).map fun a => (a, cnt w a) := by
  rw [bal_abc (c := cnt w) (xs := w.map (·.1)) (fun x m => by
    obtain ⟨y, hy, rfl⟩ := List.mem_map.mp m
    exact (hs y hy).1) (fun a h => cnt_no h)]
  rfl
theorem bal_cnt {w v : Wds} (hw : Sg w) (hv : Sg v) (h : ∀ l, cnt w l = cnt v l) : bal w = bal v := by
  rw [bal_eq hw, bal_eq hv]
  simp only [h]
theorem cnt_tab (c : Str → Int) (l : Str) : ∀ ks : List Str, ks.Nodup → cnt (ks.map fun a => (a, c a)) l = if l ∈ ks then c l else 0
  | [], _ => rfl
  | k :: ks, h => by
    obtain ⟨h1, h2⟩ := List.nodup_cons.mp h
    have ih := cnt_tab c l ks h2
    have e := cnt_app [(k, c k)] (ks.map fun a => (a, c a)) l
    rw [List.singleton_append, cnt_one, ih] at e
    rw [List.map_cons, e]
    by_cases z : k = l
    · subst z
      simp [h1]
    · have z' : ¬ l = k := fun q => z q.symm
      simp [z, z']
theorem cnt_bal (w : Wds) (l : Str) : cnt (bal w) l = cnt w l := by
  have nd : ((sortU (w.map (·.1))).filter fun l => !(cnt w l == 0)).Nodup := (sortU_srt _).nodup.filter _
  show cnt (((sortU (w.map (·.1))).filter fun l => !(cnt w l == 0)).map fun l => (l, cnt w l)) l = _
  rw [cnt_tab (cnt w) l _ nd]
  split
  · rfl
  · rename_i h
    rw [List.mem_filter] at h
    by_cases m : l ∈ w.map (·.1)
    · have q : ¬ (!(cnt w l == 0)) = true := fun z => h ⟨((sortU_srt _).mem l).2 m, z⟩
      have : cnt w l = 0 := by simpa using q
      exact this.symm
    · exact (cnt_no m).symm
theorem cnt_not (l s : Str) (w : Wds) : cnt (w.filter fun x => !(x.1 == l)) s = if s = l then 0 else cnt w s := by
  induction w with
  | nil => split <;> rfl
  | cons x w ih =>
    have e := cnt_app [x] w s
    rw [List.singleton_append, cnt_one] at e
    rw [e, List.filter_cons]
    by_cases z : x.1 = l
    · have z1 : (!(x.1 == l)) = false := by simp [z]
      rw [if_neg (by rw [z1]; exact Bool.false_ne_true), ih]
      by_cases y : s = l
      · rw [if_pos y, if_pos y]
      · rw [if_neg y, if_neg y, if_neg (fun q => y (by rw [← q]; exact z))]
        omega
    · have z1 : (!(x.1 == l)) = true := by simp [z]
      have e2 := cnt_app [x] (w.filter fun x => !(x.1 == l)) s
      rw [List.singleton_append, cnt_one] at e2
      rw [if_pos z1, e2, ih]
      by_cases y : s = l
      · rw [if_pos y, if_pos y, if_neg (fun q => z (by rw [q]; exact y))]
        omega
      · rw [if_neg y, if_neg y]
theorem beqd (x y : Str) : (x == y) = decide (x = y) := by
  by_cases h : x = y <;> simp [h]
/-- the counts of one letter -/
theorem sum_lc (L : Wds) (a : Str) (i : Nat) (ρ : En) (h : ∀ x ∈ L, (nmT 10).f (rowD x) ρ = some (ρ.set 10 (.val (.dat (rowD x)))) ∧
    tstF (op2 eqO (tmpF (ixS 10 (cF (.int 0)))) (slotF i)) (ρ.set 10 (.val (.dat (rowD x)))) = .ok (decide (x.1 = a)) (ρ.set 10 (.val (.dat (rowD x)))) ∧
    ixS 10 (cF (.int 1)) (ρ.set 10 (.val (.dat (rowD x)))) = .ok (.dat (.int x.2)) (ρ.set 10 (.val (.dat (rowD x)))) ∧ wipeR (ρ.set 10 (.val (.dat (rowD x)))) [10] = ρ) :
    lcL (nmT 10) (tstF (op2 eqO (tmpF (ixS 10 (cF (.int 0)))) (slotF i))) (ixS 10 (cF (.int 1))) [10] (L.map rowD) ρ = .ok (((L.filter fun x => decide (x.1 = a)).map (·.2)).map .int) ρ := by
  rw [lcL_filterT rowD (fun x => decide (x.1 = a)) (fun x => .int x.2)]
  · rw [List.map_map]
    rfl
  · intro x hx
    obtain ⟨h1, h2, h3, h4⟩ := h x hx
    exact ⟨_, _, h1, h2, fun _ => h4, fun _ => ⟨_, _, h3, rfl, h4⟩⟩
theorem sumO_map (ys : List Int) : sumO (.ls (ys.map .int)) = some (.dat (.int ys.sum)) := by
  show ((some (ys.map PyData.int)).bind allInt).map _ = _
  rw [Option.bind_some, Vs.allInt_map]
  rfl
theorem sumO_cnt (L : Wds) (a : Str) : sumO (.ls (((L.filter fun x => decide (x.1 = a)).map (·.2)).map .int)) = some (.dat (.int (cnt L a))) := sumO_map _
theorem nar_of {i : Int} (h : i.natAbs ≤ 1000) : nar i = true := decide_eq_true ⟨by omega, by omega⟩
/-! ### the sums of a swapped kind -/
theorem due_loop {w v u : Wds} {l : Str} (hu : (cnt w l).natAbs ≤ 1000) (R : Wds) (lR : R.length ≤ 1000) (hR : ∀ s, cnt R s = if s = l then 0 else cnt w s) (O' : Wds) (lO : O'.length ≤ 1000) (hO : ∀ s, cnt O' s = cnt v s)
    (hx0 : ∀ s, cnt u s = (if s = l then 0 else cnt w s) + cnt w l * cnt v s) (s0 s1 s2 s3 s4 s5 s6 s7 : Sl) : ∀ (cs : List Nat) (fo : List PyData) (s11 s12 s13 s14 : Sl), fo.length + cs.length ≤ 1000 → Fr s13 → Fr s14 →
    (s11 = .val (.ls (R.map rowD)) ∨ s11 = .val (.dat (.list (R.map rowD)))) → (s12 = .val (.ls (O'.map rowD)) ∨ s12 = .val (.dat (.list (O'.map rowD)))) →
    ∃ m n p q, Fr m ∧ Fr n ∧ Fr p ∧ Fr q ∧ loopF (nmT 13) L2_small_k03 (cs.map fun c => .str ⟨#[c]⟩) [s0, s1, s2, s3, s4, s5, s6, s7, .val (.ls fo), .val (.dat (.int (cnt w l))), .no, s11, s12, s13, s14] =
      .nx [s0, s1, s2, s3, s4, s5, s6, s7, .val (.ls (fo ++ ((cs.map T1).filter fun a => !(cnt u a == 0)).map fun a => rowD (a, cnt u a))), .val (.dat (.int (cnt w l))), .no, m, n, p, q]
  | [], fo, s11, s12, s13, s14, _, h3, h4, h11, h12 => ⟨s11, s12, s13, s14, by rcases h11 with rfl | rfl <;> exact .val, by rcases h12 with rfl | rfl <;> exact .val, h3, h4, by simp⟩
  | c :: cs, fo, s11, s12, s13, s14, hz, h3, h4, h11, h12 => by
    rw [List.length_cons] at hz
    have z5 : small (fo.length + 1) = true := small_of (by omega)
    have e0 : (⟨#[c]⟩ : Str) = T1 c := rfl
    have na := nar_of hu
    have em : ∀ g : Str → PyData, ((List.map T1 (c :: cs)).filter fun a => !(cnt u a == 0)).map g = (if cnt u (T1 c) = 0 then [] else [g (T1 c)]) ++ (((List.map T1 cs).filter fun a => !(cnt u a == 0)).map g) := fun g => by
      rw [List.map_cons, List.filter_cons]
      by_cases z : cnt u (T1 c) = 0 <;> simp [z]
    have l1 := fun (s12 s14 : Sl) => sum_lc R (T1 c) 13 [s0, s1, s2, s3, s4, s5, s6, s7, .val (.ls fo), .val (.dat (.int (cnt w l))), .no, .val (.dat (.list (R.map rowD))), s12, .val (.dat (.str (T1 c))), s14] (fun x hx => ⟨by simp, by simp [rowD, beqd], by simp [rowD], by simp [wipeR]⟩)
    have l2 := fun (s14 : Sl) => sum_lc O' (T1 c) 13 [s0, s1, s2, s3, s4, s5, s6, s7, .val (.ls fo), .val (.dat (.int (cnt w l))), .no, .val (.dat (.list (R.map rowD))), .val (.dat (.list (O'.map rowD))), .val (.dat (.str (T1 c))), s14] (fun x hx => ⟨by simp, by simp [rowD, beqd], by simp [rowD], by simp [wipeR]⟩)
    have q1 := sumO_cnt R (T1 c)
    have q2 := sumO_cnt O' (T1 c)
    rw [hR] at q1
    rw [hO] at q2
    have hx := hx0 (T1 c)
    generalize hp : ((R.filter fun x => decide (x.1 = T1 c)).map (·.2)).map PyData.int = P1 at l1 q1
    generalize hp2 : ((O'.filter fun x => decide (x.1 = T1 c)).map (·.2)).map PyData.int = P2 at l2 q2
    generalize (if (T1 c) = l then 0 else cnt w (T1 c)) = A at q1 hx
    have z6 : small (R.map rowD).length = true := small_of (by rw [List.length_map]; omega)
    have z7 : small (O'.map rowD).length = true := small_of (by rw [List.length_map]; omega)
    generalize hR1 : R.map rowD = R1 at l1 l2 h11 z6
    generalize hO1 : O'.map rowD = O1 at l1 l2 h12 z7
    by_cases z : cnt u (T1 c) = 0
    · obtain ⟨m, n, p, q, fm, fn, fp, fq, ih⟩ := due_loop hu R lR hR O' lO hO hx0 s0 s1 s2 s3 s4 s5 s6 s7 cs fo (.val (.dat (.list R1))) (.val (.dat (.list O1))) (.val (.dat (.str (T1 c)))) (.val (.dat (.int 0))) (by omega) .val .val (.inr (by rw [hR1])) (.inr (by rw [hO1]))
      refine ⟨m, n, p, q, fm, fn, fp, fq, ?_⟩
      rw [em, if_pos z, List.nil_append, List.map_cons, x_loop_cons, e0]
      have z' : A + cnt w l * cnt v (T1 c) = 0 := by omega
      have b : L2_small_k03 [s0, s1, s2, s3, s4, s5, s6, s7, .val (.ls fo), .val (.dat (.int (cnt w l))), .no, s11, s12, .val (.dat (.str (T1 c))), s14] = .nx [s0, s1, s2, s3, s4, s5, s6, s7, .val (.ls fo), .val (.dat (.int (cnt w l))), .no, .val (.dat (.list R1)), .val (.dat (.list O1)), .val (.dat (.str (T1 c))), .val (.dat (.int 0))] := by
        rcases h11 with rfl | rfl <;> rcases h12 with rfl | rfl <;> simp [L2_small_k03, l1, l2, q1, q2, na, z6, z7, z', x_fr h4]
      simp [x_fr h3, b, ih]
    · obtain ⟨m, n, p, q, fm, fn, fp, fq, ih⟩ := due_loop hu R lR hR O' lO hO hx0 s0 s1 s2 s3 s4 s5 s6 s7 cs (fo ++ [rowD (T1 c, cnt u (T1 c))]) (.val (.dat (.list R1))) (.val (.dat (.list O1))) (.val (.dat (.str (T1 c)))) (.val (.dat (.int (cnt u (T1 c))))) (by rw [List.length_append]; simp; omega) .val .val (.inr (by rw [hR1])) (.inr (by rw [hO1]))
      refine ⟨m, n, p, q, fm, fn, fp, fq, ?_⟩
      rw [em, if_neg z, ← List.append_assoc, List.map_cons, x_loop_cons, e0]
      have z' : ¬ A + cnt w l * cnt v (T1 c) = 0 := by omega
      have b : L2_small_k03 [s0, s1, s2, s3, s4, s5, s6, s7, .val (.ls fo), .val (.dat (.int (cnt w l))), .no, s11, s12, .val (.dat (.str (T1 c))), s14] = .nx [s0, s1, s2, s3, s4, s5, s6, s7, .val (.ls (fo ++ [rowD (T1 c, cnt u (T1 c))])), .val (.dat (.int (cnt w l))), .no, .val (.dat (.list R1)), .val (.dat (.list O1)), .val (.dat (.str (T1 c))), .val (.dat (.int (cnt u (T1 c))))] := by
        rw [hx]
        rcases h11 with rfl | rfl <;> rcases h12 with rfl | rfl <;> simp [L2_small_k03, l1, l2, q1, q2, na, z6, z7, z', z5, x_fr h4, rowD]
      simp [x_fr h3, b, ih]
end Fn

namespace Fn
open PySem PySem.Spec PyProof.Rows L2 Ww Vs
theorem alike_k (k : Kd) (h : k.deep ≤ 29) : F_alike 30 [.dat k.dat, .dat k.dat] = .ok (.dat (.bool true)) [.no, .no] := alike_ok 30 k.dat (Gd.kd.mono (by omega))
theorem alike_rows (w : Wds) (h : w.length ≤ 1000) : F_alike 30 [.dat (.list (w.map rowD)), .dat (.list (w.map rowD))] = .ok (.dat (.bool true)) [.no, .no] := alike_ok 30 _ ((gd_rows w h).mono (by omega))
theorem red_sb (w : Wds) : ∀ y ∈ red w, y ∈ w := fun y m => by
  have : ∀ (w st : Wds), ∀ y ∈ redS st w, y ∈ st ∨ y ∈ w := by
    intro w
    induction w with
    | nil => exact fun st y m => .inl m
    | cons x w ih =>
      intro st y m
      rcases ih (push st x) y m with z | z
      · rw [push_def] at z
        cases st with
        | nil => exact .inr (by rw [List.mem_singleton.mp z]; exact List.mem_cons_self)
        | cons u v =>
          have z : y ∈ (if u = neg x then v else x :: u :: v) := z
          split at z
          · exact .inl (List.mem_cons_of_mem _ z)
          · rcases List.mem_cons.mp z with z | z
            · exact .inr (by rw [z]; exact List.mem_cons_self)
            · exact .inl z
      · exact .inr (List.mem_cons_of_mem _ z)
  rcases this w [] y (List.mem_reverse.mp m) with z | z
  · cases z
  · exact z
theorem small_loop {k o : Kd} (hk : k.ok) (kd : k.deep ≤ 5) (kl : k.letters.length ≤ 7) (ho : o.ok) (od : o.deep ≤ 5) (ol : o.letters.length ≤ 7) (s0 s1 : Sl) : ∀ (bs : List Bool) (s4 s5 : Sl), Fr s4 → Fr s5 →
    ∃ u v, Fr u ∧ Fr v ∧ loopF (nmT 4) L1_small_k03 (bs.map .bool) [s0, s1, .val (.dat k.dat), .val (.dat o.dat), s4, s5, .no, .no, .no, .no, .no, .no, .no, .no, .no] = .nx [s0, s1, .val (.dat k.dat), .val (.dat o.dat), u, v, .no, .no, .no, .no, .no, .no, .no, .no, .no]
  | [], s4, s5, h4, h5 => ⟨s4, s5, h4, h5, rfl⟩
  | b :: bs, s4, s5, h4, h5 => by
    obtain ⟨lo, ld, ll⟩ := lift_ok (b := b) hk ho
    have e1 := lifted_ok (b := b) ⟨hk, by omega⟩ (show Kb o from ⟨ho, by omega⟩)
    obtain ⟨c, e2⟩ := within_ok (lift k o b) lo (by omega)
    have r := rw_1 lo (by omega) (by omega)
    have sk := sgn_sg k 1 hk (.inl rfl)
    have sl := sgn_sg (lift k o b) 1 lo (.inl rfl)
    have kw : (k.sgn 1).length ≤ 60 := by rw [Kd.sgn_len]; omega
    have e3 : F_word [.dat (.list [(lift k o b).dat])] = .ok (.ls ((red (k.sgn 1)).map rowD)) [.no] := by
      have := word_ok r
      rw [rowSgn_1, lift_red k o b hk ho] at this
      exact this
    have e4 : F_balance [.dat (.list [(lift k o b).dat])] = .ok (.ls ((bal (k.sgn 1)).map rowD)) [.no] := by
      have := balance_ok r
      rw [rowSgn_1, bal_cnt sl sk (lift_cnt k o b hk ho)] at this
      exact this
    have e5 := line_ok 30 k hk (by omega) (by omega)
    have e6 := rest_ok sk kw
    have rl := red_len (k.sgn 1)
    have bl := bal_len (k.sgn 1)
    have e7 := pairs_ok (w := red (k.sgn 1)) (fun x m => sk x (red_sb _ x m)) (by omega)
    have e8 := sums_ok hk (by omega) (by omega)
    have a1 := alike_rows (red (k.sgn 1)) (by omega)
    have a2 := alike_rows (bal (k.sgn 1)) (by omega)
    obtain ⟨u, v, fu, fv, ih⟩ := small_loop hk kd kl ho od ol s0 s1 bs (.val (.dat (.bool b))) (.val (.dat (lift k o b).dat)) .val .val
    refine ⟨u, v, fu, fv, ?_⟩
    rw [List.map_cons, x_loop_cons]
    generalize lift k o b = L at e1 e2 e3 e4 ih
    generalize (red (k.sgn 1)).map rowD = RR at e3 e7 a1
    generalize (bal (k.sgn 1)).map rowD = BB at e4 e8 a2
    have bd : L1_small_k03 [s0, s1, .val (.dat k.dat), .val (.dat o.dat), .val (.dat (.bool b)), s5, .no, .no, .no, .no, .no, .no, .no, .no, .no] = .nx [s0, s1, .val (.dat k.dat), .val (.dat o.dat), .val (.dat (.bool b)), .val (.dat L.dat), .no, .no, .no, .no, .no, .no, .no, .no, .no] := by
      cases c <;> simp [L1_small_k03, e1, e2, e3, e4, e5, e6, e7, e8, a1, a2, x_fr h5]
    simp [x_fr h4, bd, ih]
theorem rest_lc (L : Wds) (a : Str) (s0 s1 s2 s3 s4 s5 s8 s9 s11 s12 s13 s14 : Sl) : lcL (nmT 10) (tstF (op2 neO (tmpF (ixS 10 (cF (.int 0)))) (slotF 6))) (varF 10) [10] (L.map rowD) [s0, s1, s2, s3, s4, s5, .val (.dat (.str a)), .val (.dat (.list (L.map rowD))), s8, s9, .no, s11, s12, s13, s14] = .ok ((L.filter fun x => !(x.1 == a)).map rowD) [s0, s1, s2, s3, s4, s5, .val (.dat (.str a)), .val (.dat (.list (L.map rowD))), s8, s9, .no, s11, s12, s13, s14] := by
  generalize hd : L.map rowD = D
  rw [← hd, lcL_filterT rowD (fun x => !(x.1 == a)) rowD]
  intro x hx
  refine ⟨[s0, s1, s2, s3, s4, s5, .val (.dat (.str a)), .val (.dat (.list (L.map rowD))), s8, s9, .val (.dat (rowD x)), s11, s12, s13, s14], [s0, s1, s2, s3, s4, s5, .val (.dat (.str a)), .val (.dat (.list (L.map rowD))), s8, s9, .val (.dat (rowD x)), s11, s12, s13, s14], by simp, by simp [rowD], fun _ => by simp [wipeR], fun _ => ⟨_, .dat (rowD x), by simp; rfl, rfl, by simp [wipeR]⟩⟩
theorem small_ok (n : Nat) (ds : List PyData) (t : Str) (hs : Src n ds) (hn : n ≤ 800000) (ht : Pool t) : ∃ es, Src (n + 50) es ∧ F_small_k03 [.ls ds, .dat (.str t)] = .ok (.dat (.bool true)) [.bor (.ls es), .no] := by
  have ht' := ht
  obtain ⟨ta, t1, t14⟩ := ht'
  obtain ⟨r1, es1, u1, v1, s1, e1⟩ := pick_ok _ ds 3 hs (by omega) (by decide) (by decide)
  obtain ⟨k, es2, ko, kd, kl, s2, e2⟩ := grown_ok 30 _ es1 (1 + r1) 3 _ t s1 (by omega) fms3 ht (by omega) (by omega) (by decide) (by decide)
  obtain ⟨r3, es3, u3, v3, s3, e3⟩ := pick_ok _ es2 2 s2 (by omega) (by decide) (by decide)
  obtain ⟨o, es4, oo, od, ol, s4, e4⟩ := grown_ok 30 _ es3 (1 + r3) 2 _ t s3 (by omega) fms3 ht (by omega) (by omega) (by decide) (by decide)
  obtain ⟨x4, x5, f4, f5, e5⟩ := small_loop ko (by omega) (by omega) oo (by omega) (by omega) (.bor (.ls es4)) (.val (.dat (.str t))) [true, false] .no .no .no .no
  obtain ⟨r6, es6, u6, v6, s6, e6⟩ := pick_ok _ es4 t.length s4 (by omega) (by omega) (by omega)
  obtain ⟨x, hx, lx⟩ := ta.at u6 v6
  have sm : small t.length = true := small_of (by omega)
  have ec : atI t.cps.toList r6 = some x := by
    unfold atI
    rw [ixN_of u6 (by rw [← len_cps]; exact v6)]
    simpa using hx
  obtain ⟨so, sd, sl⟩ := sw_ok ⟨#[x]⟩ oo ko
  have sl2 : (sw ⟨#[x]⟩ o k).letters.length ≤ 60 := by
    have : k.letters.length * o.letters.length ≤ 3 * 2 := Nat.mul_le_mul (by omega) (by omega)
    omega
  have e7 := swapped_ok (k := k) (o := o) ⟨ko, by omega⟩ ⟨oo, by omega⟩ lx
  obtain ⟨c, e8⟩ := within_ok (sw ⟨#[x]⟩ o k) so (by omega)
  refine ⟨es6, s6.le (by omega), ?_⟩
  have a1 := alike_k (sw ⟨#[x]⟩ o k) (by omega)
  have p1 := put1_ok ⟨#[x]⟩ o 30 k ko (by omega)
  simp at e2 e4 e5
  cases c with
  | false =>
    simp [F_small_k03, x_def, x_entry, x_leave, B_small_k03, e1, e2, e3, e4, e5, e6, ec, sm, e7, e8, a1, p1, merge1, x_fr f5]
  | true =>
    have sk := sgn_sg k 1 ko (.inl rfl)
    have so1 := sgn_sg o 1 oo (.inl rfl)
    have ss := sgn_sg (sw ⟨#[x]⟩ o k) 1 so (.inl rfl)
    have b1 : F_balance [.dat (.list [k.dat])] = .ok (.ls ((bal (k.sgn 1)).map rowD)) [.no] := by
      have := balance_ok (rw_1 ko (by omega) (by omega))
      rw [rowSgn_1] at this
      exact this
    have b2 : F_balance [.dat (.list [o.dat])] = .ok (.ls ((bal (o.sgn 1)).map rowD)) [.no] := by
      have := balance_ok (rw_1 oo (by omega) (by omega))
      rw [rowSgn_1] at this
      exact this
    have b3 : F_balance [.dat (.list [(sw ⟨#[x]⟩ o k).dat])] = .ok (.ls ((bal ((sw ⟨#[x]⟩ o k).sgn 1)).map rowD)) [.no] := by
      have := balance_ok (rw_1 so (by omega) sl2)
      rw [rowSgn_1] at this
      exact this
    have cx := sw_cnt ⟨#[x]⟩ oo (k := k)
    have e9 := sums_ok ko (by omega) (by omega)
    have ck := cnt_abs (k.sgn 1) ⟨#[x]⟩ sk
    rw [Kd.sgn_len] at ck
    obtain ⟨m, n', p, q, _, _, _, _, e10⟩ := due_loop (w := k.sgn 1) (v := o.sgn 1) (u := (sw ⟨#[x]⟩ o k).sgn 1) (l := ⟨#[x]⟩) (by omega) ((bal (k.sgn 1)).filter fun y => !(y.1 == ⟨#[x]⟩)) (by
      have h1 := List.length_filter_le (fun y : Str × Int => !(y.1 == ⟨#[x]⟩)) (bal (k.sgn 1))
      have h2 := bal_len (k.sgn 1)
      rw [Kd.sgn_len] at h2
      omega) (fun s => by rw [cnt_not, cnt_bal]) (bal (o.sgn 1)) (by
      have h2 := bal_len (o.sgn 1)
      rw [Kd.sgn_len] at h2
      omega) (fun s => cnt_bal _ s) (fun s => cx s ko)
      (.bor (.ls es6)) (.val (.dat (.str t))) (.val (.dat k.dat)) (.val (.dat o.dat)) x4 (.val (.dat (sw ⟨#[x]⟩ o k).dat)) (.val (.dat (.str ⟨#[x]⟩))) (.val (.dat (.list ((bal (k.sgn 1)).map rowD)))) (Str.ofString "abcdefghijklmnopqrstuvwxyz").cps.toList [] _ _ .no .no (by rw [← len_cps, abc_len]; decide) .no .no (.inl rfl) (.inl rfl)
    have e11 : (List.map (fun a => rowD (a, cnt ((sw ⟨#[x]⟩ o k).sgn 1) a)) (abcs.filter fun a => !(cnt ((sw ⟨#[x]⟩ o k).sgn 1) a == 0))) = (bal ((sw ⟨#[x]⟩ o k).sgn 1)).map rowD := by
      rw [bal_eq ss, List.map_map]
      rfl
    rw [List.nil_append] at e10
    change _ = Out.nx [_, _, _, _, _, _, _, _, .val (.ls (List.map _ (abcs.filter _))), _, _, _, _, _, _] at e10
    rw [e11] at e10
    have l1 := sum_lc (bal (k.sgn 1)) ⟨#[x]⟩ 6 [.bor (.ls es6), .val (.dat (.str t)), .val (.dat k.dat), .val (.dat o.dat), x4, .val (.dat (sw ⟨#[x]⟩ o k).dat), .val (.dat (.str ⟨#[x]⟩)), .val (.dat (.list ((bal (k.sgn 1)).map rowD))), .val (.ls []), .no, .no, .no, .no, .no, .no] (fun y hy => ⟨by simp, by simp [rowD, beqd], by simp [rowD], by simp [wipeR]⟩)
    have l2 := sumO_cnt (bal (k.sgn 1)) ⟨#[x]⟩
    rw [cnt_bal] at l2
    have l3 := rest_lc (bal (k.sgn 1)) ⟨#[x]⟩ (.bor (.ls es6)) (.val (.dat (.str t))) (.val (.dat k.dat)) (.val (.dat o.dat)) x4 (.val (.dat (sw ⟨#[x]⟩ o k).dat)) (.val (.ls [])) (.val (.dat (.int (cnt (k.sgn 1) ⟨#[x]⟩)))) .no .no .no .no
    have bl1 := bal_len (k.sgn 1)
    have bl2 := bal_len ((sw ⟨#[x]⟩ o k).sgn 1)
    rw [Kd.sgn_len] at bl1 bl2
    have a2 := alike_rows (bal (k.sgn 1)) (by omega)
    have a3 := alike_rows (bal ((sw ⟨#[x]⟩ o k).sgn 1)) (by omega)
    have z1 : small ((bal (k.sgn 1)).map rowD).length = true := small_of (by rw [List.length_map]; omega)
    clear e11 cx
    generalize sw ⟨#[x]⟩ o k = W at *
    generalize ((bal (k.sgn 1)).filter fun y => !(y.1 == ⟨#[x]⟩)).map rowD = R1 at *
    generalize (((bal (k.sgn 1)).filter fun y => decide (y.1 = ⟨#[x]⟩)).map (·.2)).map PyData.int = P1 at *
    generalize (bal (k.sgn 1)).map rowD = BK at *
    generalize (bal (o.sgn 1)).map rowD = BO at *
    generalize (bal (W.sgn 1)).map rowD = BW at *
    generalize cnt (k.sgn 1) ⟨#[x]⟩ = CK at *
    simp [F_small_k03, x_def, x_entry, x_leave, B_small_k03, e1, e2, e3, e4, e5, e6, ec, sm, e7, e8, e9, a1, a2, a3, p1, merge1, x_fr f5, b1, b2, b3, l1, l2, l3, wipeR, e10, z1]
end Fn

namespace Fn
open PySem PySem.Spec PyProof.Rows L2 Ww Vs
theorem pairs_loop {k o : Kd} (hk : k.ok) (kd : k.deep ≤ 10) (ho : o.ok) (od : o.deep ≤ 10) (s0 s1 s2 s3 s4 s5 s6 s9 s10 s11 s12 : Sl) : ∀ (bs : List Bool) (s13 s14 : Sl), Fr s13 → Fr s14 →
    ∃ u v, Fr u ∧ Fr v ∧ loopF (nmT 13) L1_law_k03 (bs.map .bool) [s0, s1, s2, s3, s4, s5, s6, .val (.dat k.dat), .val (.dat o.dat), s9, s10, s11, s12, s13, s14] = .nx [s0, s1, s2, s3, s4, s5, s6, .val (.dat k.dat), .val (.dat o.dat), s9, s10, s11, s12, u, v]
  | [], s13, s14, h3, h4 => ⟨s13, s14, h3, h4, rfl⟩
  | b :: bs, s13, s14, h3, h4 => by
    have bk : Kb k := ⟨hk, by omega⟩
    have bo : Kb o := ⟨ho, by omega⟩
    obtain ⟨lo, ld, ll⟩ := lift_ok (b := b) hk ho
    obtain ⟨lo2, ld2, ll2⟩ := lift_ok (b := !b) hk ho
    obtain ⟨lo3, ld3, ll3⟩ := lift_ok (b := b) (Kd.turn_ok hk) (Kd.turn_ok ho)
    rw [Kd.turn_deep, Kd.turn_deep] at ld3
    have e1 := lifted_ok (b := b) bk bo
    have e2 := liftF_ok (k := k) (o := o) (b := b)
    have e3 := liftF_ok (k := k) (o := o) (b := !b)
    have e4 := turned_ok bk
    have e5 := turned_ok bo
    have e6 := lifted_ok (b := b) bk.turn bo.turn
    have e7 := mirror_ok 30 (lift k o (!b)) lo2 (by omega)
    rw [lift_turn] at e7
    have a1 := alike_k (lift k o b) (by omega)
    have a2 := alike_k (lift k.turn o.turn b) (by omega)
    obtain ⟨u, v, fu, fv, ih⟩ := pairs_loop hk kd ho od s0 s1 s2 s3 s4 s5 s6 s9 s10 s11 s12 bs (.val (.dat (.bool b))) (.val (.dat (lift k.turn o.turn b).dat)) .val .val
    refine ⟨u, v, fu, fv, ?_⟩
    rw [List.map_cons, x_loop_cons]
    generalize lift k.turn o.turn b = L1 at *
    generalize lift k o b = L2 at *
    generalize lift k o (!b) = L3 at *
    have bd : L1_law_k03 [s0, s1, s2, s3, s4, s5, s6, .val (.dat k.dat), .val (.dat o.dat), s9, s10, s11, s12, .val (.dat (.bool b)), s14] = .nx [s0, s1, s2, s3, s4, s5, s6, .val (.dat k.dat), .val (.dat o.dat), s9, s10, s11, s12, .val (.dat (.bool b)), .val (.dat L1.dat)] := by
      simp [L1_law_k03, e1, e2, e3, e4, e5, e6, e7, a1, a2, x_fr h4]
    simp [x_fr h3, bd, ih]
/-- three kinds that are drawn -/
def Gen3 (n : Nat) (s0 s2 s3 s4 s5 : Sl) (rs : List Sl) (i : Nat) (acc : List PyData) (ρ : En) : Prop := ∃ (es : List PyData) (ks : List Kd), Src (n + 40 * i) es ∧ acc = ks.map Kd.dat ∧ ks.length = i ∧ (∀ k ∈ ks, k.ok ∧ k.deep ≤ 5 ∧ k.letters.length ≤ 7) ∧ ρ = s0 :: .val (.ls es) :: s2 :: s3 :: s4 :: s5 :: .no :: rs
theorem three_lc (n : Nat) (ds : List PyData) (hs : Src n ds) (hn : n ≤ 800000) (t : Str) (ht : Pool t) (fs : List Str) (hf : Forms fs) (s0 s2 s5 : Sl) (rs : List Sl) : ∃ (es : List PyData) (k1 k2 k3 : Kd), Src (n + 120) es ∧ (∀ k ∈ [k1, k2, k3], k.ok ∧ k.deep ≤ 5 ∧ k.letters.length ≤ 7) ∧
    lcL (nmT 6) yesT (callF (F_grown 30) (lendC 1 (consC (aD (op2 addO (tmpF (cF (.int 1))) (tmpF (callF F_pick (lendC 1 (consC (aD (cF (.int 7))) (nilC))))))) (consC (aD (cF (.int 5))) (consC (aD (varF 4)) (consC (aD (varF 3)) (nilC))))))) [6] ((List.range 3).map fun i : Nat => .int (i : Int))
      (s0 :: .val (.ls ds) :: s2 :: .val (.dat (.str t)) :: .val (.dat (.list (fs.map .str))) :: s5 :: .no :: rs) = .ok [k1.dat, k2.dat, k3.dat] (s0 :: .val (.ls es) :: s2 :: .val (.dat (.str t)) :: .val (.dat (.list (fs.map .str))) :: s5 :: .no :: rs) := by
  obtain ⟨xs, ρ', h1, es, ks, s, h2, hl, hk, rfl⟩ := lcL_inv (t := nmT 6) (e := callF (F_grown 30) (lendC 1 (consC (aD (op2 addO (tmpF (cF (.int 1))) (tmpF (callF F_pick (lendC 1 (consC (aD (cF (.int 7))) (nilC))))))) (consC (aD (cF (.int 5))) (consC (aD (varF 4)) (consC (aD (varF 3)) (nilC))))))) (own := [6])
    (Gen3 n s0 s2 (.val (.dat (.str t))) (.val (.dat (.list (fs.map .str)))) s5 rs) (ds := (List.range 3).map fun i : Nat => .int (i : Int)) (k := 0) (acc := []) (ρ := s0 :: .val (.ls ds) :: s2 :: .val (.dat (.str t)) :: .val (.dat (.list (fs.map .str))) :: s5 :: .no :: rs) ⟨ds, [], hs, rfl, rfl, (fun _ z => nomatch z), rfl⟩ (by
    rintro i d acc ρ hd hi ⟨es, ks, s, rfl, hl, hk, rfl⟩
    rw [List.length_map, List.length_range] at hi
    obtain ⟨j, _, rfl⟩ := List.mem_map.mp hd
    obtain ⟨r, es1, u1, v1, s1, e1⟩ := pick_ok _ es 7 s (by omega) (by decide) (by decide)
    obtain ⟨k, es2, ko, kd, kl, s2', e2⟩ := grown_ok 30 _ es1 (1 + r) 5 fs t s1 (by omega) hf ht (by omega) (by omega) (by decide) (by decide)
    refine ⟨s0 :: .val (.ls es) :: s2 :: .val (.dat (.str t)) :: .val (.dat (.list (fs.map .str))) :: s5 :: .val (.dat (.int j)) :: rs, s0 :: .val (.ls es2) :: s2 :: .val (.dat (.str t)) :: .val (.dat (.list (fs.map .str))) :: s5 :: .val (.dat (.int j)) :: rs, .dat k.dat, k.dat, by simp, by simp [e1, e2], rfl, es2, ks ++ [k], s2'.le (by omega), by simp, by simp [hl], fun x m => ?_, by simp [wipeR]⟩
    rcases List.mem_append.mp m with z | z
    · exact hk x z
    · rw [List.mem_singleton.mp z]; exact ⟨ko, by omega, by omega⟩)
  rw [List.length_map, List.length_range] at s hl
  rw [List.nil_append] at h2
  match ks, hl, h2, hk with
  | [k1, k2, k3], _, h2, hk => exact ⟨es, k1, k2, k3, s.le (by omega), hk, by rw [h1, h2]; rfl⟩
def LawI (s0 : Sl) (i : Nat) (ρ : En) : Prop := ∃ (es : List PyData) (u2 u3 u4 u5 u7 u8 u9 u10 u11 u12 u13 u14 : Sl), Src (500 * i) es ∧ Fr u2 ∧ Fr u3 ∧ Fr u4 ∧ Fr u5 ∧ Fr u7 ∧ Fr u8 ∧ Fr u9 ∧ Fr u10 ∧ Fr u11 ∧ Fr u12 ∧ Fr u13 ∧ Fr u14 ∧ ρ = [s0, .val (.ls es), u2, u3, u4, u5, .no, u7, u8, u9, u10, u11, u12, u13, u14]
theorem law_step (s0 : Sl) : ∀ i ρ, i < 8 → LawI s0 i ρ → ∃ ρ1 ρ2, (nmT 2).f (.int (i : Int)) ρ = some ρ1 ∧ (L2_law_k03 ρ1 = .nx ρ2 ∨ L2_law_k03 ρ1 = .ct ρ2) ∧ LawI s0 (i + 1) ρ2 := by
  rintro i ρ hi ⟨es, u2, u3, u4, u5, u7, u8, u9, u10, u11, u12, u13, u14, s, f2, f3, f4, f5, f7, f8, f9, f10, f11, f12, f13, f14, rfl⟩
  obtain ⟨t, es1, ta, tb, tc, s1, e1⟩ := pool_ok _ es s (by omega)
  have ht : Pool t := ⟨ta, tb, by omega⟩
  obtain ⟨p, es2, p0, p1, s2, e2⟩ := pick_ok _ es1 2 s1 (by omega) (by decide) (by decide)
  obtain ⟨fs, hf, ef⟩ : ∃ fs : List Str, Forms fs ∧ atI [PyData.list [.str (Str.ofString "behind"), .str (Str.ofString "ahead"), .str (Str.ofString "with")], .list [.str (Str.ofString "behind"), .str (Str.ofString "ahead")]] p = some (.list (fs.map .str)) := by
    by_cases c : p = 0
    · subst c
      exact ⟨_, fms3, rfl⟩
    · have : p = 1 := by omega
      subst this
      exact ⟨_, fms2, rfl⟩
  obtain ⟨es3, k1, k2, k3, s3, hk, e3⟩ := three_lc _ es2 s2 (by omega) t ht fs hf s0 (.val (.dat (.int i))) u5 [u7, u8, u9, u10, u11, u12, u13, u14]
  obtain ⟨q, es4, q0, q1, s4, e4⟩ := pick_ok _ es3 2 s3 (by omega) (by decide) (by decide)
  obtain ⟨sp, sa, sb, sc, e5⟩ : ∃ sp : Str, AllLet sp ∧ 1 ≤ sp.length ∧ sp.length ≤ 26 ∧ atI [PyData.str t, .str (Str.ofString "abcdefghijklmnopqrstuvwxyz")] q = some (.str sp) := by
    by_cases c : q = 0
    · subst c
      exact ⟨t, ta, tb, by omega, rfl⟩
    · have : q = 1 := by omega
      subst this
      exact ⟨_, abc_all, by rw [abc_len]; decide, by rw [abc_len]; decide, rfl⟩
  obtain ⟨r, es5, r0, r1, s5, e6⟩ := pick_ok _ es4 sp.length s4 (by omega) (by omega) (by omega)
  obtain ⟨x, hx, lx⟩ := sa.at r0 r1
  have sm : small sp.length = true := small_of (by omega)
  have ec : atI sp.cps.toList r = some x := by
    unfold atI
    rw [ixN_of r0 (by rw [← len_cps]; exact r1)]
    simpa using hx
  obtain ⟨o1, d1, l1⟩ := hk k1 (by simp)
  obtain ⟨o2, d2, l2⟩ := hk k2 (by simp)
  obtain ⟨o3, d3, l3⟩ := hk k3 (by simp)
  have b1 : Kb k1 := ⟨o1, by omega⟩
  have b2 : Kb k2 := ⟨o2, by omega⟩
  have b3 : Kb k3 := ⟨o3, by omega⟩
  obtain ⟨so, sd, sl⟩ := sw_ok ⟨#[x]⟩ o2 o1
  obtain ⟨so3, sd3, sl3⟩ := sw_ok ⟨#[x]⟩ o3 o1
  have w1 := swapped_ok b1 b2 lx
  have w2 := swapped_ok b1 b3 lx
  have w3 := swapped_pl_ok b1 lx
  have w4 := swapped_ok b1.turn b2.turn lx
  rw [sw_turn] at w4
  have t1 := turned_ok b1
  have t2 := turned_ok b2
  have g1 := put1_ok ⟨#[x]⟩ k2 30 k1 o1 (by omega)
  have g2 := put1_ok ⟨#[x]⟩ k3 30 k1 o1 (by omega)
  have m1 := mirror_ok 30 (sw ⟨#[x]⟩ k2 k1) so (by omega)
  have a1 := alike_k (sw ⟨#[x]⟩ k2 k1) (by omega)
  have a2 := alike_k (sw ⟨#[x]⟩ k3 k1) (by omega)
  have a3 := alike_k k1 (by omega)
  have a4 := alike_k (sw ⟨#[x]⟩ k2 k1).turn (by rw [Kd.turn_deep]; omega)
  obtain ⟨v13, v14, g13, g14, e7⟩ := pairs_loop o1 (by omega) o2 (by omega) s0 (.val (.ls es5)) (.val (.dat (.int i))) (.val (.dat (.str t))) (.val (.dat (.list (fs.map .str)))) (.val (.dat (.list [k1.dat, k2.dat, k3.dat]))) .no (.val (.dat k3.dat)) (.val (.dat (.str sp))) (.val (.dat (.str ⟨#[x]⟩))) (.val (.dat (sw ⟨#[x]⟩ k2 k1).dat)) [true, false] u13 u14 f13 f14
  obtain ⟨es6, s6, e8⟩ := small_ok _ es5 t s5 (by omega) ht
  have rr : rngB 3 = true := by decide
  have er : (3 : Int).toNat = 3 := rfl
  refine ⟨[s0, .val (.ls es), .val (.dat (.int i)), u3, u4, u5, .no, u7, u8, u9, u10, u11, u12, u13, u14], [s0, .val (.ls es6), .val (.dat (.int i)), .val (.dat (.str t)), .val (.dat (.list (fs.map .str))), .val (.dat (.list [k1.dat, k2.dat, k3.dat])), .no, .val (.dat k1.dat), .val (.dat k2.dat), .val (.dat k3.dat), .val (.dat (.str sp)), .val (.dat (.str ⟨#[x]⟩)), .val (.dat (sw ⟨#[x]⟩ k2 k1).dat), v13, v14], by simp [x_fr f2], .inl ?_, es6, _, _, _, _, _, _, _, _, _, _, _, _, s6.le (by omega), .val, .val, .val, .val, .val, .val, .val, .val, .val, .val, g13, g14, rfl⟩
  generalize sw ⟨#[x]⟩ k2 k1 = W1 at *
  generalize sw ⟨#[x]⟩ k3 k1 = W2 at *
  simp at e7
  simp [L2_law_k03, e1, e2, ef, rr, er, e3, e4, e5, e6, sm, ec, w1, w2, w3, w4, t1, t2, g1, g2, m1, a1, a2, a3, a4, e7, e8, merge1, wipeR, x_fr f3, x_fr f4, x_fr f5, x_fr f7, x_fr f8, x_fr f9, x_fr f10, x_fr f11, x_fr f12]
end Fn
namespace Lk03
open PySem PySem.Spec PyProof.Rows L2 Ww Vs Fn
theorem law_ok : LawOk F_law_k03 := by
  intro ns hn
  obtain ⟨es0, s0, e0⟩ := begun_ok ns hn
  obtain ⟨ρ', h, es, u2, u3, u4, u5, u7, u8, u9, u10, u11, u12, u13, u14, s, f2, f3, f4, f5, f7, f8, f9, f10, f11, f12, f13, f14, rfl⟩ := loop_rng0 (t := nmT 2) (body := L2_law_k03) (n := 8) (LawI (.val (.dat (.list (ns.map .int))))) (ρ := [.val (.dat (.list (ns.map .int))), .val (.ls es0), .no, .no, .no, .no, .no, .no, .no, .no, .no, .no, .no, .no, .no]) ⟨es0, .no, .no, .no, .no, .no, .no, .no, .no, .no, .no, .no, .no, s0.le (by omega), .no, .no, .no, .no, .no, .no, .no, .no, .no, .no, .no, .no, rfl⟩ (law_step _)
  have rr : rngB 8 = true := by decide
  have er : (8 : Int).toNat = 8 := rfl
  exact ⟨_, by simp [F_law_k03, x_def, x_entry, x_leave, B_law_k03, e0, rr, er, h]; rfl⟩
end Lk03

namespace Nk03
open PySem PySem.Spec PyProof.Rows L2 Ww Vs Fn
def top (i : Nat) : Stmt := PySem.Challenge.pw_waitwords_k03_whole_swapped_and_lifted.main.body.getD i (.Pass ⟨0, 0, 0, 0⟩)
abbrev s_alike : Stmt := top 30
abbrev N_alike : List Str := ["_law_found", "_law_due", "_law_one", "_law_other"]
abbrev P_alike : List Str := ["_law_found", "_law_due"]
theorem sc_alike : FnScope N_alike P_alike (defScope s_alike) := ⟨rfl, rfl, rfl, by decide +kernel, rfl, by decide +kernel, by decide +kernel⟩

abbrev s_begun : Stmt := top 28
abbrev N_begun : List Str := ["_law_script", "_law_great", "_law_number", "_law_k"]
abbrev P_begun : List Str := ["_law_script"]
theorem sc_begun : FnScope N_begun P_begun (defScope s_begun) := ⟨rfl, rfl, rfl, by decide +kernel, rfl, by decide +kernel, by decide +kernel⟩

abbrev s_pick : Stmt := top 29
abbrev N_pick : List Str := ["_law_source", "_law_many", "_law_found", "_law_stirred"]
abbrev P_pick : List Str := ["_law_source", "_law_many"]
theorem sc_pick : FnScope N_pick P_pick (defScope s_pick) := ⟨rfl, rfl, rfl, by decide +kernel, rfl, by decide +kernel, by decide +kernel⟩

abbrev s_grown : Stmt := top 32
abbrev N_grown : List Str := ["_law_source", "_law_most", "_law_deep", "_law_forms", "_law_signs", "_law_form", "_law_first", "_law_one"]
abbrev P_grown : List Str := ["_law_source", "_law_most", "_law_deep", "_law_forms", "_law_signs"]
theorem sc_grown : FnScope N_grown P_grown (defScope s_grown) := ⟨rfl, rfl, rfl, by decide +kernel, rfl, by decide +kernel, by decide +kernel⟩

abbrev s_lift : Stmt := top 42
abbrev N_lift : List Str := ["_law_kind", "_law_other", "_law_behind"]
abbrev P_lift : List Str := ["_law_kind", "_law_other", "_law_behind"]
theorem sc_lift : FnScope N_lift P_lift (defScope s_lift) := ⟨rfl, rfl, rfl, by decide +kernel, rfl, by decide +kernel, by decide +kernel⟩

abbrev s_mirror : Stmt := top 34
abbrev N_mirror : List Str := ["_law_kind", "_law_form"]
abbrev P_mirror : List Str := ["_law_kind"]
theorem sc_mirror : FnScope N_mirror P_mirror (defScope s_mirror) := ⟨rfl, rfl, rfl, by decide +kernel, rfl, by decide +kernel, by decide +kernel⟩

abbrev s_pool : Stmt := top 31
abbrev N_pool : List Str := ["_law_source", "_law_signs", "_law_many", "_law_k"]
abbrev P_pool : List Str := ["_law_source"]
theorem sc_pool : FnScope N_pool P_pool (defScope s_pool) := ⟨rfl, rfl, rfl, by decide +kernel, rfl, by decide +kernel, by decide +kernel⟩

abbrev s_put : Stmt := top 35
abbrev N_put : List Str := ["_law_kind", "_law_table"]
abbrev P_put : List Str := ["_law_kind", "_law_table"]
theorem sc_put : FnScope N_put P_put (defScope s_put) := ⟨rfl, rfl, rfl, by decide +kernel, rfl, by decide +kernel, by decide +kernel⟩

abbrev s_flipped : Stmt := top 39
abbrev N_flipped : List Str := ["_law_sign"]
abbrev P_flipped : List Str := ["_law_sign"]
theorem sc_flipped : FnScope N_flipped P_flipped (defScope s_flipped) := ⟨rfl, rfl, rfl, by decide +kernel, rfl, by decide +kernel, by decide +kernel⟩

abbrev s_undone : Stmt := top 38
abbrev N_undone : List Str := ["_law_line_here", "_law_sign"]
abbrev P_undone : List Str := ["_law_line_here"]
theorem sc_undone : FnScope N_undone P_undone (defScope s_undone) := ⟨rfl, rfl, rfl, by decide +kernel, rfl, by decide +kernel, by decide +kernel⟩

abbrev s_line : Stmt := top 37
abbrev N_line : List Str := ["_law_kind", "_law_one", "_law_other"]
abbrev P_line : List Str := ["_law_kind"]
theorem sc_line : FnScope N_line P_line (defScope s_line) := ⟨rfl, rfl, rfl, by decide +kernel, rfl, by decide +kernel, by decide +kernel⟩

abbrev s_pairs : Stmt := top 41
abbrev N_pairs : List Str := ["_law_line_here", "_law_sign"]
abbrev P_pairs : List Str := ["_law_line_here"]
theorem sc_pairs : FnScope N_pairs P_pairs (defScope s_pairs) := ⟨rfl, rfl, rfl, by decide +kernel, rfl, by decide +kernel, by decide +kernel⟩

abbrev s_rest : Stmt := top 40
abbrev N_rest : List Str := ["_law_line_here", "_law_names", "_law_k", "_law_sign"]
abbrev P_rest : List Str := ["_law_line_here"]
theorem sc_rest : FnScope N_rest P_rest (defScope s_rest) := ⟨rfl, rfl, rfl, by decide +kernel, rfl, by decide +kernel, by decide +kernel⟩

abbrev s_sums : Stmt := top 43
abbrev N_sums : List Str := ["_law_kind", "_law_line_here", "_law_found", "_law_sign", "_law_many"]
abbrev P_sums : List Str := ["_law_kind"]
theorem sc_sums : FnScope N_sums P_sums (defScope s_sums) := ⟨rfl, rfl, rfl, by decide +kernel, rfl, by decide +kernel, by decide +kernel⟩

abbrev s_places : Stmt := top 33
abbrev N_places : List Str := ["_law_kind", "_law_found", "_law_left", "_law_part", "_law_deep"]
abbrev P_places : List Str := ["_law_kind"]
theorem sc_places : FnScope N_places P_places (defScope s_places) := ⟨rfl, rfl, rfl, by decide +kernel, rfl, by decide +kernel, by decide +kernel⟩

abbrev s_within : Stmt := top 36
abbrev N_within : List Str := ["_law_kind", "_law_rows", "_law_row"]
abbrev P_within : List Str := ["_law_kind"]
theorem sc_within : FnScope N_within P_within (defScope s_within) := ⟨rfl, rfl, rfl, by decide +kernel, rfl, by decide +kernel, by decide +kernel⟩

abbrev s_is_letter : Stmt := top 12
abbrev N_is_letter : List Str := ["text"]
abbrev P_is_letter : List Str := ["text"]
theorem sc_is_letter : FnScope N_is_letter P_is_letter (defScope s_is_letter) := ⟨rfl, rfl, rfl, by decide +kernel, rfl, by decide +kernel, by decide +kernel⟩

abbrev s_wrong_part : Stmt := top 13
abbrev N_wrong_part : List Str := ["kind", "wrong"]
abbrev P_wrong_part : List Str := ["kind"]
theorem sc_wrong_part : FnScope N_wrong_part P_wrong_part (defScope s_wrong_part) := ⟨rfl, rfl, rfl, by decide +kernel, rfl, by decide +kernel, by decide +kernel⟩

abbrev s_checked_kind : Stmt := top 14
abbrev N_checked_kind : List Str := ["kind", "wrong"]
abbrev P_checked_kind : List Str := ["kind"]
theorem sc_checked_kind : FnScope N_checked_kind P_checked_kind (defScope s_checked_kind) := ⟨rfl, rfl, rfl, by decide +kernel, rfl, by decide +kernel, by decide +kernel⟩

abbrev s_checked_kinds : Stmt := top 15
abbrev N_checked_kinds : List Str := ["kinds", "kind"]
abbrev P_checked_kinds : List Str := ["kinds"]
theorem sc_checked_kinds : FnScope N_checked_kinds P_checked_kinds (defScope s_checked_kinds) := ⟨rfl, rfl, rfl, by decide +kernel, rfl, by decide +kernel, by decide +kernel⟩

abbrev s_checked_row : Stmt := top 16
abbrev N_checked_row : List Str := ["row"]
abbrev P_checked_row : List Str := ["row"]
theorem sc_checked_row : FnScope N_checked_row P_checked_row (defScope s_checked_row) := ⟨rfl, rfl, rfl, by decide +kernel, rfl, by decide +kernel, by decide +kernel⟩

abbrev s_signed : Stmt := top 19
abbrev N_signed : List Str := ["kind", "sign", "first", "second"]
abbrev P_signed : List Str := ["kind", "sign"]
theorem sc_signed : FnScope N_signed P_signed (defScope s_signed) := ⟨rfl, rfl, rfl, by decide +kernel, rfl, by decide +kernel, by decide +kernel⟩

abbrev s_row_signed : Stmt := top 20
abbrev N_row_signed : List Str := ["row", "kind", "pair"]
abbrev P_row_signed : List Str := ["row"]
theorem sc_row_signed : FnScope N_row_signed P_row_signed (defScope s_row_signed) := ⟨rfl, rfl, rfl, by decide +kernel, rfl, by decide +kernel, by decide +kernel⟩

abbrev s_balance : Stmt := top 25
abbrev N_balance : List Str := ["row", "counts", "letter", "sign"]
abbrev P_balance : List Str := ["row"]
theorem sc_balance : FnScope N_balance P_balance (defScope s_balance) := ⟨rfl, rfl, rfl, by decide +kernel, rfl, by decide +kernel, by decide +kernel⟩

abbrev s_lifted : Stmt := top 24
abbrev N_lifted : List Str := ["kind", "other", "behind"]
abbrev P_lifted : List Str := ["kind", "other", "behind"]
theorem sc_lifted : FnScope N_lifted P_lifted (defScope s_lifted) := ⟨rfl, rfl, rfl, by decide +kernel, rfl, by decide +kernel, by decide +kernel⟩

abbrev s_check_letter : Stmt := top 17
abbrev N_check_letter : List Str := ["letter"]
abbrev P_check_letter : List Str := ["letter"]
theorem sc_check_letter : FnScope N_check_letter P_check_letter (defScope s_check_letter) := ⟨rfl, rfl, rfl, by decide +kernel, rfl, by decide +kernel, by decide +kernel⟩

abbrev s_put_all : Stmt := top 8
abbrev N_put_all : List Str := ["kind", "table"]
abbrev P_put_all : List Str := ["kind", "table"]
theorem sc_put_all : FnScope N_put_all P_put_all (defScope s_put_all) := ⟨rfl, rfl, rfl, by decide +kernel, rfl, by decide +kernel, by decide +kernel⟩

abbrev s_swapped : Stmt := top 23
abbrev N_swapped : List Str := ["kind", "letter", "other"]
abbrev P_swapped : List Str := ["kind", "letter", "other"]
theorem sc_swapped : FnScope N_swapped P_swapped (defScope s_swapped) := ⟨rfl, rfl, rfl, by decide +kernel, rfl, by decide +kernel, by decide +kernel⟩

abbrev s_cancelled : Stmt := top 21
abbrev N_cancelled : List Str := ["pairs", "found", "letter", "sign"]
abbrev P_cancelled : List Str := ["pairs"]
theorem sc_cancelled : FnScope N_cancelled P_cancelled (defScope s_cancelled) := ⟨rfl, rfl, rfl, by decide +kernel, rfl, by decide +kernel, by decide +kernel⟩

abbrev s_word : Stmt := top 26
abbrev N_word : List Str := ["row"]
abbrev P_word : List Str := ["row"]
theorem sc_word : FnScope N_word P_word (defScope s_word) := ⟨rfl, rfl, rfl, by decide +kernel, rfl, by decide +kernel, by decide +kernel⟩

abbrev s_small : Stmt := top 44
abbrev N_small : List Str := ["_law_source", "_law_signs", "_law_kind", "_law_other", "_law_behind", "_law_made", "_law_letter", "_law_counted", "_law_due", "_law_many", "_law_row", "_law_rest_here", "_law_rows", "_law_sign", "_law_total"]
abbrev P_small : List Str := ["_law_source", "_law_signs"]
theorem sc_small : FnScope N_small P_small (defScope s_small) := ⟨rfl, rfl, rfl, by decide +kernel, rfl, by decide +kernel, by decide +kernel⟩

abbrev s_turned_kind : Stmt := top 18
abbrev N_turned_kind : List Str := ["kind"]
abbrev P_turned_kind : List Str := ["kind"]
theorem sc_turned_kind : FnScope N_turned_kind P_turned_kind (defScope s_turned_kind) := ⟨rfl, rfl, rfl, by decide +kernel, rfl, by decide +kernel, by decide +kernel⟩

abbrev s_turned : Stmt := top 22
abbrev N_turned : List Str := ["kind"]
abbrev P_turned : List Str := ["kind"]
theorem sc_turned : FnScope N_turned P_turned (defScope s_turned) := ⟨rfl, rfl, rfl, by decide +kernel, rfl, by decide +kernel, by decide +kernel⟩

abbrev s_law : Stmt := top 45
abbrev N_law : List Str := ["_law_script", "_law_source", "_law_k", "_law_signs", "_law_forms", "_law_kinds", "_law_j", "_law_kind", "_law_other", "_law_third", "_law_spots", "_law_letter", "_law_due", "_law_behind", "_law_made"]
abbrev P_law : List Str := ["_law_script"]
theorem sc_law : FnScope N_law P_law (defScope s_law) := ⟨rfl, rfl, rfl, by decide +kernel, rfl, by decide +kernel, by decide +kernel⟩


structure Txt (w : World) (K : PySem.W.Frag) (mg : Str → Option Value) where
  a_alike : Addr
  d_alike : FuncData
  F_alike : Fun K "_law_alike" "_law_alike" s_alike a_alike d_alike
  m_alike : mg "_law_alike" = some (.ref a_alike)
  B_alike : Binds K d_alike P_alike []
  a_begun : Addr
  d_begun : FuncData
  F_begun : Fun K "_law_begun" "_law_begun" s_begun a_begun d_begun
  m_begun : mg "_law_begun" = some (.ref a_begun)
  B_begun : Binds K d_begun P_begun []
  a_pick : Addr
  d_pick : FuncData
  F_pick : Fun K "_law_pick" "_law_pick" s_pick a_pick d_pick
  m_pick : mg "_law_pick" = some (.ref a_pick)
  B_pick : Binds K d_pick P_pick []
  a_grown : Addr
  d_grown : FuncData
  F_grown : Fun K "_law_grown" "_law_grown" s_grown a_grown d_grown
  m_grown : mg "_law_grown" = some (.ref a_grown)
  B_grown : Binds K d_grown P_grown []
  a_lift : Addr
  d_lift : FuncData
  F_lift : Fun K "_law_lift" "_law_lift" s_lift a_lift d_lift
  m_lift : mg "_law_lift" = some (.ref a_lift)
  B_lift : Binds K d_lift P_lift []
  a_mirror : Addr
  d_mirror : FuncData
  F_mirror : Fun K "_law_mirror" "_law_mirror" s_mirror a_mirror d_mirror
  m_mirror : mg "_law_mirror" = some (.ref a_mirror)
  B_mirror : Binds K d_mirror P_mirror []
  a_pool : Addr
  d_pool : FuncData
  F_pool : Fun K "_law_pool" "_law_pool" s_pool a_pool d_pool
  m_pool : mg "_law_pool" = some (.ref a_pool)
  B_pool : Binds K d_pool P_pool []
  a_put : Addr
  d_put : FuncData
  F_put : Fun K "_law_put" "_law_put" s_put a_put d_put
  m_put : mg "_law_put" = some (.ref a_put)
  B_put : Binds K d_put P_put []
  a_flipped : Addr
  d_flipped : FuncData
  F_flipped : Fun K "_law_flipped" "_law_flipped" s_flipped a_flipped d_flipped
  m_flipped : mg "_law_flipped" = some (.ref a_flipped)
  B_flipped : Binds K d_flipped P_flipped []
  a_undone : Addr
  d_undone : FuncData
  F_undone : Fun K "_law_undone" "_law_undone" s_undone a_undone d_undone
  m_undone : mg "_law_undone" = some (.ref a_undone)
  B_undone : Binds K d_undone P_undone []
  a_line : Addr
  d_line : FuncData
  F_line : Fun K "_law_line" "_law_line" s_line a_line d_line
  m_line : mg "_law_line" = some (.ref a_line)
  B_line : Binds K d_line P_line []
  a_pairs : Addr
  d_pairs : FuncData
  F_pairs : Fun K "_law_pairs" "_law_pairs" s_pairs a_pairs d_pairs
  m_pairs : mg "_law_pairs" = some (.ref a_pairs)
  B_pairs : Binds K d_pairs P_pairs []
  a_rest : Addr
  d_rest : FuncData
  F_rest : Fun K "_law_rest" "_law_rest" s_rest a_rest d_rest
  m_rest : mg "_law_rest" = some (.ref a_rest)
  B_rest : Binds K d_rest P_rest []
  a_sums : Addr
  d_sums : FuncData
  F_sums : Fun K "_law_sums" "_law_sums" s_sums a_sums d_sums
  m_sums : mg "_law_sums" = some (.ref a_sums)
  B_sums : Binds K d_sums P_sums []
  a_places : Addr
  d_places : FuncData
  F_places : Fun K "_law_places" "_law_places" s_places a_places d_places
  m_places : mg "_law_places" = some (.ref a_places)
  B_places : Binds K d_places P_places []
  a_within : Addr
  d_within : FuncData
  F_within : Fun K "_law_within" "_law_within" s_within a_within d_within
  m_within : mg "_law_within" = some (.ref a_within)
  B_within : Binds K d_within P_within []
  a_is_letter : Addr
  d_is_letter : FuncData
  F_is_letter : Fun K "is_letter" "is_letter" s_is_letter a_is_letter d_is_letter
  m_is_letter : mg "is_letter" = some (.ref a_is_letter)
  B_is_letter : Binds K d_is_letter P_is_letter []
  a_wrong_part : Addr
  d_wrong_part : FuncData
  F_wrong_part : Fun K "wrong_part" "wrong_part" s_wrong_part a_wrong_part d_wrong_part
  m_wrong_part : mg "wrong_part" = some (.ref a_wrong_part)
  B_wrong_part : Binds K d_wrong_part P_wrong_part []
  a_checked_kind : Addr
  d_checked_kind : FuncData
  F_checked_kind : Fun K "checked_kind" "checked_kind" s_checked_kind a_checked_kind d_checked_kind
  m_checked_kind : mg "checked_kind" = some (.ref a_checked_kind)
  B_checked_kind : Binds K d_checked_kind P_checked_kind []
  a_checked_kinds : Addr
  d_checked_kinds : FuncData
  F_checked_kinds : Fun K "checked_kinds" "checked_kinds" s_checked_kinds a_checked_kinds d_checked_kinds
  m_checked_kinds : mg "checked_kinds" = some (.ref a_checked_kinds)
  B_checked_kinds : Binds K d_checked_kinds P_checked_kinds []
  a_checked_row : Addr
  d_checked_row : FuncData
  F_checked_row : Fun K "checked_row" "checked_row" s_checked_row a_checked_row d_checked_row
  m_checked_row : mg "checked_row" = some (.ref a_checked_row)
  B_checked_row : Binds K d_checked_row P_checked_row []
  a_signed : Addr
  d_signed : FuncData
  F_signed : Fun K "signed" "signed" s_signed a_signed d_signed
  m_signed : mg "signed" = some (.ref a_signed)
  B_signed : Binds K d_signed P_signed []
  a_row_signed : Addr
  d_row_signed : FuncData
  F_row_signed : Fun K "row_signed" "row_signed" s_row_signed a_row_signed d_row_signed
  m_row_signed : mg "row_signed" = some (.ref a_row_signed)
  B_row_signed : Binds K d_row_signed P_row_signed []
  a_balance : Addr
  d_balance : FuncData
  F_balance : Fun K "balance" "balance" s_balance a_balance d_balance
  m_balance : mg "balance" = some (.ref a_balance)
  B_balance : Binds K d_balance P_balance []
  a_lifted : Addr
  d_lifted : FuncData
  F_lifted : Fun K "lifted" "lifted" s_lifted a_lifted d_lifted
  m_lifted : mg "lifted" = some (.ref a_lifted)
  B_lifted : Binds K d_lifted P_lifted []
  KR_lifted : KB0 K d_lifted P_lifted P_lifted.reverse (fun ws => ws.reverse) (fun zs => zs.reverse)
  a_check_letter : Addr
  d_check_letter : FuncData
  F_check_letter : Fun K "check_letter" "check_letter" s_check_letter a_check_letter d_check_letter
  m_check_letter : mg "check_letter" = some (.ref a_check_letter)
  B_check_letter : Binds K d_check_letter P_check_letter []
  a_put_all : Addr
  d_put_all : FuncData
  F_put_all : Fun K "put_all" "put_all" s_put_all a_put_all d_put_all
  m_put_all : mg "put_all" = some (.ref a_put_all)
  B_put_all : Binds K d_put_all P_put_all []
  a_swapped : Addr
  d_swapped : FuncData
  F_swapped : Fun K "swapped" "swapped" s_swapped a_swapped d_swapped
  m_swapped : mg "swapped" = some (.ref a_swapped)
  B_swapped : Binds K d_swapped P_swapped []
  KR_swapped : KB0 K d_swapped P_swapped P_swapped.reverse (fun ws => ws.reverse) (fun zs => zs.reverse)
  a_cancelled : Addr
  d_cancelled : FuncData
  F_cancelled : Fun K "cancelled" "cancelled" s_cancelled a_cancelled d_cancelled
  m_cancelled : mg "cancelled" = some (.ref a_cancelled)
  B_cancelled : Binds K d_cancelled P_cancelled []
  a_word : Addr
  d_word : FuncData
  F_word : Fun K "word" "word" s_word a_word d_word
  m_word : mg "word" = some (.ref a_word)
  B_word : Binds K d_word P_word []
  a_small : Addr
  d_small : FuncData
  F_small : Fun K "_law_small" "_law_small" s_small a_small d_small
  m_small : mg "_law_small" = some (.ref a_small)
  B_small : Binds K d_small P_small []
  a_turned_kind : Addr
  d_turned_kind : FuncData
  F_turned_kind : Fun K "turned_kind" "turned_kind" s_turned_kind a_turned_kind d_turned_kind
  m_turned_kind : mg "turned_kind" = some (.ref a_turned_kind)
  B_turned_kind : Binds K d_turned_kind P_turned_kind []
  a_turned : Addr
  d_turned : FuncData
  F_turned : Fun K "turned" "turned" s_turned a_turned d_turned
  m_turned : mg "turned" = some (.ref a_turned)
  B_turned : Binds K d_turned P_turned []
  a_law : Addr
  d_law : FuncData
  F_law : Fun K "law" "law" s_law a_law d_law
  m_law : mg "law" = some (.ref a_law)
  B_law : Binds K d_law P_law []
  b_bool : mg "bool" = none
  b_int : mg "int" = none
  b_isinstance : mg "isinstance" = none
  b_len : mg "len" = none
  b_list : mg "list" = none
  b_max : mg "max" = none
  b_range : mg "range" = none
  b_set : mg "set" = none
  b_sorted : mg "sorted" = none
  b_str : mg "str" = none
  b_sum : mg "sum" = none
  b_tuple : mg "tuple" = none
  b_zip : mg "zip" = none
  t_LETTERS : Tok
  g_LETTERS : mg "LETTERS" = some (.str "abcdefghijklmnopqrstuvwxyz" t_LETTERS)
  o_TURNS : Addr
  e_TURNS : Array DictEntry
  n_TURNS : Nat
  g_TURNS : mg "TURNS" = some (.ref o_TURNS)
  k_TURNS : KTbl K w o_TURNS e_TURNS n_TURNS [("behind", "ahead"), ("ahead", "behind"), ("with", "with")]
end Nk03

namespace Nk03
open PySem PySem.Spec PyProof.Rows L2 Ww Vs Fn
section
variable {P : Program} {w : World} {K : PySem.W.Frag} {mg : Str → Option Value} {base : Heap}
theorem ok_alike (T : Txt w K mg) : ∀ n : Nat, FnOk P w K mg base CX0 (n + 0) T.a_alike T.d_alike P_alike (spF K cl0 (F_alike n))
  | 0 => fn_none fun vs H Q E h => spF_none h
  | n + 1 => by
    have IH := ok_alike T n
    exact T.F_alike.ok sc_alike (fun vs H Q E h => spF_len h) (fun cdv A outer s H vs Q E hr h => ⟨_, ss_cons (s_if (tst_ok (pt_cmp (pc_isN (slot_ok (pv 1)))) (op1_le prim_isN))
    (ss_one (s_ret (pf_isN (slot_ok (pv 0)))))
    (ss_nil))
    (ss_cons (s_if (tru_ok' (tmp_ok (b_isaT (ns := ["list", "tuple"]) rfl T.b_isinstance (slot_ok (pv 1)) (pa_cons (pe_bltn (v := .ty "list") rfl T.b_list (by decide +kernel) rfl) (pa_cons (pe_bltn (v := .ty "tuple") rfl T.b_tuple (by decide +kernel) rfl) pa_nil)))))
    (ss_cons (s_if (PW.pt (pw_orF (pt_notF (tru_ok' (tmp_ok (b_isaT (ns := ["list", "tuple"]) rfl T.b_isinstance (slot_ok (pv 0)) (pa_cons (pe_bltn (v := .ty "list") rfl T.b_list (by decide +kernel) rfl) (pa_cons (pe_bltn (v := .ty "tuple") rfl T.b_tuple (by decide +kernel) rfl) pa_nil)))))) (pw_orF1 (tst_ok (pt_cmpR (op_neP (hu64 hr)) (tmp_ok (b_isa rfl T.b_isinstance (slot_ok (pv 0)) (pe_bltn (v := .ty "list") rfl T.b_list (by decide +kernel) rfl))) (tmp_ok (b_isa rfl T.b_isinstance (slot_ok (pv 1)) (pe_bltn (v := .ty "list") rfl T.b_list (by decide +kernel) rfl))) (nomark _)) (op2_le prim_ne)))))
    (ss_one (s_ret (c_ok pe_bl (fun _ => .bl _))))
    (ss_nil))
    (ss_cons (s_if (tst_ok (pt_cmpR (op_neP (hu64 hr)) (tmp_ok (bi1 call_len prim_len rfl T.b_len PySem.boot_len (slot_ok (pv 0)))) (tmp_ok (bi1 call_len prim_len rfl T.b_len PySem.boot_len (slot_ok (pv 1)))) (nomark _)) (op2_le prim_ne))
    (ss_one (s_ret (c_ok pe_bl (fun _ => .bl _))))
    (ss_nil))
    (ss_cons (s_for PassesOwn.never rfl (i_zip rfl T.b_zip (var_ok (pv 0)) (var_ok (pv 1))) (g_tup rfl (gs_cons (g_name (pg_name (i := 2) sc_alike.nd rfl (Or.inl rfl))) (gs_cons (g_name (pg_name (i := 3) sc_alike.nd rfl (Or.inl rfl))) (gs_nil))))
    (ss_one (s_if (pt_notF (tru_ok' (tmp_ok (pf_call IH (hr.mono (by first | decide | omega)) rfl T.m_alike T.F_alike.kp T.B_alike pass0 (pa_consC (aD_ok (var_ok (pv 2))) (pa_consC (aD_ok (var_ok (pv 3))) (pa_nilC)))))))
    (ss_one (s_ret (c_ok pe_bl (fun _ => .bl _))))
    (ss_nil))))
    (ss_one (s_ret (c_ok pe_bl (fun _ => .bl _)))))))
    (ss_nil))
    (ss_cons (s_if (tru_ok' (tmp_ok (b_isa rfl T.b_isinstance (slot_ok (pv 1)) (pe_bltn (v := .ty "str") rfl T.b_str (by decide +kernel) rfl))))
    (ss_one (s_ret (pf_and (b_isa rfl T.b_isinstance (slot_ok (pv 0)) (pe_bltn (v := .ty "str") rfl T.b_str (by decide +kernel) rfl)) (pf_one (pf_eq (hu64 hr) (slot_ok (pv 0)) (slot_ok (pv 1)))))))
    (ss_nil))
    (ss_cons (s_if (tst_ok (pt_cmpR (op_neP (hu64 hr)) (tmp_ok (b_isa rfl T.b_isinstance (slot_ok (pv 0)) (pe_bltn (v := .ty "bool") rfl T.b_bool (by decide +kernel) rfl))) (tmp_ok (b_isa rfl T.b_isinstance (slot_ok (pv 1)) (pe_bltn (v := .ty "bool") rfl T.b_bool (by decide +kernel) rfl))) (nomark _)) (op2_le prim_ne))
    (ss_one (s_ret (c_ok pe_bl (fun _ => .bl _))))
    (ss_nil))
    (ss_one (s_ret (pf_and (b_isa rfl T.b_isinstance (slot_ok (pv 0)) (pe_bltn (v := .ty "int") rfl T.b_int (by decide +kernel) rfl)) (pf_one (pf_eq (hu64 hr) (slot_ok (pv 0)) (slot_ok (pv 1)))))))))), def0 (body := (B_alike (F_alike n))) rfl h (by decide)⟩)

theorem ok_begun (T : Txt w K mg) : FnOk P w K mg base CX0 1 T.a_begun T.d_begun P_begun (spF K cl0 F_begun) :=
  T.F_begun.ok sc_begun (fun vs H Q E h => spF_len h) (fun cdv A outer s H vs Q E hr h => ⟨_, ss_cons (s_par2 (ps_par (i := 1) (j := 2) rfl sc_begun.nd rfl rfl (by decide) rfl rfl (pa_consF (pf_lst (pa_nilF)) (pa_consF (c_ok pe_int (fun _ => .int _)) (pa_nilF))) rfl))
    (ss_cons (s_for PassesOwn.never rfl (i_rng1 rfl T.b_range (tmp_ok (bi1 call_len prim_len rfl T.b_len PySem.boot_len (slot_ok (pv 0))))) (g_name (pg_name (i := 3) sc_begun.nd rfl (Or.inl rfl)))
    (ss_one (s_if (tst_ok (pt_cmpR op_ge (tmp_ok (pf_ixS (hu1 hr) (pv 0) (var_ok (pv 3)))) (tmp_ok (pf_pow (tmp_ok (c_ok pe_int (fun _ => .int _))) (tmp_ok (c_ok pe_int (fun _ => .int _))))) (nomark _)) (op2_le prim_ge))
    (ss_one (s_expr (m_append (pe_bm PySem.F.plainAttrs_list PySem.F.slot_list_append PySem.F.type_list_append mt_append (pv 1) (pa_one (pf_sub (tmp_ok (pf_ixS (hu1 hr) (pv 0) (var_ok (pv 3)))) (tmp_ok (pf_pow (tmp_ok (c_ok pe_int (fun _ => .int _))) (tmp_ok (c_ok pe_int (fun _ => .int _)))))))))))
    (ss_one (s_set (ps_set (i := 2) sc_begun.nd rfl (Or.inl rfl) (pf_mod (tmp_ok (ty1 call_int1 prim_int rfl T.b_int (by decide +kernel) (tmp_ok (pf_add (tmp_ok (pf_pow (tmp_ok (pf_add (tmp_ok (pf_add (slot_ok (pv 2)) (tmp_ok (pf_mod (tmp_ok (ty1 call_int1 prim_int rfl T.b_int (by decide +kernel) (tmp_ok (pf_ixS (hu1 hr) (pv 0) (var_ok (pv 3)))))) (tmp_ok (c_ok pe_int (fun _ => .int _))))))) (tmp_ok (pf_mul (tmp_ok (c_ok pe_int (fun _ => .int _))) (slot_ok (pv 3)))))) (tmp_ok (c_ok pe_int (fun _ => .int _))))) (slot_ok (pv 3)))))) (tmp_ok (c_ok pe_int (fun _ => .int _))))))))))
    (ss_one (s_ret (pf_lst (pa_consF (var_ok (pv 1)) (pa_consF (c_ok pe_int (fun _ => .int _)) (pa_consF (c_ok pe_int (fun _ => .int _)) (pa_consF (var_ok (pv 2)) (pa_consF (c_ok pe_int (fun _ => .int _)) (pa_nilF)))))))))), def0 (body := B_begun) rfl h (by decide)⟩)

theorem ok_pick (T : Txt w K mg) : FnOk P w K mg base CX0 1 T.a_pick T.d_pick P_pick (spF K cl0 F_pick) :=
  T.F_pick.ok sc_pick (fun vs H Q E h => spF_len h) (fun cdv A outer s H vs Q E hr h => ⟨_, ss_cons (s_if (PW.pt (pw_andF (tst_ok (pt_cmpR (op_eqP (hu64 hr)) (tmp_ok (pf_ixS (hu1 hr) (pv 0) (c_ok pe_int (fun _ => .int _)))) (tmp_ok (c_ok pe_int (fun _ => .int _))) (nomark _)) (op2_le prim_eq)) (pw_andF1 (tst_ok (pt_cmpR (op_lt.or op_lt_str) (tmp_ok (pf_ixS (hu1 hr) (pv 0) (c_ok pe_int (fun _ => .int _)))) (tmp_ok (bi1 call_len prim_len rfl T.b_len PySem.boot_len (tmp_ok (pf_ixS (hu1 hr) (pv 0) (c_ok pe_int (fun _ => .int _)))))) (nomark _)) (op2_le prim_lt)))))
    (ss_cons (s_store (ps_asg (pf_ix (tmp_ok (pf_ixS (hu1 hr) (pv 0) (c_ok pe_int (fun _ => .int _)))) (tmp_ok (pf_ixS (hu1 hr) (pv 0) (c_ok pe_int (fun _ => .int _))))) (pg_sub (pv 0) (c_ok pe_int (fun _ => .int _)) set_list)) (ps_dput (hu1 hr) (pv 0) (c_ok pe_int (fun _ => .int _)) (pf_ix (tmp_ok (pf_ixS (hu1 hr) (pv 0) (c_ok pe_int (fun _ => .int _)))) (tmp_ok (pf_ixS (hu1 hr) (pv 0) (c_ok pe_int (fun _ => .int _))))) rfl))
    (ss_one (s_store (ps_asg (pf_add (tmp_ok (pf_ixS (hu1 hr) (pv 0) (c_ok pe_int (fun _ => .int _)))) (tmp_ok (c_ok pe_int (fun _ => .int _)))) (pg_sub (pv 0) (c_ok pe_int (fun _ => .int _)) set_list)) (ps_dput (hu1 hr) (pv 0) (c_ok pe_int (fun _ => .int _)) (pf_add (tmp_ok (pf_ixS (hu1 hr) (pv 0) (c_ok pe_int (fun _ => .int _)))) (tmp_ok (c_ok pe_int (fun _ => .int _)))) rfl))))
    (ss_nil))
    (ss_cons (s_if (tst_ok (pt_cmpR op_gt (tmp_ok (pf_ixS (hu1 hr) (pv 0) (c_ok pe_int (fun _ => .int _)))) (tmp_ok (c_ok pe_int (fun _ => .int _))) (nomark _)) (op2_le prim_gt))
    (ss_cons (s_set (ps_set (i := 2) sc_pick.nd rfl (Or.inl rfl) (pf_mod (tmp_ok (ty1 call_int1 prim_int rfl T.b_int (by decide +kernel) (tmp_ok (pf_ixS (hu1 hr) (pv 0) (c_ok pe_int (fun _ => .int _)))))) (slot_ok (pv 1)))))
    (ss_cons (s_store (ps_asg (pf_fdiv (tmp_ok (pf_ixS (hu1 hr) (pv 0) (c_ok pe_int (fun _ => .int _)))) (slot_ok (pv 1))) (pg_sub (pv 0) (c_ok pe_int (fun _ => .int _)) set_list)) (ps_dput (hu1 hr) (pv 0) (c_ok pe_int (fun _ => .int _)) (pf_fdiv (tmp_ok (pf_ixS (hu1 hr) (pv 0) (c_ok pe_int (fun _ => .int _)))) (slot_ok (pv 1))) rfl))
    (ss_one (s_ret (mov_ok (pv 2))))))
    (ss_nil))
    (ss_cons (s_store (ps_asg (pf_add (tmp_ok (pf_ixS (hu1 hr) (pv 0) (c_ok pe_int (fun _ => .int _)))) (tmp_ok (c_ok pe_int (fun _ => .int _)))) (pg_sub (pv 0) (c_ok pe_int (fun _ => .int _)) set_list)) (ps_dput (hu1 hr) (pv 0) (c_ok pe_int (fun _ => .int _)) (pf_add (tmp_ok (pf_ixS (hu1 hr) (pv 0) (c_ok pe_int (fun _ => .int _)))) (tmp_ok (c_ok pe_int (fun _ => .int _)))) rfl))
    (ss_cons (s_set (ps_set (i := 3) sc_pick.nd rfl (Or.inl rfl) (pf_mod (tmp_ok (ty1 call_int1 prim_int rfl T.b_int (by decide +kernel) (tmp_ok (pf_pow (tmp_ok (pf_add (tmp_ok (pf_ixS (hu1 hr) (pv 0) (c_ok pe_int (fun _ => .int _)))) (tmp_ok (pf_mul (tmp_ok (pf_mul (tmp_ok (c_ok pe_int (fun _ => .int _))) (tmp_ok (pf_ixS (hu1 hr) (pv 0) (c_ok pe_int (fun _ => .int _)))))) (tmp_ok (pf_ixS (hu1 hr) (pv 0) (c_ok pe_int (fun _ => .int _)))))))) (tmp_ok (c_ok pe_int (fun _ => .int _))))))) (tmp_ok (c_ok pe_int (fun _ => .int _))))))
    (ss_one (s_ret (pf_mod (tmp_ok (pf_fdiv (tmp_ok (pf_mod (tmp_ok (ty1 call_int1 prim_int rfl T.b_int (by decide +kernel) (tmp_ok (pf_mul (slot_ok (pv 3)) (tmp_ok (pf_add (slot_ok (pv 3)) (tmp_ok (c_ok pe_int (fun _ => .int _))))))))) (tmp_ok (c_ok pe_int (fun _ => .int _))))) (tmp_ok (c_ok pe_int (fun _ => .int _))))) (slot_ok (pv 1)))))))), def0 (body := B_pick) rfl h (by decide)⟩)

theorem ok_grown (T : Txt w K mg) : ∀ n : Nat, FnOk P w K mg base CX0 (n + 1) T.a_grown T.d_grown P_grown (spF K cl0 (F_grown n))
  | 0 => fn_none fun vs H Q E h => spF_none h
  | n + 1 => by
    have IH := ok_grown T n
    exact T.F_grown.ok sc_grown (fun vs H Q E h => spF_len h) (fun cdv A outer s H vs Q E hr h => ⟨_, ss_cons (s_if (PW.pt (pw_orF (tst_ok (pt_cmpR (op_lt.or op_lt_str) (slot_ok (pv 1)) (tmp_ok (c_ok pe_int (fun _ => .int _))) (nomark _)) (op2_le prim_lt)) (pw_orF1 (tst_ok (pt_cmpR (op_lt.or op_lt_str) (slot_ok (pv 2)) (tmp_ok (c_ok pe_int (fun _ => .int _))) (nomark _)) (op2_le prim_lt)))))
    (ss_one (s_ret (pf_tup (pa_consF (c_ok pe_str (fun _ => .str _)) (pa_consF (pf_ixS (hu1 hr) (pv 4) (pf_call (ok_pick T) (hr.mono (by first | decide | omega)) rfl T.m_pick T.F_pick.kp T.B_pick pass0 (pa_lendC (pv 0) (pa_consC (aD_ok (bi1 call_len prim_len rfl T.b_len PySem.boot_len (slot_ok (pv 4)))) (pa_nilC))))) (pa_nilF))))))
    (ss_nil))
    (ss_cons (s_par2 (ps_par (i := 5) (j := 6) rfl sc_grown.nd rfl rfl (by decide) rfl rfl (pa_consF (pf_ixS (hu1 hr) (pv 3) (pf_call (ok_pick T) (hr.mono (by first | decide | omega)) rfl T.m_pick T.F_pick.kp T.B_pick pass0 (pa_lendC (pv 0) (pa_consC (aD_ok (bi1 call_len prim_len rfl T.b_len PySem.boot_len (slot_ok (pv 3)))) (pa_nilC))))) (pa_consF (pf_add (tmp_ok (c_ok pe_int (fun _ => .int _))) (tmp_ok (pf_call (ok_pick T) (hr.mono (by first | decide | omega)) rfl T.m_pick T.F_pick.kp T.B_pick pass0 (pa_lendC (pv 0) (pa_consC (aD_ok (pf_sub (slot_ok (pv 1)) (tmp_ok (c_ok pe_int (fun _ => .int _))))) (pa_nilC)))))) (pa_nilF))) rfl))
    (ss_cons (s_set (ps_set (i := 7) sc_grown.nd rfl (Or.inl rfl) (pf_call IH (hr.mono (by first | decide | omega)) rfl T.m_grown T.F_grown.kp T.B_grown pass0 (pa_lendC (pv 0) (pa_consC (aD_ok (var_ok (pv 6))) (pa_consC (aD_ok (pf_sub (slot_ok (pv 2)) (tmp_ok (c_ok pe_int (fun _ => .int _))))) (pa_consC (aD_ok (var_ok (pv 3))) (pa_consC (aD_ok (var_ok (pv 4))) (pa_nilC)))))))))
    (ss_one (s_ret (pf_tup (pa_consF (var_ok (pv 5)) (pa_consF (var_ok (pv 7)) (pa_consF (pf_call IH (hr.mono (by first | decide | omega)) rfl T.m_grown T.F_grown.kp T.B_grown pass0 (pa_lendC (pv 0) (pa_consC (aD_ok (pf_sub (slot_ok (pv 1)) (slot_ok (pv 6)))) (pa_consC (aD_ok (pf_sub (slot_ok (pv 2)) (tmp_ok (c_ok pe_int (fun _ => .int _))))) (pa_consC (aD_ok (var_ok (pv 3))) (pa_consC (aD_ok (var_ok (pv 4))) (pa_nilC))))))) (pa_nilF))))))))), def0 (body := (B_grown (F_grown n))) rfl h (by decide)⟩)

theorem ok_lift (T : Txt w K mg) : FnOk P w K mg base CX0 1 T.a_lift T.d_lift P_lift (spF K cl0 F_lift) :=
  T.F_lift.ok sc_lift (fun vs H Q E h => spF_len h) (fun cdv A outer s H vs Q E hr h => ⟨_, ss_cons (s_if (tru_ok' (slot_ok (pv 2)))
    (ss_one (s_ret (pf_tup (pa_consF (c_ok pe_str (fun _ => .str _)) (pa_consF (var_ok (pv 1)) (pa_consF (pf_tup (pa_consF (c_ok pe_str (fun _ => .str _)) (pa_consF (var_ok (pv 0)) (pa_consF (var_ok (pv 1)) (pa_nilF))))) (pa_nilF)))))))
    (ss_nil))
    (ss_one (s_ret (pf_tup (pa_consF (c_ok pe_str (fun _ => .str _)) (pa_consF (pf_tup (pa_consF (c_ok pe_str (fun _ => .str _)) (pa_consF (var_ok (pv 1)) (pa_consF (var_ok (pv 0)) (pa_nilF))))) (pa_consF (var_ok (pv 1)) (pa_nilF))))))), def0 (body := B_lift) rfl h (by decide)⟩)

theorem ok_mirror (T : Txt w K mg) : ∀ n : Nat, FnOk P w K mg base CX0 (n + 0) T.a_mirror T.d_mirror P_mirror (spF K cl0 (F_mirror n))
  | 0 => fn_none fun vs H Q E h => spF_none h
  | n + 1 => by
    have IH := ok_mirror T n
    exact T.F_mirror.ok sc_mirror (fun vs H Q E h => spF_len h) (fun cdv A outer s H vs Q E hr h => ⟨_, ss_cons (s_if (tst_ok (pt_cmpR (op_eqP (hu64 hr)) (tmp_ok (pf_ixS (hu1 hr) (pv 0) (c_ok pe_int (fun _ => .int _)))) (tmp_ok (c_ok pe_str (fun _ => .str _))) (nomark _)) (op2_le prim_eq))
    (ss_one (s_ret (var_ok (pv 0))))
    (ss_nil))
    (ss_cons (s_set (ps_set (i := 1) sc_mirror.nd rfl (Or.inl rfl) (pf_ixS (hu1 hr) (pv 0) (c_ok pe_int (fun _ => .int _)))))
    (ss_cons (s_if (tst_ok (pt_cmpR (op_neP (hu64 hr)) (slot_ok (pv 1)) (tmp_ok (c_ok pe_str (fun _ => .str _))) (nomark _)) (op2_le prim_ne))
    (ss_one (s_set (ps_set (i := 1) sc_mirror.nd rfl (Or.inl rfl) (pf_ix (tmp_ok (pf_lst (pa_consF (c_ok pe_str (fun _ => .str _)) (pa_consF (c_ok pe_str (fun _ => .str _)) (pa_nilF))))) (tmp_ok (ty1 call_int1 prim_int rfl T.b_int (by decide +kernel) (tmp_ok (pf_eq (hu64 hr) (slot_ok (pv 1)) (tmp_ok (c_ok pe_str (fun _ => .str _)))))))))))
    (ss_nil))
    (ss_one (s_ret (pf_tup (pa_consF (var_ok (pv 1)) (pa_consF (pf_call IH (hr.mono (by first | decide | omega)) rfl T.m_mirror T.F_mirror.kp T.B_mirror pass0 (pa_consC (aD_ok (pf_ixS (hu1 hr) (pv 0) (c_ok pe_int (fun _ => .int _)))) (pa_nilC))) (pa_consF (pf_call IH (hr.mono (by first | decide | omega)) rfl T.m_mirror T.F_mirror.kp T.B_mirror pass0 (pa_consC (aD_ok (pf_ixS (hu1 hr) (pv 0) (c_ok pe_int (fun _ => .int _)))) (pa_nilC))) (pa_nilF))))))))), def0 (body := (B_mirror (F_mirror n))) rfl h (by decide)⟩)

theorem ok_pool (T : Txt w K mg) : FnOk P w K mg base CX0 2 T.a_pool T.d_pool P_pool (spF K cl0 F_pool) :=
  T.F_pool.ok sc_pool (fun vs H Q E h => spF_len h) (fun cdv A outer s H vs Q E hr h => ⟨_, ss_cons (s_asg (ps_asg (pf_tup (pa_consF (c_ok pe_str (fun _ => .str _)) (pa_consF (pf_add (tmp_ok (c_ok pe_int (fun _ => .int _))) (tmp_ok (pf_call (ok_pick T) (hr.mono (by first | decide | omega)) rfl T.m_pick T.F_pick.kp T.B_pick pass0 (pa_lendC (pv 0) (pa_consC (aD_ok (pf_ix (tmp_ok (pf_lst (pa_consF (c_ok pe_int (fun _ => .int _)) (pa_consF (c_ok pe_int (fun _ => .int _)) (pa_consF (c_ok pe_int (fun _ => .int _)) (pa_nilF)))))) (tmp_ok (pf_call (ok_pick T) (hr.mono (by first | decide | omega)) rfl T.m_pick T.F_pick.kp T.B_pick pass0 (pa_lendC (pv 0) (pa_consC (aD_ok (c_ok pe_int (fun _ => .int _))) (pa_nilC))))))) (pa_nilC)))))) (pa_nilF)))) (g_tup rfl (gs_cons (g_name (pg_name (i := 1) sc_pool.nd rfl (Or.inr rfl))) (gs_cons (g_name (pg_name (i := 2) sc_pool.nd rfl (Or.inl rfl))) (gs_nil))))))
    (ss_one (s_ret (b_join (tmp_ok (c_ok pe_str (fun _ => .str _))) (tmp_ok (pf_lc (rng1 (slotF 2)) (nmT 3) (yesT) (ixS 1 (callF F_pick (lendC 0 (consC (aD (cF (.int 26))) (nilC))))) rfl sc_pool.nd (i_rng1 rfl T.b_range (slot_ok (pv 2))) (blkOk_by (N := N_pool) (own := [("_law_k", 3)]) (sc := defScope s_pool) (by decide +kernel)) (fun _ _ _ _ _ => g_name (pg_name (i := 3) sc_pool.nd rfl (Or.inl rfl))) (fun _ _ _ _ _ => ts_yes) (fun _ _ _ _ _ => pf_ixS (hu1 hr) (pv 1) (pf_call (ok_pick T) (hr.mono (by first | decide | omega)) rfl T.m_pick T.F_pick.kp T.B_pick pass0 (pa_lendC (pv 0) (pa_consC (aD_ok (c_ok pe_int (fun _ => .int _))) (pa_nilC))))) (by decide)))))), def0 (body := B_pool) rfl h (by decide)⟩)

theorem ok_put (T : Txt w K mg) : ∀ n : Nat, FnOk P w K mg base CX0 (n + 0) T.a_put T.d_put P_put (spF K cl0 (F_put n))
  | 0 => fn_none fun vs H Q E h => spF_none h
  | n + 1 => by
    have IH := ok_put T n
    exact T.F_put.ok sc_put (fun vs H Q E h => spF_len h) (fun cdv A outer s H vs Q E hr h => ⟨_, ss_cons (s_if (tst_ok (pt_cmpR (op_eqP (hu64 hr)) (tmp_ok (pf_ixS (hu1 hr) (pv 0) (c_ok pe_int (fun _ => .int _)))) (tmp_ok (c_ok pe_str (fun _ => .str _))) (nomark _)) (op2_le prim_eq))
    (ss_one (s_ret (m_get2 (hu1 hr) (pv 1) (pf_ixS (hu1 hr) (pv 0) (c_ok pe_int (fun _ => .int _))) (var_ok (pv 0)) ⟨rfl, rfl, rfl, rfl⟩)))
    (ss_nil))
    (ss_one (s_ret (pf_tup (pa_consF (pf_ixS (hu1 hr) (pv 0) (c_ok pe_int (fun _ => .int _))) (pa_consF (pf_call IH (hr.mono (by first | decide | omega)) rfl T.m_put T.F_put.kp T.B_put pass0 (pa_consC (aD_ok (pf_ixS (hu1 hr) (pv 0) (c_ok pe_int (fun _ => .int _)))) (pa_lendC (pv 1) (pa_nilC)))) (pa_consF (pf_call IH (hr.mono (by first | decide | omega)) rfl T.m_put T.F_put.kp T.B_put pass0 (pa_consC (aD_ok (pf_ixS (hu1 hr) (pv 0) (c_ok pe_int (fun _ => .int _)))) (pa_lendC (pv 1) (pa_nilC)))) (pa_nilF))))))), def0 (body := (B_put (F_put n))) rfl h (by decide)⟩)

theorem ok_flipped (T : Txt w K mg) : FnOk P w K mg base CX0 1 T.a_flipped T.d_flipped P_flipped (spF K cl0 F_flipped) :=
  T.F_flipped.ok sc_flipped (fun vs H Q E h => spF_len h) (fun cdv A outer s H vs Q E hr h => ⟨_, ss_cons (s_if (tru_ok' (tmp_ok (pf_isup (slot_ok (pv 0)))))
    (ss_one (s_ret (pf_lower (slot_ok (pv 0)))))
    (ss_nil))
    (ss_one (s_ret (pf_upper (slot_ok (pv 0))))), def0 (body := B_flipped) rfl h (by decide)⟩)

theorem ok_undone (T : Txt w K mg) : FnOk P w K mg base CX0 2 T.a_undone T.d_undone P_undone (spF K cl0 F_undone) :=
  T.F_undone.ok sc_undone (fun vs H Q E h => spF_len h) (fun cdv A outer s H vs Q E hr h => ⟨_, ss_one (s_ret (b_join (tmp_ok (c_ok pe_str (fun _ => .str _))) (tmp_ok (pf_lc (strI (op1 revSO (slotF 0))) (nmT 1) (yesT) (callF F_flipped (consC (aD (varF 1)) (nilC))) rfl sc_undone.nd (i_str (pf_revS (slot_ok (pv 0)))) (blkOk_by (N := N_undone) (own := [("_law_sign", 1)]) (sc := defScope s_undone) (by decide +kernel)) (fun _ _ _ _ _ => g_name (pg_name (i := 1) sc_undone.nd rfl (Or.inl rfl))) (fun _ _ _ _ _ => ts_yes) (fun _ _ _ _ _ => pf_call (ok_flipped T) (hr.mono (by first | decide | omega)) rfl T.m_flipped T.F_flipped.kp T.B_flipped pass0 (pa_consC (aD_ok (var_ok (pv 1))) (pa_nilC))) (by decide))))), def0 (body := B_undone) rfl h (by decide)⟩)

theorem ok_line (T : Txt w K mg) : ∀ n : Nat, FnOk P w K mg base CX0 (n + 2) T.a_line T.d_line P_line (spF K cl0 (F_line_k04 n))
  | 0 => fn_none fun vs H Q E h => spF_none h
  | n + 1 => by
    have IH := ok_line T n
    exact T.F_line.ok sc_line (fun vs H Q E h => spF_len h) (fun cdv A outer s H vs Q E hr h => ⟨_, ss_cons (s_if (tst_ok (pt_cmpR (op_eqP (hu64 hr)) (tmp_ok (pf_ixS (hu1 hr) (pv 0) (c_ok pe_int (fun _ => .int _)))) (tmp_ok (c_ok pe_str (fun _ => .str _))) (nomark _)) (op2_le prim_eq))
    (ss_one (s_ret (pf_ixS (hu1 hr) (pv 0) (c_ok pe_int (fun _ => .int _)))))
    (ss_nil))
    (ss_cons (s_par2 (ps_par (i := 1) (j := 2) rfl sc_line.nd rfl rfl (by decide) rfl rfl (pa_consF (pf_call IH (hr.mono (by first | decide | omega)) rfl T.m_line T.F_line.kp T.B_line pass0 (pa_consC (aD_ok (pf_ixS (hu1 hr) (pv 0) (c_ok pe_int (fun _ => .int _)))) (pa_nilC))) (pa_consF (pf_call IH (hr.mono (by first | decide | omega)) rfl T.m_line T.F_line.kp T.B_line pass0 (pa_consC (aD_ok (pf_ixS (hu1 hr) (pv 0) (c_ok pe_int (fun _ => .int _)))) (pa_nilC))) (pa_nilF))) rfl))
    (ss_cons (s_if (tst_ok (pt_cmpR (op_eqP (hu64 hr)) (tmp_ok (pf_ixS (hu1 hr) (pv 0) (c_ok pe_int (fun _ => .int _)))) (tmp_ok (c_ok pe_str (fun _ => .str _))) (nomark _)) (op2_le prim_eq))
    (ss_one (s_ret (pf_add (slot_ok (pv 1)) (tmp_ok (pf_call (ok_undone T) (hr.mono (by first | decide | omega)) rfl T.m_undone T.F_undone.kp T.B_undone pass0 (pa_consC (aD_ok (var_ok (pv 2))) (pa_nilC)))))))
    (ss_nil))
    (ss_cons (s_if (tst_ok (pt_cmpR (op_eqP (hu64 hr)) (tmp_ok (pf_ixS (hu1 hr) (pv 0) (c_ok pe_int (fun _ => .int _)))) (tmp_ok (c_ok pe_str (fun _ => .str _))) (nomark _)) (op2_le prim_eq))
    (ss_one (s_ret (pf_add (tmp_ok (pf_call (ok_undone T) (hr.mono (by first | decide | omega)) rfl T.m_undone T.F_undone.kp T.B_undone pass0 (pa_consC (aD_ok (var_ok (pv 1))) (pa_nilC)))) (slot_ok (pv 2)))))
    (ss_nil))
    (ss_one (s_ret (pf_add (slot_ok (pv 1)) (slot_ok (pv 2)))))))), def0 (body := (B_line_k04 (F_line_k04 n))) rfl h (by decide)⟩)

theorem ok_pairs (T : Txt w K mg) : FnOk P w K mg base CX0 1 T.a_pairs T.d_pairs P_pairs (spF K cl0 F_pairs) :=
  T.F_pairs.ok sc_pairs (fun vs H Q E h => spF_len h) (fun cdv A outer s H vs Q E hr h => ⟨_, ss_one (s_ret (pf_lc (strI (varF 0)) (nmT 1) (yesT) (tupF (consA (op1 lowerO (slotF 1)) (consA (op2 ixO (tmpF (lstF (consA (cF (.int 1)) (consA (op1 negO (tmpF (cF (.int 1)))) (nilA))))) (tmpF (op1 intO (tmpF (op1 isupO (slotF 1)))))) (nilA)))) rfl sc_pairs.nd (i_str (var_ok (pv 0))) (blkOk_by (N := N_pairs) (own := [("_law_sign", 1)]) (sc := defScope s_pairs) (by decide +kernel)) (fun _ _ _ _ _ => g_name (pg_name (i := 1) sc_pairs.nd rfl (Or.inl rfl))) (fun _ _ _ _ _ => ts_yes) (fun _ _ _ _ _ => pf_tup (pa_consF (pf_lower (slot_ok (pv 1))) (pa_consF (pf_ix (tmp_ok (pf_lst (pa_consF (c_ok pe_int (fun _ => .int _)) (pa_consF (pf_neg (tmp_ok (c_ok pe_int (fun _ => .int _)))) (pa_nilF))))) (tmp_ok (ty1 call_int1 prim_int rfl T.b_int (by decide +kernel) (tmp_ok (pf_isup (slot_ok (pv 1))))))) (pa_nilF)))) (by decide))), def0 (body := B_pairs) rfl h (by decide)⟩)

theorem ok_rest (T : Txt w K mg) : FnOk P w K mg base CX0 1 T.a_rest T.d_rest P_rest (spF K cl0 F_rest) :=
  T.F_rest.ok sc_rest (fun vs H Q E h => spF_len h) (fun cdv A outer s H vs Q E hr h => ⟨_, ss_cons (s_set (ps_set (i := 1) sc_rest.nd rfl (Or.inl rfl) (b_sortedTxt rfl rfl T.b_sorted rfl T.b_set (tmp_ok (pf_lower (slot_ok (pv 0)))))))
    (ss_cons (s_for PassesOwn.never rfl (i_rng1 rfl T.b_range (tmp_ok (pf_fdiv (tmp_ok (bi1 call_len prim_len rfl T.b_len PySem.boot_len (slot_ok (pv 0)))) (tmp_ok (c_ok pe_int (fun _ => .int _)))))) (g_name (pg_name (i := 2) sc_rest.nd rfl (Or.inl rfl)))
    (ss_one (s_for PassesOwn.never rfl (i_seq (var_ok (pv 1))) (g_name (pg_name (i := 3) sc_rest.nd rfl (Or.inl rfl)))
    (ss_one (s_set (ps_set (i := 0) sc_rest.nd rfl (Or.inl rfl) (pf_repl2 (tmp_ok (pf_repl (slot_ok (pv 0)) (slot_ok (pv 3)) (pr_upper (slot_ok (pv 3))))) (pr_upper (slot_ok (pv 3))) (slot_ok (pv 3)))))))))
    (ss_one (s_ret (var_ok (pv 0))))), def0 (body := B_rest) rfl h (by decide)⟩)

theorem ok_sums (T : Txt w K mg) : FnOk P w K mg base CX0 33 T.a_sums T.d_sums P_sums (spF K cl0 F_sums) :=
  T.F_sums.ok sc_sums (fun vs H Q E h => spF_len h) (fun cdv A outer s H vs Q E hr h => ⟨_, ss_cons (s_par2 (ps_par (i := 1) (j := 2) rfl sc_sums.nd rfl rfl (by decide) rfl rfl (pa_consF (pf_call (ok_line T 30) (hr.mono (by first | decide | omega)) rfl T.m_line T.F_line.kp T.B_line pass0 (pa_consC (aD_ok (var_ok (pv 0))) (pa_nilC))) (pa_consF (pf_lst (pa_nilF)) (pa_nilF))) rfl))
    (ss_cons (s_for PassesOwn.never rfl (i_str (c_ok pe_str (fun _ => .str _))) (g_name (pg_name (i := 3) sc_sums.nd rfl (Or.inl rfl)))
    (ss_cons (s_set (ps_set (i := 4) sc_sums.nd rfl (Or.inl rfl) (pf_sub (tmp_ok (pf_scnt (slot_ok (pv 1)) (slot_ok (pv 3)))) (tmp_ok (pf_scnt (slot_ok (pv 1)) (tmp_ok (pf_upper (slot_ok (pv 3)))))))))
    (ss_one (s_if (tst_ok (pt_cmpR (op_neP (hu64 hr)) (slot_ok (pv 4)) (tmp_ok (c_ok pe_int (fun _ => .int _))) (nomark _)) (op2_le prim_ne))
    (ss_one (s_expr (m_append (pe_bm PySem.F.plainAttrs_list PySem.F.slot_list_append PySem.F.type_list_append mt_append (pv 2) (pa_one (pf_tup (pa_consF (var_ok (pv 3)) (pa_consF (var_ok (pv 4)) (pa_nilF)))))))))
    (ss_nil)))))
    (ss_one (s_ret (mov_ok (pv 2))))), def0 (body := B_sums) rfl h (by decide)⟩)

theorem ok_places (T : Txt w K mg) : FnOk P w K mg base CX0 1 T.a_places T.d_places P_places (spF K cl0 F_places) :=
  T.F_places.ok sc_places (fun vs H Q E h => spF_len h) (fun cdv A outer s H vs Q E hr h => ⟨_, ss_cons (s_par2 (ps_par (i := 1) (j := 2) rfl sc_places.nd rfl rfl (by decide) rfl rfl (pa_consF (pf_lst (pa_nilF)) (pa_consF (pf_lst (pa_consF (pf_tup (pa_consF (var_ok (pv 0)) (pa_consF (c_ok pe_int (fun _ => .int _)) (pa_nilF)))) (pa_nilF))) (pa_nilF))) rfl))
    (ss_cons (s_while PassesOwn.never (tst_ok (pt_cmpR (op_neP (hu64 hr)) (slot_ok (pv 2)) (tmp_ok (pf_lst (pa_nilF))) (nomark _)) (op2_le prim_ne))
    (ss_cons (s_asg (ps_asg (m_pop (pe_bm0 PySem.F.plainAttrs_list PySem.F.slot_list_pop PySem.F.type_list_pop mt_pop (pv 2))) (g_tup rfl (gs_cons (g_name (pg_name (i := 3) sc_places.nd rfl (Or.inl rfl))) (gs_cons (g_name (pg_name (i := 4) sc_places.nd rfl (Or.inl rfl))) (gs_nil))))))
    (ss_one (s_if (tst_ok (pt_cmpR (op_eqP (hu64 hr)) (tmp_ok (pf_ixS (hu1 hr) (pv 3) (c_ok pe_int (fun _ => .int _)))) (tmp_ok (c_ok pe_str (fun _ => .str _))) (nomark _)) (op2_le prim_eq))
    (ss_one (s_expr (m_append (pe_bm PySem.F.plainAttrs_list PySem.F.slot_list_append PySem.F.type_list_append mt_append (pv 1) (pa_one (pf_tup (pa_consF (pf_ixS (hu1 hr) (pv 3) (c_ok pe_int (fun _ => .int _))) (pa_consF (var_ok (pv 4)) (pa_nilF)))))))))
    (ss_cons (s_expr (m_append (pe_bm PySem.F.plainAttrs_list PySem.F.slot_list_append PySem.F.type_list_append mt_append (pv 2) (pa_one (pf_tup (pa_consF (pf_ixS (hu1 hr) (pv 3) (c_ok pe_int (fun _ => .int _))) (pa_consF (pf_add (slot_ok (pv 4)) (tmp_ok (c_ok pe_int (fun _ => .int _)))) (pa_nilF))))))))
    (ss_one (s_expr (m_append (pe_bm PySem.F.plainAttrs_list PySem.F.slot_list_append PySem.F.type_list_append mt_append (pv 2) (pa_one (pf_tup (pa_consF (pf_ixS (hu1 hr) (pv 3) (c_ok pe_int (fun _ => .int _))) (pa_consF (pf_add (slot_ok (pv 4)) (tmp_ok (c_ok pe_int (fun _ => .int _)))) (pa_nilF))))))))))))))
    (ss_one (s_ret (mov_ok (pv 1))))), def0 (body := B_places) rfl h (by decide)⟩)

theorem ok_within (T : Txt w K mg) : FnOk P w K mg base CX0 2 T.a_within T.d_within P_within (spF K cl0 F_within) :=
  T.F_within.ok sc_within (fun vs H Q E h => spF_len h) (fun cdv A outer s H vs Q E hr h => ⟨_, ss_cons (s_set (ps_set (i := 1) sc_within.nd rfl (Or.inl rfl) (pf_call (ok_places T) (hr.mono (by first | decide | omega)) rfl T.m_places T.F_places.kp T.B_places pass0 (pa_consC (aD_ok (var_ok (pv 0))) (pa_nilC)))))
    (ss_one (s_ret (pf_and (pf_le (tmp_ok (bi1 call_len prim_len rfl T.b_len PySem.boot_len (slot_ok (pv 1)))) (tmp_ok (c_ok pe_int (fun _ => .int _)))) (pf_one (pf_le (tmp_ok (bi1 (cr_max rfl) prim_max rfl T.b_max (by decide +kernel) (tmp_ok (pf_lc (itS (varF 1)) (nmT 2) (yesT) (ixS 2 (cF (.int 1))) rfl sc_within.nd (i_seq (var_ok (pv 1))) (blkOk_by (N := N_within) (own := [("_law_row", 2)]) (sc := defScope s_within) (by decide +kernel)) (fun _ _ _ _ _ => g_name (pg_name (i := 2) sc_within.nd rfl (Or.inl rfl))) (fun _ _ _ _ _ => ts_yes) (fun _ _ _ _ _ => pf_ixS (hu1 hr) (pv 2) (c_ok pe_int (fun _ => .int _))) (by decide))))) (tmp_ok (c_ok pe_int (fun _ => .int _)))))))), def0 (body := B_within) rfl h (by decide)⟩)

theorem ok_is_letter (T : Txt w K mg) : FnOk P w K mg base CX0 1 T.a_is_letter T.d_is_letter P_is_letter (spF K cl0 F_is_letter) :=
  T.F_is_letter.ok sc_is_letter (fun vs H Q E h => spF_len h) (fun cdv A outer s H vs Q E hr h => ⟨_, ss_one (s_ret (pf_and (pf_eq (hu64 hr) (tmp_ok (bi1 call_len prim_len rfl T.b_len PySem.boot_len (slot_ok (pv 0)))) (tmp_ok (c_ok pe_int (fun _ => .int _)))) (pf_one (pf_in (hu64 hr) (slot_ok (pv 0)) (tmp_ok (c_ok (pe_glob (v := .str _) rfl T.g_LETTERS ⟨_, rfl⟩) (fun _ => .str _))))))), def0 (body := B_is_letter) rfl h (by decide)⟩)

theorem ok_wrong_part (T : Txt w K mg) : ∀ n : Nat, FnOk P w K mg base CX0 (n + 1) T.a_wrong_part T.d_wrong_part P_wrong_part (spF K cl0 (F_wrong_part n))
  | 0 => fn_none fun vs H Q E h => spF_none h
  | n + 1 => by
    have IH := ok_wrong_part T n
    exact T.F_wrong_part.ok sc_wrong_part (fun vs H Q E h => spF_len h) (fun cdv A outer s H vs Q E hr h => ⟨_, ss_cons (s_if (tst_ok (pt_cmpR (op_eqP (hu64 hr)) (tmp_ok (pf_ixS (hu1 hr) (pv 0) (c_ok pe_int (fun _ => .int _)))) (tmp_ok (c_ok pe_str (fun _ => .str _))) (nomark _)) (op2_le prim_eq))
    (ss_one (s_ret (pf_if (tru_ok' (tmp_ok (pf_call (ok_is_letter T) (hr.mono (by first | decide | omega)) rfl T.m_is_letter T.F_is_letter.kp T.B_is_letter pass0 (pa_consC (aD_ok (pf_ixS (hu1 hr) (pv 0) (c_ok pe_int (fun _ => .int _)))) (pa_nilC))))) (c_ok pe_non (fun _ => .non)) (var_ok (pv 0)))))
    (ss_nil))
    (ss_cons (s_if (pt_kdNin T.k_TURNS (tmp_ok (pf_ixS (hu1 hr) (pv 0) (c_ok pe_int (fun _ => .int _)))) (pe_glob (v := .ref _) rfl T.g_TURNS rfl))
    (ss_one (s_ret (var_ok (pv 0))))
    (ss_nil))
    (ss_cons (s_set (ps_set (i := 1) sc_wrong_part.nd rfl (Or.inl rfl) (pf_call IH (hr.mono (by first | decide | omega)) rfl T.m_wrong_part T.F_wrong_part.kp T.B_wrong_part pass0 (pa_consC (aD_ok (pf_ixS (hu1 hr) (pv 0) (c_ok pe_int (fun _ => .int _)))) (pa_nilC)))))
    (ss_one (s_ret (pf_if (tst_ok (pt_cmp (pc_isN (slot_ok (pv 1)))) (op1_le prim_isN)) (pf_call IH (hr.mono (by first | decide | omega)) rfl T.m_wrong_part T.F_wrong_part.kp T.B_wrong_part pass0 (pa_consC (aD_ok (pf_ixS (hu1 hr) (pv 0) (c_ok pe_int (fun _ => .int _)))) (pa_nilC))) (var_ok (pv 1))))))), def0 (body := (B_wrong_part (F_wrong_part n))) rfl h (by decide)⟩)

theorem ok_checked_kind (T : Txt w K mg) : FnOk P w K mg base CX0 32 T.a_checked_kind T.d_checked_kind P_checked_kind (spF K cl0 F_checked_kind) :=
  T.F_checked_kind.ok sc_checked_kind (fun vs H Q E h => spF_len h) (fun cdv A outer s H vs Q E hr h => ⟨_, ss_cons (s_set (ps_set (i := 1) sc_checked_kind.nd rfl (Or.inl rfl) (pf_call (ok_wrong_part T 30) (hr.mono (by first | decide | omega)) rfl T.m_wrong_part T.F_wrong_part.kp T.B_wrong_part pass0 (pa_consC (aD_ok (var_ok (pv 0))) (pa_nilC)))))
    (ss_cons (s_if (tst_ok (pt_cmp (pc_notN (slot_ok (pv 1)))) (op1_le prim_notN))
    (ss_one (s_never))
    (ss_nil))
    (ss_one (s_ret (var_ok (pv 0))))), def0 (body := B_checked_kind) rfl h (by decide)⟩)

theorem ok_checked_kinds (T : Txt w K mg) : FnOk P w K mg base CX0 33 T.a_checked_kinds T.d_checked_kinds P_checked_kinds (spF K cl0 F_checked_kinds) :=
  T.F_checked_kinds.ok sc_checked_kinds (fun vs H Q E h => spF_len h) (fun cdv A outer s H vs Q E hr h => ⟨_, ss_cons (s_for PassesOwn.never rfl (i_seq (var_ok (pv 0))) (g_name (pg_name (i := 1) sc_checked_kinds.nd rfl (Or.inl rfl)))
    (ss_one (s_expr (pf_call (ok_checked_kind T) (hr.mono (by first | decide | omega)) rfl T.m_checked_kind T.F_checked_kind.kp T.B_checked_kind pass0 (pa_consC (aD_ok (var_ok (pv 1))) (pa_nilC))))))
    (ss_one (s_ret (var_ok (pv 0)))), def0 (body := B_checked_kinds) rfl h (by decide)⟩)

theorem ok_checked_row (T : Txt w K mg) : FnOk P w K mg base CX0 34 T.a_checked_row T.d_checked_row P_checked_row (spF K cl0 F_checked_row) :=
  T.F_checked_row.ok sc_checked_row (fun vs H Q E h => spF_len h) (fun cdv A outer s H vs Q E hr h => ⟨_, ss_cons (s_if (tst_ok (pt_cmpR (op_eqP (hu64 hr)) (tmp_ok (pf_call (ok_checked_kinds T) (hr.mono (by first | decide | omega)) rfl T.m_checked_kinds T.F_checked_kinds.kp T.B_checked_kinds pass0 (pa_consC (aD_ok (var_ok (pv 0))) (pa_nilC)))) (tmp_ok (pf_lst (pa_nilF))) (nomark _)) (op2_le prim_eq))
    (ss_one (s_never))
    (ss_nil))
    (ss_one (s_ret (var_ok (pv 0)))), def0 (body := B_checked_row) rfl h (by decide)⟩)

theorem ok_signed (T : Txt w K mg) : ∀ n : Nat, FnOk P w K mg base CX0 (n + 0) T.a_signed T.d_signed P_signed (spF K cl0 (F_signed n))
  | 0 => fn_none fun vs H Q E h => spF_none h
  | n + 1 => by
    have IH := ok_signed T n
    exact T.F_signed.ok sc_signed (fun vs H Q E h => spF_len h) (fun cdv A outer s H vs Q E hr h => ⟨_, ss_cons (s_if (tst_ok (pt_cmpR (op_eqP (hu64 hr)) (tmp_ok (pf_ixS (hu1 hr) (pv 0) (c_ok pe_int (fun _ => .int _)))) (tmp_ok (c_ok pe_str (fun _ => .str _))) (nomark _)) (op2_le prim_eq))
    (ss_one (s_ret (pf_lst (pa_consF (pf_tup (pa_consF (pf_ixS (hu1 hr) (pv 0) (c_ok pe_int (fun _ => .int _))) (pa_consF (var_ok (pv 1)) (pa_nilF)))) (pa_nilF)))))
    (ss_nil))
    (ss_cons (s_set (ps_set (i := 2) sc_signed.nd rfl (Or.inl rfl) (pf_call IH (hr.mono (by first | decide | omega)) rfl T.m_signed T.F_signed.kp T.B_signed pass0 (pa_consC (aD_ok (pf_ixS (hu1 hr) (pv 0) (c_ok pe_int (fun _ => .int _)))) (pa_consC (aD_ok (pf_if (tst_ok (pt_cmpR (op_eqP (hu64 hr)) (tmp_ok (pf_ixS (hu1 hr) (pv 0) (c_ok pe_int (fun _ => .int _)))) (tmp_ok (c_ok pe_str (fun _ => .str _))) (nomark _)) (op2_le prim_eq)) (pf_neg (slot_ok (pv 1))) (var_ok (pv 1)))) (pa_nilC))))))
    (ss_cons (s_set (ps_set (i := 3) sc_signed.nd rfl (Or.inl rfl) (pf_call IH (hr.mono (by first | decide | omega)) rfl T.m_signed T.F_signed.kp T.B_signed pass0 (pa_consC (aD_ok (pf_ixS (hu1 hr) (pv 0) (c_ok pe_int (fun _ => .int _)))) (pa_consC (aD_ok (pf_if (tst_ok (pt_cmpR (op_eqP (hu64 hr)) (tmp_ok (pf_ixS (hu1 hr) (pv 0) (c_ok pe_int (fun _ => .int _)))) (tmp_ok (c_ok pe_str (fun _ => .str _))) (nomark _)) (op2_le prim_eq)) (pf_neg (slot_ok (pv 1))) (var_ok (pv 1)))) (pa_nilC))))))
    (ss_one (s_ret (pf_if (tst_ok (pt_cmpR (op_eqP (hu64 hr)) (slot_ok (pv 1)) (tmp_ok (c_ok pe_int (fun _ => .int _))) (nomark _)) (op2_le prim_eq)) (pf_add (slot_ok (pv 2)) (slot_ok (pv 3))) (pf_add (slot_ok (pv 3)) (slot_ok (pv 2)))))))), def0 (body := (B_signed (F_signed n))) rfl h (by decide)⟩)

theorem ok_row_signed (T : Txt w K mg) : FnOk P w K mg base CX0 31 T.a_row_signed T.d_row_signed P_row_signed (spF K cl0 F_row_signed) :=
  T.F_row_signed.ok sc_row_signed (fun vs H Q E h => spF_len h) (fun cdv A outer s H vs Q E hr h => ⟨_, ss_one (s_ret (pf_lc2 (itS (varF 0)) (nmT 1) (yesT) (itS (callF (F_signed 30) (consC (aD (varF 1)) (consC (aD (cF (.int 1))) (nilC))))) (nmT 2) (yesT) (varF 2) [2] rfl sc_row_signed.nd (i_seq (var_ok (pv 0))) (blkOk_by (N := N_row_signed) (own := [("kind", 1), ("pair", 2)]) (sc := defScope s_row_signed) (by decide +kernel)) (fun _ _ _ _ _ => g_name (pg_name (i := 1) sc_row_signed.nd rfl (Or.inl rfl))) (fun _ _ _ _ _ => ts_yes) (fun _ _ _ _ _ => i_seq (pf_call (ok_signed T 30) (hr.mono (by first | decide | omega)) rfl T.m_signed T.F_signed.kp T.B_signed pass0 (pa_consC (aD_ok (var_ok (pv 1))) (pa_consC (aD_ok (c_ok pe_int (fun _ => .int _))) (pa_nilC))))) (fun _ _ _ _ _ => g_name (pg_name (i := 2) sc_row_signed.nd rfl (Or.inl rfl))) (fun _ _ _ _ _ => ts_yes) (fun _ _ _ _ _ => var_ok (pv 2)) (by decide) (by decide) (by decide))), def0 (body := B_row_signed) rfl h (by decide)⟩)

theorem ok_balance (T : Txt w K mg) : FnOk P w K mg base CX0 35 T.a_balance T.d_balance P_balance (spF K cl0 F_balance) :=
  T.F_balance.ok sc_balance (fun vs H Q E h => spF_len h) (fun cdv A outer s H vs Q E hr h => ⟨_, ss_cons (s_set (ps_set (i := 1) sc_balance.nd rfl (Or.inr rfl) (pf_newD)))
    (ss_cons (s_for PassesOwn.never rfl (i_seq (pf_call (ok_row_signed T) (hr.mono (by first | decide | omega)) rfl T.m_row_signed T.F_row_signed.kp T.B_row_signed pass0 (pa_consC (aD_ok (pf_call (ok_checked_row T) (hr.mono (by first | decide | omega)) rfl T.m_checked_row T.F_checked_row.kp T.B_checked_row pass0 (pa_consC (aD_ok (var_ok (pv 0))) (pa_nilC)))) (pa_nilC)))) (g_tup rfl (gs_cons (g_name (pg_name (i := 2) sc_balance.nd rfl (Or.inl rfl))) (gs_cons (g_name (pg_name (i := 3) sc_balance.nd rfl (Or.inl rfl))) (gs_nil))))
    (ss_one (s_store (ps_asg (pf_add (tmp_ok (m_get2 (hu1 hr) (pv 1) (var_ok (pv 2)) (c_ok pe_int (fun _ => .int _)) ⟨rfl, rfl, rfl, rfl⟩)) (slot_ok (pv 3))) (pg_sub (pv 1) (var_ok (pv 2)) set_list)) (ps_dput (hu1 hr) (pv 1) (var_ok (pv 2)) (pf_add (tmp_ok (m_get2 (hu1 hr) (pv 1) (var_ok (pv 2)) (c_ok pe_int (fun _ => .int _)) ⟨rfl, rfl, rfl, rfl⟩)) (slot_ok (pv 3))) rfl))))
    (ss_one (s_ret (pf_lc (itS (sKeys 1)) (nmT 2) (tstF (op2 neO (tmpF (ixS 1 (varF 2))) (tmpF (cF (.int 0))))) (tupF (consA (varF 2) (consA (ixS 1 (varF 2)) (nilA)))) rfl sc_balance.nd (i_seq (b_sortedD rfl rfl T.b_sorted (pv 1))) (blkOk_by (N := N_balance) (own := [("letter", 2)]) (sc := defScope s_balance) (by decide +kernel)) (fun _ _ _ _ _ => g_name (pg_name (i := 2) sc_balance.nd rfl (Or.inl rfl))) (fun _ _ _ _ _ => ts_one (tst_ok (pt_cmpR (op_neP (hu64 hr)) (tmp_ok (pf_ixS (hu1 hr) (pv 1) (var_ok (pv 2)))) (tmp_ok (c_ok pe_int (fun _ => .int _))) (nomark _)) (op2_le prim_ne))) (fun _ _ _ _ _ => pf_tup (pa_consF (var_ok (pv 2)) (pa_consF (pf_ixS (hu1 hr) (pv 1) (var_ok (pv 2))) (pa_nilF)))) (by decide))))), def0 (body := B_balance) rfl h (by decide)⟩)

theorem ok_lifted (T : Txt w K mg) : FnOk P w K mg base CX0 34 T.a_lifted T.d_lifted P_lifted (spF K cl0 F_lifted) :=
  T.F_lifted.ok sc_lifted (fun vs H Q E h => spF_len h) (fun cdv A outer s H vs Q E hr h => ⟨_, ss_cons (s_expr (pf_call (ok_checked_kinds T) (hr.mono (by first | decide | omega)) rfl T.m_checked_kinds T.F_checked_kinds.kp T.B_checked_kinds pass0 (pa_consC (aD_ok (pf_lst (pa_consF (var_ok (pv 0)) (pa_consF (var_ok (pv 1)) (pa_nilF))))) (pa_nilC))))
    (ss_cons (s_if (tru_ok' (slot_ok (pv 2)))
    (ss_one (s_ret (pf_tup (pa_consF (c_ok pe_str (fun _ => .str _)) (pa_consF (var_ok (pv 1)) (pa_consF (pf_tup (pa_consF (c_ok pe_str (fun _ => .str _)) (pa_consF (var_ok (pv 0)) (pa_consF (var_ok (pv 1)) (pa_nilF))))) (pa_nilF)))))))
    (ss_nil))
    (ss_one (s_ret (pf_tup (pa_consF (c_ok pe_str (fun _ => .str _)) (pa_consF (pf_tup (pa_consF (c_ok pe_str (fun _ => .str _)) (pa_consF (var_ok (pv 1)) (pa_consF (var_ok (pv 0)) (pa_nilF))))) (pa_consF (var_ok (pv 1)) (pa_nilF)))))))), def0 (body := B_lifted) rfl h (by decide)⟩)

theorem ok_check_letter (T : Txt w K mg) : FnOk P w K mg base CX0 2 T.a_check_letter T.d_check_letter P_check_letter (spF K cl0 F_check_letter) :=
  T.F_check_letter.ok sc_check_letter (fun vs H Q E h => spF_len h) (fun cdv A outer s H vs Q E hr h => ⟨_, ss_one (s_if (pt_notF (tru_ok' (tmp_ok (pf_call (ok_is_letter T) (hr.mono (by first | decide | omega)) rfl T.m_is_letter T.F_is_letter.kp T.B_is_letter pass0 (pa_consC (aD_ok (var_ok (pv 0))) (pa_nilC))))))
    (ss_one (s_never))
    (ss_nil)), def0 (body := B_check_letter) rfl h (by decide)⟩)

theorem ok_put_all (T : Txt w K mg) : ∀ n : Nat, FnOk P w K mg base CX0 (n + 0) T.a_put_all T.d_put_all P_put_all (spF K cl0 (F_put_all n))
  | 0 => fn_none fun vs H Q E h => spF_none h
  | n + 1 => by
    have IH := ok_put_all T n
    exact T.F_put_all.ok sc_put_all (fun vs H Q E h => spF_len h) (fun cdv A outer s H vs Q E hr h => ⟨_, ss_cons (s_if (tst_ok (pt_cmpR (op_eqP (hu64 hr)) (tmp_ok (pf_ixS (hu1 hr) (pv 0) (c_ok pe_int (fun _ => .int _)))) (tmp_ok (c_ok pe_str (fun _ => .str _))) (nomark _)) (op2_le prim_eq))
    (ss_one (s_ret (m_get2 (hu1 hr) (pv 1) (pf_ixS (hu1 hr) (pv 0) (c_ok pe_int (fun _ => .int _))) (var_ok (pv 0)) ⟨rfl, rfl, rfl, rfl⟩)))
    (ss_nil))
    (ss_one (s_ret (pf_tup (pa_consF (pf_ixS (hu1 hr) (pv 0) (c_ok pe_int (fun _ => .int _))) (pa_consF (pf_call IH (hr.mono (by first | decide | omega)) rfl T.m_put_all T.F_put_all.kp T.B_put_all pass0 (pa_consC (aD_ok (pf_ixS (hu1 hr) (pv 0) (c_ok pe_int (fun _ => .int _)))) (pa_lendC (pv 1) (pa_nilC)))) (pa_consF (pf_call IH (hr.mono (by first | decide | omega)) rfl T.m_put_all T.F_put_all.kp T.B_put_all pass0 (pa_consC (aD_ok (pf_ixS (hu1 hr) (pv 0) (c_ok pe_int (fun _ => .int _)))) (pa_lendC (pv 1) (pa_nilC)))) (pa_nilF))))))), def0 (body := (B_put_all (F_put_all n))) rfl h (by decide)⟩)

theorem ok_swapped (T : Txt w K mg) : FnOk P w K mg base CX0 34 T.a_swapped T.d_swapped P_swapped (spF K cl0 F_swapped) :=
  T.F_swapped.ok sc_swapped (fun vs H Q E h => spF_len h) (fun cdv A outer s H vs Q E hr h => ⟨_, ss_cons (s_expr (pf_call (ok_checked_kinds T) (hr.mono (by first | decide | omega)) rfl T.m_checked_kinds T.F_checked_kinds.kp T.B_checked_kinds pass0 (pa_consC (aD_ok (pf_lst (pa_consF (var_ok (pv 0)) (pa_consF (var_ok (pv 2)) (pa_nilF))))) (pa_nilC))))
    (ss_cons (s_expr (pf_call (ok_check_letter T) (hr.mono (by first | decide | omega)) rfl T.m_check_letter T.F_check_letter.kp T.B_check_letter pass0 (pa_consC (aD_ok (var_ok (pv 1))) (pa_nilC))))
    (ss_one (s_ret (pf_call (ok_put_all T 30) (hr.mono (by first | decide | omega)) rfl T.m_put_all T.F_put_all.kp T.B_put_all pass0 (pa_consC (aD_ok (var_ok (pv 0))) (pa_consC (aT_ok (pf_disp (ds_cons (var_ok (pv 1)) (var_ok (pv 2)) (ds_nil)) rfl rfl (fun z => by cases z))) (pa_nilC))))))), def0 (body := B_swapped) rfl h (by decide)⟩)

theorem ok_cancelled (T : Txt w K mg) : FnOk P w K mg base CX0 1 T.a_cancelled T.d_cancelled P_cancelled (spF K cl0 F_cancelled) :=
  T.F_cancelled.ok sc_cancelled (fun vs H Q E h => spF_len h) (fun cdv A outer s H vs Q E hr h => ⟨_, ss_cons (s_set (ps_set (i := 1) sc_cancelled.nd rfl (Or.inl rfl) (pf_lst (pa_nilF))))
    (ss_cons (s_for PassesOwn.never rfl (i_seq (var_ok (pv 0))) (g_tup rfl (gs_cons (g_name (pg_name (i := 2) sc_cancelled.nd rfl (Or.inl rfl))) (gs_cons (g_name (pg_name (i := 3) sc_cancelled.nd rfl (Or.inl rfl))) (gs_nil))))
    (ss_one (s_if (PW.pt (pw_andF (tst_ok (pt_cmpR (op_neP (hu64 hr)) (slot_ok (pv 1)) (tmp_ok (pf_lst (pa_nilF))) (nomark _)) (op2_le prim_ne)) (pw_andF1 (tst_ok (pt_cmpR (op_eqP (hu64 hr)) (tmp_ok (pf_ixS (hu1 hr) (pv 1) (pf_neg (tmp_ok (c_ok pe_int (fun _ => .int _)))))) (tmp_ok (pf_tup (pa_consF (var_ok (pv 2)) (pa_consF (pf_neg (slot_ok (pv 3))) (pa_nilF))))) (nomark _)) (op2_le prim_eq)))))
    (ss_one (s_expr (m_pop (pe_bm0 PySem.F.plainAttrs_list PySem.F.slot_list_pop PySem.F.type_list_pop mt_pop (pv 1)))))
    (ss_one (s_expr (m_append (pe_bm PySem.F.plainAttrs_list PySem.F.slot_list_append PySem.F.type_list_append mt_append (pv 1) (pa_one (pf_tup (pa_consF (var_ok (pv 2)) (pa_consF (var_ok (pv 3)) (pa_nilF))))))))))))
    (ss_one (s_ret (mov_ok (pv 1))))), def0 (body := B_cancelled) rfl h (by decide)⟩)

theorem ok_word (T : Txt w K mg) : FnOk P w K mg base CX0 35 T.a_word T.d_word P_word (spF K cl0 F_word) :=
  T.F_word.ok sc_word (fun vs H Q E h => spF_len h) (fun cdv A outer s H vs Q E hr h => ⟨_, ss_one (s_ret (pf_call (ok_cancelled T) (hr.mono (by first | decide | omega)) rfl T.m_cancelled T.F_cancelled.kp T.B_cancelled pass0 (pa_consC (aD_ok (pf_call (ok_row_signed T) (hr.mono (by first | decide | omega)) rfl T.m_row_signed T.F_row_signed.kp T.B_row_signed pass0 (pa_consC (aD_ok (pf_call (ok_checked_row T) (hr.mono (by first | decide | omega)) rfl T.m_checked_row T.F_checked_row.kp T.B_checked_row pass0 (pa_consC (aD_ok (var_ok (pv 0))) (pa_nilC)))) (pa_nilC)))) (pa_nilC)))), def0 (body := B_word) rfl h (by decide)⟩)

theorem ok_small (T : Txt w K mg) : FnOk P w K mg base CX0 36 T.a_small T.d_small P_small (spF K cl0 F_small_k03) :=
  T.F_small.ok sc_small (fun vs H Q E h => spF_len h) (fun cdv A outer s H vs Q E hr h => ⟨_, ss_cons (s_set (ps_set (i := 2) sc_small.nd rfl (Or.inl rfl) (pf_call (ok_grown T 30) (hr.mono (by first | decide | omega)) rfl T.m_grown T.F_grown.kp T.B_grown pass0 (pa_lendC (pv 0) (pa_consC (aD_ok (pf_add (tmp_ok (c_ok pe_int (fun _ => .int _))) (tmp_ok (pf_call (ok_pick T) (hr.mono (by first | decide | omega)) rfl T.m_pick T.F_pick.kp T.B_pick pass0 (pa_lendC (pv 0) (pa_consC (aD_ok (c_ok pe_int (fun _ => .int _))) (pa_nilC))))))) (pa_consC (aD_ok (c_ok pe_int (fun _ => .int _))) (pa_consC (aD_ok (pf_lst (pa_consF (c_ok pe_str (fun _ => .str _)) (pa_consF (c_ok pe_str (fun _ => .str _)) (pa_consF (c_ok pe_str (fun _ => .str _)) (pa_nilF)))))) (pa_consC (aD_ok (var_ok (pv 1))) (pa_nilC)))))))))
    (ss_cons (s_set (ps_set (i := 3) sc_small.nd rfl (Or.inl rfl) (pf_call (ok_grown T 30) (hr.mono (by first | decide | omega)) rfl T.m_grown T.F_grown.kp T.B_grown pass0 (pa_lendC (pv 0) (pa_consC (aD_ok (pf_add (tmp_ok (c_ok pe_int (fun _ => .int _))) (tmp_ok (pf_call (ok_pick T) (hr.mono (by first | decide | omega)) rfl T.m_pick T.F_pick.kp T.B_pick pass0 (pa_lendC (pv 0) (pa_consC (aD_ok (c_ok pe_int (fun _ => .int _))) (pa_nilC))))))) (pa_consC (aD_ok (c_ok pe_int (fun _ => .int _))) (pa_consC (aD_ok (pf_lst (pa_consF (c_ok pe_str (fun _ => .str _)) (pa_consF (c_ok pe_str (fun _ => .str _)) (pa_consF (c_ok pe_str (fun _ => .str _)) (pa_nilF)))))) (pa_consC (aD_ok (var_ok (pv 1))) (pa_nilC)))))))))
    (ss_cons (s_for PassesOwn.never rfl (i_seq (pf_lst (pa_consF (c_ok pe_bl (fun _ => .bl _)) (pa_consF (c_ok pe_bl (fun _ => .bl _)) (pa_nilF))))) (g_name (pg_name (i := 4) sc_small.nd rfl (Or.inl rfl)))
    (ss_cons (s_set (ps_set (i := 5) sc_small.nd rfl (Or.inl rfl) (pf_call (ok_lifted T) (hr.mono (by first | decide | omega)) rfl T.m_lifted T.F_lifted.kp T.B_lifted pass0 (pa_consC (aD_ok (var_ok (pv 2))) (pa_consC (aD_ok (var_ok (pv 3))) (pa_consC (aD_ok (var_ok (pv 4))) (pa_nilC)))))))
    (ss_one (s_if (tru_ok' (tmp_ok (pf_call (ok_within T) (hr.mono (by first | decide | omega)) rfl T.m_within T.F_within.kp T.B_within pass0 (pa_consC (aD_ok (var_ok (pv 5))) (pa_nilC)))))
    (ss_cons (s_if (pt_notF (tru_ok' (tmp_ok (pf_call (ok_alike T 30) (hr.mono (by first | decide | omega)) rfl T.m_alike T.F_alike.kp T.B_alike pass0 (pa_consC (aD_ok (pf_call (ok_word T) (hr.mono (by first | decide | omega)) rfl T.m_word T.F_word.kp T.B_word pass0 (pa_consC (aD_ok (pf_lst (pa_consF (var_ok (pv 5)) (pa_nilF)))) (pa_nilC)))) (pa_consC (aD_ok (pf_call (ok_pairs T) (hr.mono (by first | decide | omega)) rfl T.m_pairs T.F_pairs.kp T.B_pairs pass0 (pa_consC (aD_ok (pf_call (ok_rest T) (hr.mono (by first | decide | omega)) rfl T.m_rest T.F_rest.kp T.B_rest pass0 (pa_consC (aD_ok (pf_call (ok_line T 30) (hr.mono (by first | decide | omega)) rfl T.m_line T.F_line.kp T.B_line pass0 (pa_consC (aD_ok (var_ok (pv 2))) (pa_nilC)))) (pa_nilC)))) (pa_nilC)))) (pa_nilC)))))))
    (ss_one (s_ret (c_ok pe_bl (fun _ => .bl _))))
    (ss_nil))
    (ss_one (s_if (pt_notF (tru_ok' (tmp_ok (pf_call (ok_alike T 30) (hr.mono (by first | decide | omega)) rfl T.m_alike T.F_alike.kp T.B_alike pass0 (pa_consC (aD_ok (pf_call (ok_balance T) (hr.mono (by first | decide | omega)) rfl T.m_balance T.F_balance.kp T.B_balance pass0 (pa_consC (aD_ok (pf_lst (pa_consF (var_ok (pv 5)) (pa_nilF)))) (pa_nilC)))) (pa_consC (aD_ok (pf_call (ok_sums T) (hr.mono (by first | decide | omega)) rfl T.m_sums T.F_sums.kp T.B_sums pass0 (pa_consC (aD_ok (var_ok (pv 2))) (pa_nilC)))) (pa_nilC)))))))
    (ss_one (s_ret (c_ok pe_bl (fun _ => .bl _))))
    (ss_nil))))
    (ss_nil)))))
    (ss_cons (s_set (ps_set (i := 6) sc_small.nd rfl (Or.inr rfl) (pf_ixS (hu1 hr) (pv 1) (pf_call (ok_pick T) (hr.mono (by first | decide | omega)) rfl T.m_pick T.F_pick.kp T.B_pick pass0 (pa_lendC (pv 0) (pa_consC (aD_ok (bi1 call_len prim_len rfl T.b_len PySem.boot_len (slot_ok (pv 1)))) (pa_nilC)))))))
    (ss_cons (s_set (ps_set (i := 5) sc_small.nd rfl (Or.inl rfl) (pf_call (ok_swapped T) (hr.mono (by first | decide | omega)) rfl T.m_swapped T.F_swapped.kp T.B_swapped pass0 (pa_consC (aD_ok (var_ok (pv 2))) (pa_consC (aD_ok (var_ok (pv 6))) (pa_consC (aD_ok (var_ok (pv 3))) (pa_nilC)))))))
    (ss_cons (s_if (pt_notF (tru_ok' (tmp_ok (pf_call (ok_within T) (hr.mono (by first | decide | omega)) rfl T.m_within T.F_within.kp T.B_within pass0 (pa_consC (aD_ok (var_ok (pv 5))) (pa_nilC))))))
    (ss_one (s_ret (pf_call (ok_alike T 30) (hr.mono (by first | decide | omega)) rfl T.m_alike T.F_alike.kp T.B_alike pass0 (pa_consC (aD_ok (var_ok (pv 5))) (pa_consC (aD_ok (pf_call (ok_put T 30) (hr.mono (by first | decide | omega)) rfl T.m_put T.F_put.kp T.B_put pass0 (pa_consC (aD_ok (var_ok (pv 2))) (pa_consC (aT_ok (pf_disp (ds_cons (var_ok (pv 6)) (var_ok (pv 3)) (ds_nil)) rfl rfl (fun z => by cases z))) (pa_nilC))))) (pa_nilC))))))
    (ss_nil))
    (ss_cons (s_par2 (ps_par (i := 7) (j := 8) rfl sc_small.nd rfl rfl (by decide) rfl rfl (pa_consF (pf_call (ok_balance T) (hr.mono (by first | decide | omega)) rfl T.m_balance T.F_balance.kp T.B_balance pass0 (pa_consC (aD_ok (pf_lst (pa_consF (var_ok (pv 2)) (pa_nilF)))) (pa_nilC))) (pa_consF (pf_lst (pa_nilF)) (pa_nilF))) rfl))
    (ss_cons (s_set (ps_set (i := 9) sc_small.nd rfl (Or.inl rfl) (bi1 (cr_sum rfl) prim_sum rfl T.b_sum (by decide +kernel) (tmp_ok (pf_lc (itS (varF 7)) (nmT 10) (tstF (op2 eqO (tmpF (ixS 10 (cF (.int 0)))) (slotF 6))) (ixS 10 (cF (.int 1))) rfl sc_small.nd (i_seq (var_ok (pv 7))) (blkOk_by (N := N_small) (own := [("_law_row", 10)]) (sc := defScope s_small) (by decide +kernel)) (fun _ _ _ _ _ => g_name (pg_name (i := 10) sc_small.nd rfl (Or.inl rfl))) (fun _ _ _ _ _ => ts_one (tst_ok (pt_cmpR (op_eqP (hu64 hr)) (tmp_ok (pf_ixS (hu1 hr) (pv 10) (c_ok pe_int (fun _ => .int _)))) (slot_ok (pv 6)) (nomark _)) (op2_le prim_eq))) (fun _ _ _ _ _ => pf_ixS (hu1 hr) (pv 10) (c_ok pe_int (fun _ => .int _))) (by decide))))))
    (ss_cons (s_setLc (itS (varF 7)) (nmT 10) (tstF (op2 neO (tmpF (ixS 10 (cF (.int 0)))) (slotF 6))) (varF 10) (i := 11) rfl sc_small.nd rfl rfl (sw_true rfl rfl rfl (by decide +kernel)) (i_seq (var_ok (pv 7))) (blkOk_by (N := N_small) (own := [("_law_row", 10)]) (sc := defScope s_small) (by decide +kernel)) (fun _ _ _ _ _ => g_name (pg_name (i := 10) sc_small.nd rfl (Or.inl rfl))) (fun _ _ _ _ _ => ts_one (tst_ok (pt_cmpR (op_neP (hu64 hr)) (tmp_ok (pf_ixS (hu1 hr) (pv 10) (c_ok pe_int (fun _ => .int _)))) (slot_ok (pv 6)) (nomark _)) (op2_le prim_ne))) (fun _ _ _ _ _ => var_ok (pv 10)) (by decide))
    (ss_cons (s_set (ps_set (i := 12) sc_small.nd rfl (Or.inl rfl) (pf_call (ok_balance T) (hr.mono (by first | decide | omega)) rfl T.m_balance T.F_balance.kp T.B_balance pass0 (pa_consC (aD_ok (pf_lst (pa_consF (var_ok (pv 3)) (pa_nilF)))) (pa_nilC)))))
    (ss_cons (s_for PassesOwn.never rfl (i_str (c_ok pe_str (fun _ => .str _))) (g_name (pg_name (i := 13) sc_small.nd rfl (Or.inr rfl)))
    (ss_cons (s_set (ps_set (i := 14) sc_small.nd rfl (Or.inl rfl) (pf_add (tmp_ok (bi1 (cr_sum rfl) prim_sum rfl T.b_sum (by decide +kernel) (tmp_ok (pf_lc (itS (varF 11)) (nmT 10) (tstF (op2 eqO (tmpF (ixS 10 (cF (.int 0)))) (slotF 13))) (ixS 10 (cF (.int 1))) rfl sc_small.nd (i_seq (var_ok (pv 11))) (blkOk_by (N := N_small) (own := [("_law_row", 10)]) (sc := defScope s_small) (by decide +kernel)) (fun _ _ _ _ _ => g_name (pg_name (i := 10) sc_small.nd rfl (Or.inl rfl))) (fun _ _ _ _ _ => ts_one (tst_ok (pt_cmpR (op_eqP (hu64 hr)) (tmp_ok (pf_ixS (hu1 hr) (pv 10) (c_ok pe_int (fun _ => .int _)))) (slot_ok (pv 13)) (nomark _)) (op2_le prim_eq))) (fun _ _ _ _ _ => pf_ixS (hu1 hr) (pv 10) (c_ok pe_int (fun _ => .int _))) (by decide))))) (tmp_ok (pf_mul (slot_ok (pv 9)) (tmp_ok (bi1 (cr_sum rfl) prim_sum rfl T.b_sum (by decide +kernel) (tmp_ok (pf_lc (itS (varF 12)) (nmT 10) (tstF (op2 eqO (tmpF (ixS 10 (cF (.int 0)))) (slotF 13))) (ixS 10 (cF (.int 1))) rfl sc_small.nd (i_seq (var_ok (pv 12))) (blkOk_by (N := N_small) (own := [("_law_row", 10)]) (sc := defScope s_small) (by decide +kernel)) (fun _ _ _ _ _ => g_name (pg_name (i := 10) sc_small.nd rfl (Or.inl rfl))) (fun _ _ _ _ _ => ts_one (tst_ok (pt_cmpR (op_eqP (hu64 hr)) (tmp_ok (pf_ixS (hu1 hr) (pv 10) (c_ok pe_int (fun _ => .int _)))) (slot_ok (pv 13)) (nomark _)) (op2_le prim_eq))) (fun _ _ _ _ _ => pf_ixS (hu1 hr) (pv 10) (c_ok pe_int (fun _ => .int _))) (by decide))))))))))
    (ss_one (s_if (tst_ok (pt_cmpR (op_neP (hu64 hr)) (slot_ok (pv 14)) (tmp_ok (c_ok pe_int (fun _ => .int _))) (nomark _)) (op2_le prim_ne))
    (ss_one (s_expr (m_append (pe_bm PySem.F.plainAttrs_list PySem.F.slot_list_append PySem.F.type_list_append mt_append (pv 8) (pa_one (pf_tup (pa_consF (var_ok (pv 13)) (pa_consF (var_ok (pv 14)) (pa_nilF)))))))))
    (ss_nil)))))
    (ss_one (s_ret (pf_and (pf_call (ok_alike T 30) (hr.mono (by first | decide | omega)) rfl T.m_alike T.F_alike.kp T.B_alike pass0 (pa_consC (aD_ok (pf_call (ok_balance T) (hr.mono (by first | decide | omega)) rfl T.m_balance T.F_balance.kp T.B_balance pass0 (pa_consC (aD_ok (pf_lst (pa_consF (var_ok (pv 5)) (pa_nilF)))) (pa_nilC)))) (pa_consC (aD_ok (var_ok (pv 8))) (pa_nilC)))) (pf_one (pf_call (ok_alike T 30) (hr.mono (by first | decide | omega)) rfl T.m_alike T.F_alike.kp T.B_alike pass0 (pa_consC (aD_ok (var_ok (pv 7))) (pa_consC (aD_ok (pf_call (ok_sums T) (hr.mono (by first | decide | omega)) rfl T.m_sums T.F_sums.kp T.B_sums pass0 (pa_consC (aD_ok (var_ok (pv 2))) (pa_nilC)))) (pa_nilC)))))))))))))))))), def0 (body := B_small_k03) rfl h (by decide)⟩)

theorem ok_turned_kind (T : Txt w K mg) : ∀ n : Nat, FnOk P w K mg base CX0 (n + 0) T.a_turned_kind T.d_turned_kind P_turned_kind (spF K cl0 (F_turned_kind n))
  | 0 => fn_none fun vs H Q E h => spF_none h
  | n + 1 => by
    have IH := ok_turned_kind T n
    exact T.F_turned_kind.ok sc_turned_kind (fun vs H Q E h => spF_len h) (fun cdv A outer s H vs Q E hr h => ⟨_, ss_cons (s_if (tst_ok (pt_cmpR (op_eqP (hu64 hr)) (tmp_ok (pf_ixS (hu1 hr) (pv 0) (c_ok pe_int (fun _ => .int _)))) (tmp_ok (c_ok pe_str (fun _ => .str _))) (nomark _)) (op2_le prim_eq))
    (ss_one (s_ret (var_ok (pv 0))))
    (ss_nil))
    (ss_one (s_ret (pf_tup (pa_consF (pf_kd T.k_TURNS (pe_glob (v := .ref _) rfl T.g_TURNS rfl) (tmp_ok (pf_ixS (hu1 hr) (pv 0) (c_ok pe_int (fun _ => .int _))))) (pa_consF (pf_call IH (hr.mono (by first | decide | omega)) rfl T.m_turned_kind T.F_turned_kind.kp T.B_turned_kind pass0 (pa_consC (aD_ok (pf_ixS (hu1 hr) (pv 0) (c_ok pe_int (fun _ => .int _)))) (pa_nilC))) (pa_consF (pf_call IH (hr.mono (by first | decide | omega)) rfl T.m_turned_kind T.F_turned_kind.kp T.B_turned_kind pass0 (pa_consC (aD_ok (pf_ixS (hu1 hr) (pv 0) (c_ok pe_int (fun _ => .int _)))) (pa_nilC))) (pa_nilF))))))), def0 (body := (B_turned_kind (F_turned_kind n))) rfl h (by decide)⟩)

theorem ok_turned (T : Txt w K mg) : FnOk P w K mg base CX0 33 T.a_turned T.d_turned P_turned (spF K cl0 F_turned) :=
  T.F_turned.ok sc_turned (fun vs H Q E h => spF_len h) (fun cdv A outer s H vs Q E hr h => ⟨_, ss_one (s_ret (pf_call (ok_turned_kind T 30) (hr.mono (by first | decide | omega)) rfl T.m_turned_kind T.F_turned_kind.kp T.B_turned_kind pass0 (pa_consC (aD_ok (pf_call (ok_checked_kind T) (hr.mono (by first | decide | omega)) rfl T.m_checked_kind T.F_checked_kind.kp T.B_checked_kind pass0 (pa_consC (aD_ok (var_ok (pv 0))) (pa_nilC)))) (pa_nilC)))), def0 (body := B_turned) rfl h (by decide)⟩)

theorem ok_law (T : Txt w K mg) : FnOk P w K mg base CX0 37 T.a_law T.d_law P_law (spF K cl0 F_law_k03) :=
  T.F_law.ok sc_law (fun vs H Q E h => spF_len h) (fun cdv A outer s H vs Q E hr h => ⟨_, ss_cons (s_set (ps_set (i := 1) sc_law.nd rfl (Or.inr rfl) (pf_call (ok_begun T) (hr.mono (by first | decide | omega)) rfl T.m_begun T.F_begun.kp T.B_begun pass0 (pa_consC (aD_ok (var_ok (pv 0))) (pa_nilC)))))
    (ss_cons (s_for PassesOwn.never rfl (i_rng1 rfl T.b_range (tmp_ok (c_ok pe_int (fun _ => .int _)))) (g_name (pg_name (i := 2) sc_law.nd rfl (Or.inl rfl)))
    (ss_cons (s_set (ps_set (i := 3) sc_law.nd rfl (Or.inr rfl) (pf_call (ok_pool T) (hr.mono (by first | decide | omega)) rfl T.m_pool T.F_pool.kp T.B_pool pass0 (pa_lendC (pv 1) (pa_nilC)))))
    (ss_cons (s_set (ps_set (i := 4) sc_law.nd rfl (Or.inr rfl) (pf_ix (tmp_ok (pf_lst (pa_consF (pf_lst (pa_consF (c_ok pe_str (fun _ => .str _)) (pa_consF (c_ok pe_str (fun _ => .str _)) (pa_consF (c_ok pe_str (fun _ => .str _)) (pa_nilF))))) (pa_consF (pf_lst (pa_consF (c_ok pe_str (fun _ => .str _)) (pa_consF (c_ok pe_str (fun _ => .str _)) (pa_nilF)))) (pa_nilF))))) (tmp_ok (pf_call (ok_pick T) (hr.mono (by first | decide | omega)) rfl T.m_pick T.F_pick.kp T.B_pick pass0 (pa_lendC (pv 1) (pa_consC (aD_ok (c_ok pe_int (fun _ => .int _))) (pa_nilC))))))))
    (ss_cons (s_setLc (rng1 (tmpF (cF (.int 3)))) (nmT 6) (yesT) (callF (F_grown 30) (lendC 1 (consC (aD (op2 addO (tmpF (cF (.int 1))) (tmpF (callF F_pick (lendC 1 (consC (aD (cF (.int 7))) (nilC))))))) (consC (aD (cF (.int 5))) (consC (aD (varF 4)) (consC (aD (varF 3)) (nilC))))))) (i := 5) rfl sc_law.nd rfl rfl (sw_true rfl rfl rfl (by decide +kernel)) (i_rng1 rfl T.b_range (tmp_ok (c_ok pe_int (fun _ => .int _)))) (blkOk_by (N := N_law) (own := [("_law_j", 6)]) (sc := defScope s_law) (by decide +kernel)) (fun _ _ _ _ _ => g_name (pg_name (i := 6) sc_law.nd rfl (Or.inl rfl))) (fun _ _ _ _ _ => ts_yes) (fun _ _ _ _ _ => pf_call (ok_grown T 30) (hr.mono (by first | decide | omega)) rfl T.m_grown T.F_grown.kp T.B_grown pass0 (pa_lendC (pv 1) (pa_consC (aD_ok (pf_add (tmp_ok (c_ok pe_int (fun _ => .int _))) (tmp_ok (pf_call (ok_pick T) (hr.mono (by first | decide | omega)) rfl T.m_pick T.F_pick.kp T.B_pick pass0 (pa_lendC (pv 1) (pa_consC (aD_ok (c_ok pe_int (fun _ => .int _))) (pa_nilC))))))) (pa_consC (aD_ok (c_ok pe_int (fun _ => .int _))) (pa_consC (aD_ok (var_ok (pv 4))) (pa_consC (aD_ok (var_ok (pv 3))) (pa_nilC))))))) (by decide))
    (ss_cons (s_asg (ps_asg (var_ok (pv 5)) (g_tup rfl (gs_cons (g_name (pg_name (i := 7) sc_law.nd rfl (Or.inl rfl))) (gs_cons (g_name (pg_name (i := 8) sc_law.nd rfl (Or.inl rfl))) (gs_cons (g_name (pg_name (i := 9) sc_law.nd rfl (Or.inl rfl))) (gs_nil)))))))
    (ss_cons (s_set (ps_set (i := 10) sc_law.nd rfl (Or.inl rfl) (pf_ix (tmp_ok (pf_lst (pa_consF (var_ok (pv 3)) (pa_consF (c_ok pe_str (fun _ => .str _)) (pa_nilF))))) (tmp_ok (pf_call (ok_pick T) (hr.mono (by first | decide | omega)) rfl T.m_pick T.F_pick.kp T.B_pick pass0 (pa_lendC (pv 1) (pa_consC (aD_ok (c_ok pe_int (fun _ => .int _))) (pa_nilC))))))))
    (ss_cons (s_set (ps_set (i := 11) sc_law.nd rfl (Or.inl rfl) (pf_ixS (hu1 hr) (pv 10) (pf_call (ok_pick T) (hr.mono (by first | decide | omega)) rfl T.m_pick T.F_pick.kp T.B_pick pass0 (pa_lendC (pv 1) (pa_consC (aD_ok (bi1 call_len prim_len rfl T.b_len PySem.boot_len (slot_ok (pv 10)))) (pa_nilC)))))))
    (ss_cons (s_set (ps_set (i := 12) sc_law.nd rfl (Or.inl rfl) (pf_call (ok_put T 30) (hr.mono (by first | decide | omega)) rfl T.m_put T.F_put.kp T.B_put pass0 (pa_consC (aD_ok (var_ok (pv 7))) (pa_consC (aT_ok (pf_disp (ds_cons (var_ok (pv 11)) (var_ok (pv 8)) (ds_nil)) rfl rfl (fun z => by cases z))) (pa_nilC))))))
    (ss_cons (s_if (pt_notF (tru_ok' (tmp_ok (pf_call (ok_alike T 30) (hr.mono (by first | decide | omega)) rfl T.m_alike T.F_alike.kp T.B_alike pass0 (pa_consC (aD_ok (pf_call (ok_swapped T) (hr.mono (by first | decide | omega)) rfl T.m_swapped T.F_swapped.kp T.B_swapped pass0 (pa_consC (aD_ok (var_ok (pv 7))) (pa_consC (aD_ok (var_ok (pv 11))) (pa_consC (aD_ok (var_ok (pv 8))) (pa_nilC)))))) (pa_consC (aD_ok (var_ok (pv 12))) (pa_nilC)))))))
    (ss_one (s_ret (c_ok pe_bl (fun _ => .bl _))))
    (ss_nil))
    (ss_cons (s_if (pt_notF (tru_ok' (tmp_ok (pf_call (ok_alike T 30) (hr.mono (by first | decide | omega)) rfl T.m_alike T.F_alike.kp T.B_alike pass0 (pa_consC (aD_ok (pf_callKR (ok_swapped T) (hr.mono (by first | decide | omega)) rfl T.m_swapped T.F_swapped.kp T.KR_swapped pass0 (pk_consC (aD_ok (var_ok (pv 9))) (pk_consC (aD_ok (var_ok (pv 11))) (pk_consC (aD_ok (var_ok (pv 7))) (pk_nilC)))) defF_wants)) (pa_consC (aD_ok (pf_call (ok_put T 30) (hr.mono (by first | decide | omega)) rfl T.m_put T.F_put.kp T.B_put pass0 (pa_consC (aD_ok (var_ok (pv 7))) (pa_consC (aT_ok (pf_disp (ds_cons (var_ok (pv 11)) (var_ok (pv 9)) (ds_nil)) rfl rfl (fun z => by cases z))) (pa_nilC))))) (pa_nilC)))))))
    (ss_one (s_ret (c_ok pe_bl (fun _ => .bl _))))
    (ss_nil))
    (ss_cons (s_if (pt_notF (tru_ok' (tmp_ok (pf_call (ok_alike T 30) (hr.mono (by first | decide | omega)) rfl T.m_alike T.F_alike.kp T.B_alike pass0 (pa_consC (aD_ok (pf_call (ok_swapped T) (hr.mono (by first | decide | omega)) rfl T.m_swapped T.F_swapped.kp T.B_swapped pass0 (pa_consC (aD_ok (var_ok (pv 7))) (pa_consC (aD_ok (var_ok (pv 11))) (pa_consC (aD_ok (pf_tup (pa_consF (c_ok pe_str (fun _ => .str _)) (pa_consF (var_ok (pv 11)) (pa_nilF))))) (pa_nilC)))))) (pa_consC (aD_ok (var_ok (pv 7))) (pa_nilC)))))))
    (ss_one (s_ret (c_ok pe_bl (fun _ => .bl _))))
    (ss_nil))
    (ss_cons (s_if (pt_notF (tru_ok' (tmp_ok (pf_call (ok_alike T 30) (hr.mono (by first | decide | omega)) rfl T.m_alike T.F_alike.kp T.B_alike pass0 (pa_consC (aD_ok (pf_call (ok_swapped T) (hr.mono (by first | decide | omega)) rfl T.m_swapped T.F_swapped.kp T.B_swapped pass0 (pa_consC (aD_ok (pf_call (ok_turned T) (hr.mono (by first | decide | omega)) rfl T.m_turned T.F_turned.kp T.B_turned pass0 (pa_consC (aD_ok (var_ok (pv 7))) (pa_nilC)))) (pa_consC (aD_ok (var_ok (pv 11))) (pa_consC (aD_ok (pf_call (ok_turned T) (hr.mono (by first | decide | omega)) rfl T.m_turned T.F_turned.kp T.B_turned pass0 (pa_consC (aD_ok (var_ok (pv 8))) (pa_nilC)))) (pa_nilC)))))) (pa_consC (aD_ok (pf_call (ok_mirror T 30) (hr.mono (by first | decide | omega)) rfl T.m_mirror T.F_mirror.kp T.B_mirror pass0 (pa_consC (aD_ok (var_ok (pv 12))) (pa_nilC)))) (pa_nilC)))))))
    (ss_one (s_ret (c_ok pe_bl (fun _ => .bl _))))
    (ss_nil))
    (ss_cons (s_for PassesOwn.never rfl (i_seq (pf_lst (pa_consF (c_ok pe_bl (fun _ => .bl _)) (pa_consF (c_ok pe_bl (fun _ => .bl _)) (pa_nilF))))) (g_name (pg_name (i := 13) sc_law.nd rfl (Or.inl rfl)))
    (ss_cons (s_set (ps_set (i := 14) sc_law.nd rfl (Or.inl rfl) (pf_call (ok_lifted T) (hr.mono (by first | decide | omega)) rfl T.m_lifted T.F_lifted.kp T.B_lifted pass0 (pa_consC (aD_ok (var_ok (pv 7))) (pa_consC (aD_ok (var_ok (pv 8))) (pa_consC (aD_ok (var_ok (pv 13))) (pa_nilC)))))))
    (ss_cons (s_if (pt_notF (tru_ok' (tmp_ok (pf_call (ok_alike T 30) (hr.mono (by first | decide | omega)) rfl T.m_alike T.F_alike.kp T.B_alike pass0 (pa_consC (aD_ok (var_ok (pv 14))) (pa_consC (aD_ok (pf_call (ok_lift T) (hr.mono (by first | decide | omega)) rfl T.m_lift T.F_lift.kp T.B_lift pass0 (pa_consC (aD_ok (var_ok (pv 7))) (pa_consC (aD_ok (var_ok (pv 8))) (pa_consC (aD_ok (var_ok (pv 13))) (pa_nilC)))))) (pa_nilC)))))))
    (ss_one (s_ret (c_ok pe_bl (fun _ => .bl _))))
    (ss_nil))
    (ss_cons (s_set (ps_set (i := 14) sc_law.nd rfl (Or.inl rfl) (pf_callKR (ok_lifted T) (hr.mono (by first | decide | omega)) rfl T.m_lifted T.F_lifted.kp T.KR_lifted pass0 (pk_consC (aD_ok (var_ok (pv 13))) (pk_consC (aD_ok (pf_call (ok_turned T) (hr.mono (by first | decide | omega)) rfl T.m_turned T.F_turned.kp T.B_turned pass0 (pa_consC (aD_ok (var_ok (pv 8))) (pa_nilC)))) (pk_consC (aD_ok (pf_call (ok_turned T) (hr.mono (by first | decide | omega)) rfl T.m_turned T.F_turned.kp T.B_turned pass0 (pa_consC (aD_ok (var_ok (pv 7))) (pa_nilC)))) (pk_nilC)))) defF_wants)))
    (ss_one (s_if (pt_notF (tru_ok' (tmp_ok (pf_call (ok_alike T 30) (hr.mono (by first | decide | omega)) rfl T.m_alike T.F_alike.kp T.B_alike pass0 (pa_consC (aD_ok (var_ok (pv 14))) (pa_consC (aD_ok (pf_call (ok_mirror T 30) (hr.mono (by first | decide | omega)) rfl T.m_mirror T.F_mirror.kp T.B_mirror pass0 (pa_consC (aD_ok (pf_call (ok_lift T) (hr.mono (by first | decide | omega)) rfl T.m_lift T.F_lift.kp T.B_lift pass0 (pa_consC (aD_ok (var_ok (pv 7))) (pa_consC (aD_ok (var_ok (pv 8))) (pa_consC (aD_ok (pf_not (slot_ok (pv 13)))) (pa_nilC)))))) (pa_nilC)))) (pa_nilC)))))))
    (ss_one (s_ret (c_ok pe_bl (fun _ => .bl _))))
    (ss_nil)))))))
    (ss_one (s_if (PW.pt (pw_orF (pt_notF (tru_ok' (tmp_ok (pf_call (ok_alike T 30) (hr.mono (by first | decide | omega)) rfl T.m_alike T.F_alike.kp T.B_alike pass0 (pa_consC (aD_ok (pf_call (ok_swapped T) (hr.mono (by first | decide | omega)) rfl T.m_swapped T.F_swapped.kp T.B_swapped pass0 (pa_consC (aD_ok (var_ok (pv 7))) (pa_consC (aD_ok (var_ok (pv 11))) (pa_consC (aD_ok (var_ok (pv 8))) (pa_nilC)))))) (pa_consC (aD_ok (var_ok (pv 12))) (pa_nilC))))))) (pw_orF1 (pt_notF (tru_ok' (tmp_ok (pf_call (ok_small T) (hr.mono (by first | decide | omega)) rfl T.m_small T.F_small.kp T.B_small pass0 (pa_lendC (pv 1) (pa_consC (aD_ok (var_ok (pv 3))) (pa_nilC))))))))))
    (ss_one (s_ret (c_ok pe_bl (fun _ => .bl _))))
    (ss_nil))))))))))))))))
    (ss_one (s_ret (c_ok pe_bl (fun _ => .bl _))))), def0 (body := B_law_k03) rfl h (by decide)⟩)
end
end Nk03

namespace Nk03
open PySem PySem.Spec PyProof.Rows L2 Ww Vs Fn
theorem all_mk {P : Program} {w : World} {K : PySem.W.Frag} {h : Heap} {mg : Str → Option Value} {fa : Addr} (X : K.In h) (G : h.Ns mainGlobals mg) (hfa : mg "law" = some (.ref fa))
    {od0 an0 : Option Addr} {sl0 : Array (Option Value)} {oc0 kV0 dc0 pm0 cd0 ct0 : Value} {f0 : Addr}
    (a0 : PySem.W.nsIn K mainGlobals "_law_alike" = some (some (.ref f0))) (l0 : K.lookup f0 = some ⟨oc0, od0, .func (PySem.W.fnOf "_law_alike" "_law_alike" (defArgs s_alike) (defBody s_alike) (defScope s_alike) .none kV0 dc0 pm0 an0 cd0 ct0), sl0⟩) (c0 : PySem.W.codeIn K cd0 "_law_alike" = true) (k0 : PySem.W.keepIn K (.ref f0) = true)
    {od1 an1 : Option Addr} {sl1 : Array (Option Value)} {oc1 kV1 dc1 pm1 cd1 ct1 : Value} {f1 : Addr}
    (a1 : PySem.W.nsIn K mainGlobals "_law_begun" = some (some (.ref f1))) (l1 : K.lookup f1 = some ⟨oc1, od1, .func (PySem.W.fnOf "_law_begun" "_law_begun" (defArgs s_begun) (defBody s_begun) (defScope s_begun) .none kV1 dc1 pm1 an1 cd1 ct1), sl1⟩) (c1 : PySem.W.codeIn K cd1 "_law_begun" = true) (k1 : PySem.W.keepIn K (.ref f1) = true)
    {od2 an2 : Option Addr} {sl2 : Array (Option Value)} {oc2 kV2 dc2 pm2 cd2 ct2 : Value} {f2 : Addr}
    (a2 : PySem.W.nsIn K mainGlobals "_law_pick" = some (some (.ref f2))) (l2 : K.lookup f2 = some ⟨oc2, od2, .func (PySem.W.fnOf "_law_pick" "_law_pick" (defArgs s_pick) (defBody s_pick) (defScope s_pick) .none kV2 dc2 pm2 an2 cd2 ct2), sl2⟩) (c2 : PySem.W.codeIn K cd2 "_law_pick" = true) (k2 : PySem.W.keepIn K (.ref f2) = true)
    {od3 an3 : Option Addr} {sl3 : Array (Option Value)} {oc3 kV3 dc3 pm3 cd3 ct3 : Value} {f3 : Addr}
    (a3 : PySem.W.nsIn K mainGlobals "_law_grown" = some (some (.ref f3))) (l3 : K.lookup f3 = some ⟨oc3, od3, .func (PySem.W.fnOf "_law_grown" "_law_grown" (defArgs s_grown) (defBody s_grown) (defScope s_grown) .none kV3 dc3 pm3 an3 cd3 ct3), sl3⟩) (c3 : PySem.W.codeIn K cd3 "_law_grown" = true) (k3 : PySem.W.keepIn K (.ref f3) = true)
    {od4 an4 : Option Addr} {sl4 : Array (Option Value)} {oc4 kV4 dc4 pm4 cd4 ct4 : Value} {f4 : Addr}
    (a4 : PySem.W.nsIn K mainGlobals "_law_lift" = some (some (.ref f4))) (l4 : K.lookup f4 = some ⟨oc4, od4, .func (PySem.W.fnOf "_law_lift" "_law_lift" (defArgs s_lift) (defBody s_lift) (defScope s_lift) .none kV4 dc4 pm4 an4 cd4 ct4), sl4⟩) (c4 : PySem.W.codeIn K cd4 "_law_lift" = true) (k4 : PySem.W.keepIn K (.ref f4) = true)
    {od5 an5 : Option Addr} {sl5 : Array (Option Value)} {oc5 kV5 dc5 pm5 cd5 ct5 : Value} {f5 : Addr}
    (a5 : PySem.W.nsIn K mainGlobals "_law_mirror" = some (some (.ref f5))) (l5 : K.lookup f5 = some ⟨oc5, od5, .func (PySem.W.fnOf "_law_mirror" "_law_mirror" (defArgs s_mirror) (defBody s_mirror) (defScope s_mirror) .none kV5 dc5 pm5 an5 cd5 ct5), sl5⟩) (c5 : PySem.W.codeIn K cd5 "_law_mirror" = true) (k5 : PySem.W.keepIn K (.ref f5) = true)
    {od6 an6 : Option Addr} {sl6 : Array (Option Value)} {oc6 kV6 dc6 pm6 cd6 ct6 : Value} {f6 : Addr}
    (a6 : PySem.W.nsIn K mainGlobals "_law_pool" = some (some (.ref f6))) (l6 : K.lookup f6 = some ⟨oc6, od6, .func (PySem.W.fnOf "_law_pool" "_law_pool" (defArgs s_pool) (defBody s_pool) (defScope s_pool) .none kV6 dc6 pm6 an6 cd6 ct6), sl6⟩) (c6 : PySem.W.codeIn K cd6 "_law_pool" = true) (k6 : PySem.W.keepIn K (.ref f6) = true)
    {od7 an7 : Option Addr} {sl7 : Array (Option Value)} {oc7 kV7 dc7 pm7 cd7 ct7 : Value} {f7 : Addr}
    (a7 : PySem.W.nsIn K mainGlobals "_law_put" = some (some (.ref f7))) (l7 : K.lookup f7 = some ⟨oc7, od7, .func (PySem.W.fnOf "_law_put" "_law_put" (defArgs s_put) (defBody s_put) (defScope s_put) .none kV7 dc7 pm7 an7 cd7 ct7), sl7⟩) (c7 : PySem.W.codeIn K cd7 "_law_put" = true) (k7 : PySem.W.keepIn K (.ref f7) = true)
    {od8 an8 : Option Addr} {sl8 : Array (Option Value)} {oc8 kV8 dc8 pm8 cd8 ct8 : Value} {f8 : Addr}
    (a8 : PySem.W.nsIn K mainGlobals "_law_flipped" = some (some (.ref f8))) (l8 : K.lookup f8 = some ⟨oc8, od8, .func (PySem.W.fnOf "_law_flipped" "_law_flipped" (defArgs s_flipped) (defBody s_flipped) (defScope s_flipped) .none kV8 dc8 pm8 an8 cd8 ct8), sl8⟩) (c8 : PySem.W.codeIn K cd8 "_law_flipped" = true) (k8 : PySem.W.keepIn K (.ref f8) = true)
    {od9 an9 : Option Addr} {sl9 : Array (Option Value)} {oc9 kV9 dc9 pm9 cd9 ct9 : Value} {f9 : Addr}
    (a9 : PySem.W.nsIn K mainGlobals "_law_undone" = some (some (.ref f9))) (l9 : K.lookup f9 = some ⟨oc9, od9, .func (PySem.W.fnOf "_law_undone" "_law_undone" (defArgs s_undone) (defBody s_undone) (defScope s_undone) .none kV9 dc9 pm9 an9 cd9 ct9), sl9⟩) (c9 : PySem.W.codeIn K cd9 "_law_undone" = true) (k9 : PySem.W.keepIn K (.ref f9) = true)
    {od10 an10 : Option Addr} {sl10 : Array (Option Value)} {oc10 kV10 dc10 pm10 cd10 ct10 : Value} {f10 : Addr}
    (a10 : PySem.W.nsIn K mainGlobals "_law_line" = some (some (.ref f10))) (l10 : K.lookup f10 = some ⟨oc10, od10, .func (PySem.W.fnOf "_law_line" "_law_line" (defArgs s_line) (defBody s_line) (defScope s_line) .none kV10 dc10 pm10 an10 cd10 ct10), sl10⟩) (c10 : PySem.W.codeIn K cd10 "_law_line" = true) (k10 : PySem.W.keepIn K (.ref f10) = true)
    {od11 an11 : Option Addr} {sl11 : Array (Option Value)} {oc11 kV11 dc11 pm11 cd11 ct11 : Value} {f11 : Addr}
    (a11 : PySem.W.nsIn K mainGlobals "_law_pairs" = some (some (.ref f11))) (l11 : K.lookup f11 = some ⟨oc11, od11, .func (PySem.W.fnOf "_law_pairs" "_law_pairs" (defArgs s_pairs) (defBody s_pairs) (defScope s_pairs) .none kV11 dc11 pm11 an11 cd11 ct11), sl11⟩) (c11 : PySem.W.codeIn K cd11 "_law_pairs" = true) (k11 : PySem.W.keepIn K (.ref f11) = true)
    {od12 an12 : Option Addr} {sl12 : Array (Option Value)} {oc12 kV12 dc12 pm12 cd12 ct12 : Value} {f12 : Addr}
    (a12 : PySem.W.nsIn K mainGlobals "_law_rest" = some (some (.ref f12))) (l12 : K.lookup f12 = some ⟨oc12, od12, .func (PySem.W.fnOf "_law_rest" "_law_rest" (defArgs s_rest) (defBody s_rest) (defScope s_rest) .none kV12 dc12 pm12 an12 cd12 ct12), sl12⟩) (c12 : PySem.W.codeIn K cd12 "_law_rest" = true) (k12 : PySem.W.keepIn K (.ref f12) = true)
    {od13 an13 : Option Addr} {sl13 : Array (Option Value)} {oc13 kV13 dc13 pm13 cd13 ct13 : Value} {f13 : Addr}
    (a13 : PySem.W.nsIn K mainGlobals "_law_sums" = some (some (.ref f13))) (l13 : K.lookup f13 = some ⟨oc13, od13, .func (PySem.W.fnOf "_law_sums" "_law_sums" (defArgs s_sums) (defBody s_sums) (defScope s_sums) .none kV13 dc13 pm13 an13 cd13 ct13), sl13⟩) (c13 : PySem.W.codeIn K cd13 "_law_sums" = true) (k13 : PySem.W.keepIn K (.ref f13) = true)
    {od14 an14 : Option Addr} {sl14 : Array (Option Value)} {oc14 kV14 dc14 pm14 cd14 ct14 : Value} {f14 : Addr}
    (a14 : PySem.W.nsIn K mainGlobals "_law_places" = some (some (.ref f14))) (l14 : K.lookup f14 = some ⟨oc14, od14, .func (PySem.W.fnOf "_law_places" "_law_places" (defArgs s_places) (defBody s_places) (defScope s_places) .none kV14 dc14 pm14 an14 cd14 ct14), sl14⟩) (c14 : PySem.W.codeIn K cd14 "_law_places" = true) (k14 : PySem.W.keepIn K (.ref f14) = true)
    {od15 an15 : Option Addr} {sl15 : Array (Option Value)} {oc15 kV15 dc15 pm15 cd15 ct15 : Value} {f15 : Addr}
    (a15 : PySem.W.nsIn K mainGlobals "_law_within" = some (some (.ref f15))) (l15 : K.lookup f15 = some ⟨oc15, od15, .func (PySem.W.fnOf "_law_within" "_law_within" (defArgs s_within) (defBody s_within) (defScope s_within) .none kV15 dc15 pm15 an15 cd15 ct15), sl15⟩) (c15 : PySem.W.codeIn K cd15 "_law_within" = true) (k15 : PySem.W.keepIn K (.ref f15) = true)
    {od16 an16 : Option Addr} {sl16 : Array (Option Value)} {oc16 kV16 dc16 pm16 cd16 ct16 : Value} {f16 : Addr}
    (a16 : PySem.W.nsIn K mainGlobals "is_letter" = some (some (.ref f16))) (l16 : K.lookup f16 = some ⟨oc16, od16, .func (PySem.W.fnOf "is_letter" "is_letter" (defArgs s_is_letter) (defBody s_is_letter) (defScope s_is_letter) .none kV16 dc16 pm16 an16 cd16 ct16), sl16⟩) (c16 : PySem.W.codeIn K cd16 "is_letter" = true) (k16 : PySem.W.keepIn K (.ref f16) = true)
    {od17 an17 : Option Addr} {sl17 : Array (Option Value)} {oc17 kV17 dc17 pm17 cd17 ct17 : Value} {f17 : Addr}
    (a17 : PySem.W.nsIn K mainGlobals "wrong_part" = some (some (.ref f17))) (l17 : K.lookup f17 = some ⟨oc17, od17, .func (PySem.W.fnOf "wrong_part" "wrong_part" (defArgs s_wrong_part) (defBody s_wrong_part) (defScope s_wrong_part) .none kV17 dc17 pm17 an17 cd17 ct17), sl17⟩) (c17 : PySem.W.codeIn K cd17 "wrong_part" = true) (k17 : PySem.W.keepIn K (.ref f17) = true)
    {od18 an18 : Option Addr} {sl18 : Array (Option Value)} {oc18 kV18 dc18 pm18 cd18 ct18 : Value} {f18 : Addr}
    (a18 : PySem.W.nsIn K mainGlobals "checked_kind" = some (some (.ref f18))) (l18 : K.lookup f18 = some ⟨oc18, od18, .func (PySem.W.fnOf "checked_kind" "checked_kind" (defArgs s_checked_kind) (defBody s_checked_kind) (defScope s_checked_kind) .none kV18 dc18 pm18 an18 cd18 ct18), sl18⟩) (c18 : PySem.W.codeIn K cd18 "checked_kind" = true) (k18 : PySem.W.keepIn K (.ref f18) = true)
    {od19 an19 : Option Addr} {sl19 : Array (Option Value)} {oc19 kV19 dc19 pm19 cd19 ct19 : Value} {f19 : Addr}
    (a19 : PySem.W.nsIn K mainGlobals "checked_kinds" = some (some (.ref f19))) (l19 : K.lookup f19 = some ⟨oc19, od19, .func (PySem.W.fnOf "checked_kinds" "checked_kinds" (defArgs s_checked_kinds) (defBody s_checked_kinds) (defScope s_checked_kinds) .none kV19 dc19 pm19 an19 cd19 ct19), sl19⟩) (c19 : PySem.W.codeIn K cd19 "checked_kinds" = true) (k19 : PySem.W.keepIn K (.ref f19) = true)
    {od20 an20 : Option Addr} {sl20 : Array (Option Value)} {oc20 kV20 dc20 pm20 cd20 ct20 : Value} {f20 : Addr}
    (a20 : PySem.W.nsIn K mainGlobals "checked_row" = some (some (.ref f20))) (l20 : K.lookup f20 = some ⟨oc20, od20, .func (PySem.W.fnOf "checked_row" "checked_row" (defArgs s_checked_row) (defBody s_checked_row) (defScope s_checked_row) .none kV20 dc20 pm20 an20 cd20 ct20), sl20⟩) (c20 : PySem.W.codeIn K cd20 "checked_row" = true) (k20 : PySem.W.keepIn K (.ref f20) = true)
    {od21 an21 : Option Addr} {sl21 : Array (Option Value)} {oc21 kV21 dc21 pm21 cd21 ct21 : Value} {f21 : Addr}
    (a21 : PySem.W.nsIn K mainGlobals "signed" = some (some (.ref f21))) (l21 : K.lookup f21 = some ⟨oc21, od21, .func (PySem.W.fnOf "signed" "signed" (defArgs s_signed) (defBody s_signed) (defScope s_signed) .none kV21 dc21 pm21 an21 cd21 ct21), sl21⟩) (c21 : PySem.W.codeIn K cd21 "signed" = true) (k21 : PySem.W.keepIn K (.ref f21) = true)
    {od22 an22 : Option Addr} {sl22 : Array (Option Value)} {oc22 kV22 dc22 pm22 cd22 ct22 : Value} {f22 : Addr}
    (a22 : PySem.W.nsIn K mainGlobals "row_signed" = some (some (.ref f22))) (l22 : K.lookup f22 = some ⟨oc22, od22, .func (PySem.W.fnOf "row_signed" "row_signed" (defArgs s_row_signed) (defBody s_row_signed) (defScope s_row_signed) .none kV22 dc22 pm22 an22 cd22 ct22), sl22⟩) (c22 : PySem.W.codeIn K cd22 "row_signed" = true) (k22 : PySem.W.keepIn K (.ref f22) = true)
    {od23 an23 : Option Addr} {sl23 : Array (Option Value)} {oc23 kV23 dc23 pm23 cd23 ct23 : Value} {f23 : Addr}
    (a23 : PySem.W.nsIn K mainGlobals "balance" = some (some (.ref f23))) (l23 : K.lookup f23 = some ⟨oc23, od23, .func (PySem.W.fnOf "balance" "balance" (defArgs s_balance) (defBody s_balance) (defScope s_balance) .none kV23 dc23 pm23 an23 cd23 ct23), sl23⟩) (c23 : PySem.W.codeIn K cd23 "balance" = true) (k23 : PySem.W.keepIn K (.ref f23) = true)
    {od24 an24 : Option Addr} {sl24 : Array (Option Value)} {oc24 kV24 dc24 pm24 cd24 ct24 : Value} {f24 : Addr}
    (a24 : PySem.W.nsIn K mainGlobals "lifted" = some (some (.ref f24))) (l24 : K.lookup f24 = some ⟨oc24, od24, .func (PySem.W.fnOf "lifted" "lifted" (defArgs s_lifted) (defBody s_lifted) (defScope s_lifted) .none kV24 dc24 pm24 an24 cd24 ct24), sl24⟩) (c24 : PySem.W.codeIn K cd24 "lifted" = true) (k24 : PySem.W.keepIn K (.ref f24) = true)
    {od25 an25 : Option Addr} {sl25 : Array (Option Value)} {oc25 kV25 dc25 pm25 cd25 ct25 : Value} {f25 : Addr}
    (a25 : PySem.W.nsIn K mainGlobals "check_letter" = some (some (.ref f25))) (l25 : K.lookup f25 = some ⟨oc25, od25, .func (PySem.W.fnOf "check_letter" "check_letter" (defArgs s_check_letter) (defBody s_check_letter) (defScope s_check_letter) .none kV25 dc25 pm25 an25 cd25 ct25), sl25⟩) (c25 : PySem.W.codeIn K cd25 "check_letter" = true) (k25 : PySem.W.keepIn K (.ref f25) = true)
    {od26 an26 : Option Addr} {sl26 : Array (Option Value)} {oc26 kV26 dc26 pm26 cd26 ct26 : Value} {f26 : Addr}
    (a26 : PySem.W.nsIn K mainGlobals "put_all" = some (some (.ref f26))) (l26 : K.lookup f26 = some ⟨oc26, od26, .func (PySem.W.fnOf "put_all" "put_all" (defArgs s_put_all) (defBody s_put_all) (defScope s_put_all) .none kV26 dc26 pm26 an26 cd26 ct26), sl26⟩) (c26 : PySem.W.codeIn K cd26 "put_all" = true) (k26 : PySem.W.keepIn K (.ref f26) = true)
    {od27 an27 : Option Addr} {sl27 : Array (Option Value)} {oc27 kV27 dc27 pm27 cd27 ct27 : Value} {f27 : Addr}
    (a27 : PySem.W.nsIn K mainGlobals "swapped" = some (some (.ref f27))) (l27 : K.lookup f27 = some ⟨oc27, od27, .func (PySem.W.fnOf "swapped" "swapped" (defArgs s_swapped) (defBody s_swapped) (defScope s_swapped) .none kV27 dc27 pm27 an27 cd27 ct27), sl27⟩) (c27 : PySem.W.codeIn K cd27 "swapped" = true) (k27 : PySem.W.keepIn K (.ref f27) = true)
    {od28 an28 : Option Addr} {sl28 : Array (Option Value)} {oc28 kV28 dc28 pm28 cd28 ct28 : Value} {f28 : Addr}
    (a28 : PySem.W.nsIn K mainGlobals "cancelled" = some (some (.ref f28))) (l28 : K.lookup f28 = some ⟨oc28, od28, .func (PySem.W.fnOf "cancelled" "cancelled" (defArgs s_cancelled) (defBody s_cancelled) (defScope s_cancelled) .none kV28 dc28 pm28 an28 cd28 ct28), sl28⟩) (c28 : PySem.W.codeIn K cd28 "cancelled" = true) (k28 : PySem.W.keepIn K (.ref f28) = true)
    {od29 an29 : Option Addr} {sl29 : Array (Option Value)} {oc29 kV29 dc29 pm29 cd29 ct29 : Value} {f29 : Addr}
    (a29 : PySem.W.nsIn K mainGlobals "word" = some (some (.ref f29))) (l29 : K.lookup f29 = some ⟨oc29, od29, .func (PySem.W.fnOf "word" "word" (defArgs s_word) (defBody s_word) (defScope s_word) .none kV29 dc29 pm29 an29 cd29 ct29), sl29⟩) (c29 : PySem.W.codeIn K cd29 "word" = true) (k29 : PySem.W.keepIn K (.ref f29) = true)
    {od30 an30 : Option Addr} {sl30 : Array (Option Value)} {oc30 kV30 dc30 pm30 cd30 ct30 : Value} {f30 : Addr}
    (a30 : PySem.W.nsIn K mainGlobals "_law_small" = some (some (.ref f30))) (l30 : K.lookup f30 = some ⟨oc30, od30, .func (PySem.W.fnOf "_law_small" "_law_small" (defArgs s_small) (defBody s_small) (defScope s_small) .none kV30 dc30 pm30 an30 cd30 ct30), sl30⟩) (c30 : PySem.W.codeIn K cd30 "_law_small" = true) (k30 : PySem.W.keepIn K (.ref f30) = true)
    {od31 an31 : Option Addr} {sl31 : Array (Option Value)} {oc31 kV31 dc31 pm31 cd31 ct31 : Value} {f31 : Addr}
    (a31 : PySem.W.nsIn K mainGlobals "turned_kind" = some (some (.ref f31))) (l31 : K.lookup f31 = some ⟨oc31, od31, .func (PySem.W.fnOf "turned_kind" "turned_kind" (defArgs s_turned_kind) (defBody s_turned_kind) (defScope s_turned_kind) .none kV31 dc31 pm31 an31 cd31 ct31), sl31⟩) (c31 : PySem.W.codeIn K cd31 "turned_kind" = true) (k31 : PySem.W.keepIn K (.ref f31) = true)
    {od32 an32 : Option Addr} {sl32 : Array (Option Value)} {oc32 kV32 dc32 pm32 cd32 ct32 : Value} {f32 : Addr}
    (a32 : PySem.W.nsIn K mainGlobals "turned" = some (some (.ref f32))) (l32 : K.lookup f32 = some ⟨oc32, od32, .func (PySem.W.fnOf "turned" "turned" (defArgs s_turned) (defBody s_turned) (defScope s_turned) .none kV32 dc32 pm32 an32 cd32 ct32), sl32⟩) (c32 : PySem.W.codeIn K cd32 "turned" = true) (k32 : PySem.W.keepIn K (.ref f32) = true)
    {od33 an33 : Option Addr} {sl33 : Array (Option Value)} {oc33 kV33 dc33 pm33 cd33 ct33 : Value} {f33 : Addr}
    (a33 : PySem.W.nsIn K mainGlobals "law" = some (some (.ref f33))) (l33 : K.lookup f33 = some ⟨oc33, od33, .func (PySem.W.fnOf "law" "law" (defArgs s_law) (defBody s_law) (defScope s_law) .none kV33 dc33 pm33 an33 cd33 ct33), sl33⟩) (c33 : PySem.W.codeIn K cd33 "law" = true) (k33 : PySem.W.keepIn K (.ref f33) = true)
    (z_bool : PySem.W.nsIn K mainGlobals "bool" = some none)
    (z_int : PySem.W.nsIn K mainGlobals "int" = some none)
    (z_isinstance : PySem.W.nsIn K mainGlobals "isinstance" = some none)
    (z_len : PySem.W.nsIn K mainGlobals "len" = some none)
    (z_list : PySem.W.nsIn K mainGlobals "list" = some none)
    (z_max : PySem.W.nsIn K mainGlobals "max" = some none)
    (z_range : PySem.W.nsIn K mainGlobals "range" = some none)
    (z_set : PySem.W.nsIn K mainGlobals "set" = some none)
    (z_sorted : PySem.W.nsIn K mainGlobals "sorted" = some none)
    (z_str : PySem.W.nsIn K mainGlobals "str" = some none)
    (z_sum : PySem.W.nsIn K mainGlobals "sum" = some none)
    (z_tuple : PySem.W.nsIn K mainGlobals "tuple" = some none)
    (z_zip : PySem.W.nsIn K mainGlobals "zip" = some none)
    {t_LETTERS : Tok} (g_LETTERS : PySem.W.nsIn K mainGlobals "LETTERS" = some (some (.str "abcdefghijklmnopqrstuvwxyz" t_LETTERS)))
    {o_TURNS : Addr} {e_TURNS : Array DictEntry} {n_TURNS : Nat} (g_TURNS : PySem.W.nsIn K mainGlobals "TURNS" = some (some (.ref o_TURNS))) (l_TURNS : K.lookup o_TURNS = some ⟨.type "dict", none, .dict e_TURNS n_TURNS, #[]⟩) (i_TURNS : PySem.W.KeysLit w.params e_TURNS.toList) (j_TURNS : (o_TURNS == sysModules) = false)
    {t0_TURNS : Tok} (v0_TURNS : PySem.W.nsIn K o_TURNS "behind" = some (some (.str "ahead" t0_TURNS)))
    {t1_TURNS : Tok} (v1_TURNS : PySem.W.nsIn K o_TURNS "ahead" = some (some (.str "behind" t1_TURNS)))
    {t2_TURNS : Tok} (v2_TURNS : PySem.W.nsIn K o_TURNS "with" = some (some (.str "with" t2_TURNS)))
    : ∃ fd : FuncData, (∀ (s : Shared) (v : Value), BindsTo s fd ⟨[v], []⟩ [("_law_script", v)]) ∧ ∀ base : Heap, K.In base → base.Ns mainGlobals mg → FnOk P w K mg base CX0 37 fa fd ["_law_script"] (spLaw K) := by
  have e := hfa.symm.trans (PySem.W.mg_of X G a33)
  cases e
  let T : Txt w K mg := {
    a_alike := f0, d_alike := _, F_alike := (fun_mk (st := s_alike) l0 c0 k0), m_alike := PySem.W.mg_of X G a0, B_alike := (fun_mk (st := s_alike) l0 c0 k0).binds (ps := P_alike) (fun _ _ _ _ _ _ us hl => match us, hl with | [_, _], _ => rfl),
    a_begun := f1, d_begun := _, F_begun := (fun_mk (st := s_begun) l1 c1 k1), m_begun := PySem.W.mg_of X G a1, B_begun := (fun_mk (st := s_begun) l1 c1 k1).binds (ps := P_begun) (fun _ _ _ _ _ _ us hl => match us, hl with | [_], _ => rfl),
    a_pick := f2, d_pick := _, F_pick := (fun_mk (st := s_pick) l2 c2 k2), m_pick := PySem.W.mg_of X G a2, B_pick := (fun_mk (st := s_pick) l2 c2 k2).binds (ps := P_pick) (fun _ _ _ _ _ _ us hl => match us, hl with | [_, _], _ => rfl),
    a_grown := f3, d_grown := _, F_grown := (fun_mk (st := s_grown) l3 c3 k3), m_grown := PySem.W.mg_of X G a3, B_grown := (fun_mk (st := s_grown) l3 c3 k3).binds (ps := P_grown) (fun _ _ _ _ _ _ us hl => match us, hl with | [_, _, _, _, _], _ => rfl),
    a_lift := f4, d_lift := _, F_lift := (fun_mk (st := s_lift) l4 c4 k4), m_lift := PySem.W.mg_of X G a4, B_lift := (fun_mk (st := s_lift) l4 c4 k4).binds (ps := P_lift) (fun _ _ _ _ _ _ us hl => match us, hl with | [_, _, _], _ => rfl),
    a_mirror := f5, d_mirror := _, F_mirror := (fun_mk (st := s_mirror) l5 c5 k5), m_mirror := PySem.W.mg_of X G a5, B_mirror := (fun_mk (st := s_mirror) l5 c5 k5).binds (ps := P_mirror) (fun _ _ _ _ _ _ us hl => match us, hl with | [_], _ => rfl),
    a_pool := f6, d_pool := _, F_pool := (fun_mk (st := s_pool) l6 c6 k6), m_pool := PySem.W.mg_of X G a6, B_pool := (fun_mk (st := s_pool) l6 c6 k6).binds (ps := P_pool) (fun _ _ _ _ _ _ us hl => match us, hl with | [_], _ => rfl),
    a_put := f7, d_put := _, F_put := (fun_mk (st := s_put) l7 c7 k7), m_put := PySem.W.mg_of X G a7, B_put := (fun_mk (st := s_put) l7 c7 k7).binds (ps := P_put) (fun _ _ _ _ _ _ us hl => match us, hl with | [_, _], _ => rfl),
    a_flipped := f8, d_flipped := _, F_flipped := (fun_mk (st := s_flipped) l8 c8 k8), m_flipped := PySem.W.mg_of X G a8, B_flipped := (fun_mk (st := s_flipped) l8 c8 k8).binds (ps := P_flipped) (fun _ _ _ _ _ _ us hl => match us, hl with | [_], _ => rfl),
    a_undone := f9, d_undone := _, F_undone := (fun_mk (st := s_undone) l9 c9 k9), m_undone := PySem.W.mg_of X G a9, B_undone := (fun_mk (st := s_undone) l9 c9 k9).binds (ps := P_undone) (fun _ _ _ _ _ _ us hl => match us, hl with | [_], _ => rfl),
    a_line := f10, d_line := _, F_line := (fun_mk (st := s_line) l10 c10 k10), m_line := PySem.W.mg_of X G a10, B_line := (fun_mk (st := s_line) l10 c10 k10).binds (ps := P_line) (fun _ _ _ _ _ _ us hl => match us, hl with | [_], _ => rfl),
    a_pairs := f11, d_pairs := _, F_pairs := (fun_mk (st := s_pairs) l11 c11 k11), m_pairs := PySem.W.mg_of X G a11, B_pairs := (fun_mk (st := s_pairs) l11 c11 k11).binds (ps := P_pairs) (fun _ _ _ _ _ _ us hl => match us, hl with | [_], _ => rfl),
    a_rest := f12, d_rest := _, F_rest := (fun_mk (st := s_rest) l12 c12 k12), m_rest := PySem.W.mg_of X G a12, B_rest := (fun_mk (st := s_rest) l12 c12 k12).binds (ps := P_rest) (fun _ _ _ _ _ _ us hl => match us, hl with | [_], _ => rfl),
    a_sums := f13, d_sums := _, F_sums := (fun_mk (st := s_sums) l13 c13 k13), m_sums := PySem.W.mg_of X G a13, B_sums := (fun_mk (st := s_sums) l13 c13 k13).binds (ps := P_sums) (fun _ _ _ _ _ _ us hl => match us, hl with | [_], _ => rfl),
    a_places := f14, d_places := _, F_places := (fun_mk (st := s_places) l14 c14 k14), m_places := PySem.W.mg_of X G a14, B_places := (fun_mk (st := s_places) l14 c14 k14).binds (ps := P_places) (fun _ _ _ _ _ _ us hl => match us, hl with | [_], _ => rfl),
    a_within := f15, d_within := _, F_within := (fun_mk (st := s_within) l15 c15 k15), m_within := PySem.W.mg_of X G a15, B_within := (fun_mk (st := s_within) l15 c15 k15).binds (ps := P_within) (fun _ _ _ _ _ _ us hl => match us, hl with | [_], _ => rfl),
    a_is_letter := f16, d_is_letter := _, F_is_letter := (fun_mk (st := s_is_letter) l16 c16 k16), m_is_letter := PySem.W.mg_of X G a16, B_is_letter := (fun_mk (st := s_is_letter) l16 c16 k16).binds (ps := P_is_letter) (fun _ _ _ _ _ _ us hl => match us, hl with | [_], _ => rfl),
    a_wrong_part := f17, d_wrong_part := _, F_wrong_part := (fun_mk (st := s_wrong_part) l17 c17 k17), m_wrong_part := PySem.W.mg_of X G a17, B_wrong_part := (fun_mk (st := s_wrong_part) l17 c17 k17).binds (ps := P_wrong_part) (fun _ _ _ _ _ _ us hl => match us, hl with | [_], _ => rfl),
    a_checked_kind := f18, d_checked_kind := _, F_checked_kind := (fun_mk (st := s_checked_kind) l18 c18 k18), m_checked_kind := PySem.W.mg_of X G a18, B_checked_kind := (fun_mk (st := s_checked_kind) l18 c18 k18).binds (ps := P_checked_kind) (fun _ _ _ _ _ _ us hl => match us, hl with | [_], _ => rfl),
    a_checked_kinds := f19, d_checked_kinds := _, F_checked_kinds := (fun_mk (st := s_checked_kinds) l19 c19 k19), m_checked_kinds := PySem.W.mg_of X G a19, B_checked_kinds := (fun_mk (st := s_checked_kinds) l19 c19 k19).binds (ps := P_checked_kinds) (fun _ _ _ _ _ _ us hl => match us, hl with | [_], _ => rfl),
    a_checked_row := f20, d_checked_row := _, F_checked_row := (fun_mk (st := s_checked_row) l20 c20 k20), m_checked_row := PySem.W.mg_of X G a20, B_checked_row := (fun_mk (st := s_checked_row) l20 c20 k20).binds (ps := P_checked_row) (fun _ _ _ _ _ _ us hl => match us, hl with | [_], _ => rfl),
    a_signed := f21, d_signed := _, F_signed := (fun_mk (st := s_signed) l21 c21 k21), m_signed := PySem.W.mg_of X G a21, B_signed := (fun_mk (st := s_signed) l21 c21 k21).binds (ps := P_signed) (fun _ _ _ _ _ _ us hl => match us, hl with | [_, _], _ => rfl),
    a_row_signed := f22, d_row_signed := _, F_row_signed := (fun_mk (st := s_row_signed) l22 c22 k22), m_row_signed := PySem.W.mg_of X G a22, B_row_signed := (fun_mk (st := s_row_signed) l22 c22 k22).binds (ps := P_row_signed) (fun _ _ _ _ _ _ us hl => match us, hl with | [_], _ => rfl),
    a_balance := f23, d_balance := _, F_balance := (fun_mk (st := s_balance) l23 c23 k23), m_balance := PySem.W.mg_of X G a23, B_balance := (fun_mk (st := s_balance) l23 c23 k23).binds (ps := P_balance) (fun _ _ _ _ _ _ us hl => match us, hl with | [_], _ => rfl),
    a_lifted := f24, d_lifted := _, F_lifted := (fun_mk (st := s_lifted) l24 c24 k24), m_lifted := PySem.W.mg_of X G a24, B_lifted := (fun_mk (st := s_lifted) l24 c24 k24).binds (ps := P_lifted) (fun _ _ _ _ _ _ us hl => match us, hl with | [_, _, _], _ => rfl),
    KR_lifted := kb_rev (fun_mk (st := s_lifted) l24 c24 k24) (fun _ _ _ _ _ _ us hl => match us, hl with | [_, _, _], _ => rfl),
    a_check_letter := f25, d_check_letter := _, F_check_letter := (fun_mk (st := s_check_letter) l25 c25 k25), m_check_letter := PySem.W.mg_of X G a25, B_check_letter := (fun_mk (st := s_check_letter) l25 c25 k25).binds (ps := P_check_letter) (fun _ _ _ _ _ _ us hl => match us, hl with | [_], _ => rfl),
    a_put_all := f26, d_put_all := _, F_put_all := (fun_mk (st := s_put_all) l26 c26 k26), m_put_all := PySem.W.mg_of X G a26, B_put_all := (fun_mk (st := s_put_all) l26 c26 k26).binds (ps := P_put_all) (fun _ _ _ _ _ _ us hl => match us, hl with | [_, _], _ => rfl),
    a_swapped := f27, d_swapped := _, F_swapped := (fun_mk (st := s_swapped) l27 c27 k27), m_swapped := PySem.W.mg_of X G a27, B_swapped := (fun_mk (st := s_swapped) l27 c27 k27).binds (ps := P_swapped) (fun _ _ _ _ _ _ us hl => match us, hl with | [_, _, _], _ => rfl),
    KR_swapped := kb_rev (fun_mk (st := s_swapped) l27 c27 k27) (fun _ _ _ _ _ _ us hl => match us, hl with | [_, _, _], _ => rfl),
    a_cancelled := f28, d_cancelled := _, F_cancelled := (fun_mk (st := s_cancelled) l28 c28 k28), m_cancelled := PySem.W.mg_of X G a28, B_cancelled := (fun_mk (st := s_cancelled) l28 c28 k28).binds (ps := P_cancelled) (fun _ _ _ _ _ _ us hl => match us, hl with | [_], _ => rfl),
    a_word := f29, d_word := _, F_word := (fun_mk (st := s_word) l29 c29 k29), m_word := PySem.W.mg_of X G a29, B_word := (fun_mk (st := s_word) l29 c29 k29).binds (ps := P_word) (fun _ _ _ _ _ _ us hl => match us, hl with | [_], _ => rfl),
    a_small := f30, d_small := _, F_small := (fun_mk (st := s_small) l30 c30 k30), m_small := PySem.W.mg_of X G a30, B_small := (fun_mk (st := s_small) l30 c30 k30).binds (ps := P_small) (fun _ _ _ _ _ _ us hl => match us, hl with | [_, _], _ => rfl),
    a_turned_kind := f31, d_turned_kind := _, F_turned_kind := (fun_mk (st := s_turned_kind) l31 c31 k31), m_turned_kind := PySem.W.mg_of X G a31, B_turned_kind := (fun_mk (st := s_turned_kind) l31 c31 k31).binds (ps := P_turned_kind) (fun _ _ _ _ _ _ us hl => match us, hl with | [_], _ => rfl),
    a_turned := f32, d_turned := _, F_turned := (fun_mk (st := s_turned) l32 c32 k32), m_turned := PySem.W.mg_of X G a32, B_turned := (fun_mk (st := s_turned) l32 c32 k32).binds (ps := P_turned) (fun _ _ _ _ _ _ us hl => match us, hl with | [_], _ => rfl),
    a_law := fa, d_law := _, F_law := (fun_mk (st := s_law) l33 c33 k33), m_law := PySem.W.mg_of X G a33, B_law := (fun_mk (st := s_law) l33 c33 k33).binds (ps := P_law) (fun _ _ _ _ _ _ us hl => match us, hl with | [_], _ => rfl),
    b_bool := PySem.W.mg_none_of X G z_bool,
    b_int := PySem.W.mg_none_of X G z_int,
    b_isinstance := PySem.W.mg_none_of X G z_isinstance,
    b_len := PySem.W.mg_none_of X G z_len,
    b_list := PySem.W.mg_none_of X G z_list,
    b_max := PySem.W.mg_none_of X G z_max,
    b_range := PySem.W.mg_none_of X G z_range,
    b_set := PySem.W.mg_none_of X G z_set,
    b_sorted := PySem.W.mg_none_of X G z_sorted,
    b_str := PySem.W.mg_none_of X G z_str,
    b_sum := PySem.W.mg_none_of X G z_sum,
    b_tuple := PySem.W.mg_none_of X G z_tuple,
    b_zip := PySem.W.mg_none_of X G z_zip,
    t_LETTERS := t_LETTERS, g_LETTERS := PySem.W.mg_of X G g_LETTERS,
    o_TURNS := o_TURNS, e_TURNS := e_TURNS, n_TURNS := n_TURNS, g_TURNS := PySem.W.mg_of X G g_TURNS, k_TURNS := ⟨⟨l_TURNS, i_TURNS, j_TURNS⟩, List.forall_mem_cons.mpr ⟨⟨_, v0_TURNS⟩, List.forall_mem_cons.mpr ⟨⟨_, v1_TURNS⟩, List.forall_mem_cons.mpr ⟨⟨_, v2_TURNS⟩, fun _ h => nomatch h⟩⟩⟩⟩ }
  exact ⟨T.d_law, fun s v => .of_eq rfl, fun base _ _ => (ok_law (P := P) (base := base) T).imp fun vs H Q E h => spLaw_of Lk03.law_ok h⟩
end Nk03
open PySem PySem.W PyProof.Rows L2
set_option maxRecDepth 100000 in
set_option maxHeartbeats 0 in
theorem PySem.Challenge.cw_waitwords_k03_whole_swapped_and_lifted_holds : PySem.Challenge.rw_waitwords_k03_whole_swapped_and_lifted.Holds := by
  w_on; o_law; k_head; (case hw => w_witness2)
  k_fill
  refine L2.walk_ofK (l := PySem.Challenge.rw_waitwords_k03_whole_swapped_and_lifted) (n := 63) (k := 37) (x := "_law_script") (CX := CX0) (sp := Vs.spLaw) rfl (by decide) rfl ⟨rfl, by decide, by decide⟩ (fun w h Y => PySem.W.kIn_of Y) ?F (fun _ _ a ns hl _ hS => ⟨a, ns, rfl, hS, hl, fun _ => rfl⟩) fun _ _ _ _ z => z
  case F =>
    intro w mg fa h KX G hmg
    refine' Nk03.all_mk KX G hmg ?a0 ?l0 ?c0 ?k0 ?a1 ?l1 ?c1 ?k1 ?a2 ?l2 ?c2 ?k2 ?a3 ?l3 ?c3 ?k3 ?a4 ?l4 ?c4 ?k4 ?a5 ?l5 ?c5 ?k5 ?a6 ?l6 ?c6 ?k6 ?a7 ?l7 ?c7 ?k7 ?a8 ?l8 ?c8 ?k8 ?a9 ?l9 ?c9 ?k9 ?a10 ?l10 ?c10 ?k10 ?a11 ?l11 ?c11 ?k11 ?a12 ?l12 ?c12 ?k12 ?a13 ?l13 ?c13 ?k13 ?a14 ?l14 ?c14 ?k14 ?a15 ?l15 ?c15 ?k15 ?a16 ?l16 ?c16 ?k16 ?a17 ?l17 ?c17 ?k17 ?a18 ?l18 ?c18 ?k18 ?a19 ?l19 ?c19 ?k19 ?a20 ?l20 ?c20 ?k20 ?a21 ?l21 ?c21 ?k21 ?a22 ?l22 ?c22 ?k22 ?a23 ?l23 ?c23 ?k23 ?a24 ?l24 ?c24 ?k24 ?a25 ?l25 ?c25 ?k25 ?a26 ?l26 ?c26 ?k26 ?a27 ?l27 ?c27 ?k27 ?a28 ?l28 ?c28 ?k28 ?a29 ?l29 ?c29 ?k29 ?a30 ?l30 ?c30 ?k30 ?a31 ?l31 ?c31 ?k31 ?a32 ?l32 ?c32 ?k32 ?a33 ?l33 ?c33 ?k33 ?z_bool ?z_int ?z_isinstance ?z_len ?z_list ?z_max ?z_range ?z_set ?z_sorted ?z_str ?z_sum ?z_tuple ?z_zip ?g_LETTERS ?g_TURNS ?l_TURNS ?i_TURNS ?j_TURNS ?v0_TURNS ?v1_TURNS ?v2_TURNS
    (case a0 => k_is); (case l0 => k_is); (case c0 => k_is); (case k0 => k_is)
    (case a1 => k_is); (case l1 => k_is); (case c1 => k_is); (case k1 => k_is)
    (case a2 => k_is); (case l2 => k_is); (case c2 => k_is); (case k2 => k_is)
    (case a3 => k_is); (case l3 => k_is); (case c3 => k_is); (case k3 => k_is)
    (case a4 => k_is); (case l4 => k_is); (case c4 => k_is); (case k4 => k_is)
    (case a5 => k_is); (case l5 => k_is); (case c5 => k_is); (case k5 => k_is)
    (case a6 => k_is); (case l6 => k_is); (case c6 => k_is); (case k6 => k_is)
    (case a7 => k_is); (case l7 => k_is); (case c7 => k_is); (case k7 => k_is)
    (case a8 => k_is); (case l8 => k_is); (case c8 => k_is); (case k8 => k_is)
    (case a9 => k_is); (case l9 => k_is); (case c9 => k_is); (case k9 => k_is)
    (case a10 => k_is); (case l10 => k_is); (case c10 => k_is); (case k10 => k_is)
    (case a11 => k_is); (case l11 => k_is); (case c11 => k_is); (case k11 => k_is)
    (case a12 => k_is); (case l12 => k_is); (case c12 => k_is); (case k12 => k_is)
    (case a13 => k_is); (case l13 => k_is); (case c13 => k_is); (case k13 => k_is)
    (case a14 => k_is); (case l14 => k_is); (case c14 => k_is); (case k14 => k_is)
    (case a15 => k_is); (case l15 => k_is); (case c15 => k_is); (case k15 => k_is)
    (case a16 => k_is); (case l16 => k_is); (case c16 => k_is); (case k16 => k_is)
    (case a17 => k_is); (case l17 => k_is); (case c17 => k_is); (case k17 => k_is)
    (case a18 => k_is); (case l18 => k_is); (case c18 => k_is); (case k18 => k_is)
    (case a19 => k_is); (case l19 => k_is); (case c19 => k_is); (case k19 => k_is)
    (case a20 => k_is); (case l20 => k_is); (case c20 => k_is); (case k20 => k_is)
    (case a21 => k_is); (case l21 => k_is); (case c21 => k_is); (case k21 => k_is)
    (case a22 => k_is); (case l22 => k_is); (case c22 => k_is); (case k22 => k_is)
    (case a23 => k_is); (case l23 => k_is); (case c23 => k_is); (case k23 => k_is)
    (case a24 => k_is); (case l24 => k_is); (case c24 => k_is); (case k24 => k_is)
    (case a25 => k_is); (case l25 => k_is); (case c25 => k_is); (case k25 => k_is)
    (case a26 => k_is); (case l26 => k_is); (case c26 => k_is); (case k26 => k_is)
    (case a27 => k_is); (case l27 => k_is); (case c27 => k_is); (case k27 => k_is)
    (case a28 => k_is); (case l28 => k_is); (case c28 => k_is); (case k28 => k_is)
    (case a29 => k_is); (case l29 => k_is); (case c29 => k_is); (case k29 => k_is)
    (case a30 => k_is); (case l30 => k_is); (case c30 => k_is); (case k30 => k_is)
    (case a31 => k_is); (case l31 => k_is); (case c31 => k_is); (case k31 => k_is)
    (case a32 => k_is); (case l32 => k_is); (case c32 => k_is); (case k32 => k_is)
    (case a33 => k_is); (case l33 => k_is); (case c33 => k_is); (case k33 => k_is)
    (case z_bool => k_is); (case z_int => k_is); (case z_isinstance => k_is); (case z_len => k_is)
    (case z_list => k_is); (case z_max => k_is); (case z_range => k_is); (case z_set => k_is)
    (case z_sorted => k_is); (case z_str => k_is); (case z_sum => k_is); (case z_tuple => k_is)
    (case z_zip => k_is); (case g_LETTERS => k_is); (case g_TURNS => k_is); (case l_TURNS => k_is)
    (case i_TURNS => exact ⟨⟨_, _, rfl, rfl⟩, ⟨_, _, rfl, rfl⟩, ⟨_, _, rfl, rfl⟩, trivial⟩); (case j_TURNS => decide +kernel); (case v0_TURNS => k_is); (case v1_TURNS => k_is)
    (case v2_TURNS => k_is)

