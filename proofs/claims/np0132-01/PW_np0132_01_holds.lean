import PyProof.Rows.All
import Wide.All
import OpenK.AllK
import Wide.FinOn
import KE.KLcPair
import KE.KLcTest
import PyProof.WalksEnum
import PyProof.EnumMake
import OpenK.KEqL
import KE.KData
import KE.KState
import KE.KStateText
import Lean
import PySem.Challenge.RW_np0132_01
open PySem PySem.W PyProof.Rows PySem.Calls
set_option Elab.async false
set_option maxRecDepth 100000
set_option maxHeartbeats 8000000
set_option linter.unusedVariables false
namespace Mine
open_top hd for PySem.Challenge.rw_np0132_01
-- part Bas
section
open PySem PySem.W PyProof.Rows PySem.Calls
noncomputable abbrev PR : Program := PySem.Challenge.rw_np0132_01.row.prog
noncomputable abbrev LS : List Str := looseW hd.view_39 [Str.ofString "Raised", Str.ofString "error", Str.ofString "quote"]
abbrev LedT := List (Addr × Obj)
abbrev VQ := Value → Shared → Prop
/-- What a call of the function at `f` with the values `vs` keeps: from every ledger that meets `Pre`, it comes back with a value and new objects that `R` tells. -/
noncomputable def Ctr (w : World) (f : Addr) (D : Nat) (vs : List Value) (Pre : LedT → Prop) (R : LedT → Value → Prop) : Prop :=
  ∀ (mean : ExcName → Option Value) (mg mb : Str → Option Value) (dp un : Nat) (gd : Option (List Code)) (cn : Str) (cs : Scope) (a : Addr) (ccd : Value) (cl : List (Str × Addr)) (outer : List Env) (A₀ : Around) (base h₀ : Heap) (L : Addr) (m : Str → Option Value) (news : LedT) (sh : Heap) (sg : Array GenState) (sd : Drawn) (sk : Nat) (so : OsState) (Q E : VQ),
    Below A₀ base outer h₀ → Fr h₀ L sh m → (hd.heap_39 w.params).In h₀ → News h₀ L sh news → Top hd.view_39 LS mean mg mb h₀ → cs.kind = .function → dp + D < recursionLimit → un + 8 * D < cLine → Pre news →
    (∀ (v : Value) (nx : LedT) (h' : Heap) (tk' : Nat), R nx v → (∀ q ∈ nx, ∀ p ∈ news, p.1 < q.1) → Fr h₀ L h' m → News h₀ L h' (nx ++ news) → Q v ⟨h', sg, sd, tk', so⟩) →
    wpAny (model PR w) (ktrTop dp un gd cn cs L a ccd cl outer) (call (.ref f) vs) Q E ⟨sh, sg, sd, sk, so⟩
theorem Ctr.use {w : World} {f : Addr} {D : Nat} {vs : List Value} {Pre : LedT → Prop} {R : LedT → Value → Prop} (C : Ctr w f D vs Pre R)
    {mean : ExcName → Option Value} {mg mb : Str → Option Value} {dp un : Nat} {gd : Option (List Code)} {cn : Str} {cs : Scope} {a : Addr} {ccd : Value} {cl : List (Str × Addr)} {outer : List Env} {A₀ : Around} {base h₀ : Heap} {L : Addr} {m : Str → Option Value} {news : LedT} {sh : Heap} {sg : Array GenState} {sd : Drawn} {sk : Nat} {so : OsState} {Q E : VQ}
    (B : Below A₀ base outer h₀) (F : Fr h₀ L sh m) (X : (hd.heap_39 w.params).In h₀) (N : News h₀ L sh news) (T : Top hd.view_39 LS mean mg mb h₀) (hk : cs.kind = .function) (hdp : dp + D < recursionLimit) (hun : un + 8 * D < cLine) (hpre : Pre news)
    (ret : ∀ (v : Value) (nx : LedT) (h' : Heap) (tk' : Nat), R nx v → (∀ q ∈ nx, ∀ p ∈ news, p.1 < q.1) → Fr h₀ L h' m → News h₀ L h' (nx ++ news) → Q v ⟨h', sg, sd, tk', so⟩) :
    wpAny (model PR w) (ktrTop dp un gd cn cs L a ccd cl outer) (call (.ref f) vs) Q E ⟨sh, sg, sd, sk, so⟩ :=
  C mean mg mb dp un gd cn cs a ccd cl outer A₀ base h₀ L m news sh sg sd sk so Q E B F X N T hk hdp hun hpre ret
noncomputable def tupOf (vs : List Value) : Obj := { cls := .type "tuple", data := .seq vs.toArray }
theorem Ctr.use_val {w : World} {f : Addr} {D : Nat} {vs : List Value} {Pre : LedT → Prop} {c : Value} (C : Ctr w f D vs Pre (fun nx v => nx = [] ∧ v = c))
    {mean : ExcName → Option Value} {mg mb : Str → Option Value} {dp un : Nat} {gd : Option (List Code)} {cn : Str} {cs : Scope} {a : Addr} {ccd : Value} {cl : List (Str × Addr)} {outer : List Env} {A₀ : Around} {base h₀ : Heap} {L : Addr} {m : Str → Option Value} {news : LedT} {sh : Heap} {sg : Array GenState} {sd : Drawn} {sk : Nat} {so : OsState} {Q E : VQ}
    (B : Below A₀ base outer h₀) (F : Fr h₀ L sh m) (X : (hd.heap_39 w.params).In h₀) (N : News h₀ L sh news) (T : Top hd.view_39 LS mean mg mb h₀) (hk : cs.kind = .function) (hdp : dp + D < recursionLimit) (hun : un + 8 * D < cLine) (hpre : Pre news)
    (ret : ∀ (h' : Heap) (tk' : Nat), Fr h₀ L h' m → News h₀ L h' news → Q c ⟨h', sg, sd, tk', so⟩) :
    wpAny (model PR w) (ktrTop dp un gd cn cs L a ccd cl outer) (call (.ref f) vs) Q E ⟨sh, sg, sd, sk, so⟩ :=
  C.use B F X N T hk hdp hun hpre fun v nx h' tk' hR _ F' N' => by
    obtain ⟨rfl, rfl⟩ := hR
    exact ret h' tk' F' N'
theorem Ctr.use_str {w : World} {f : Addr} {D : Nat} {vs : List Value} {Pre : LedT → Prop} {x : Str} (C : Ctr w f D vs Pre (fun nx v => nx = [] ∧ ∃ t', v = .str x t'))
    {mean : ExcName → Option Value} {mg mb : Str → Option Value} {dp un : Nat} {gd : Option (List Code)} {cn : Str} {cs : Scope} {a : Addr} {ccd : Value} {cl : List (Str × Addr)} {outer : List Env} {A₀ : Around} {base h₀ : Heap} {L : Addr} {m : Str → Option Value} {news : LedT} {sh : Heap} {sg : Array GenState} {sd : Drawn} {sk : Nat} {so : OsState} {Q E : VQ}
    (B : Below A₀ base outer h₀) (F : Fr h₀ L sh m) (X : (hd.heap_39 w.params).In h₀) (N : News h₀ L sh news) (T : Top hd.view_39 LS mean mg mb h₀) (hk : cs.kind = .function) (hdp : dp + D < recursionLimit) (hun : un + 8 * D < cLine) (hpre : Pre news)
    (ret : ∀ (t' : Tok) (h' : Heap) (tk' : Nat), Fr h₀ L h' m → News h₀ L h' news → Q (.str x t') ⟨h', sg, sd, tk', so⟩) :
    wpAny (model PR w) (ktrTop dp un gd cn cs L a ccd cl outer) (call (.ref f) vs) Q E ⟨sh, sg, sd, sk, so⟩ :=
  C.use B F X N T hk hdp hun hpre fun v nx h' tk' hR _ F' N' => by
    obtain ⟨rfl, t', rfl⟩ := hR
    exact ret t' h' tk' F' N'
theorem Ctr.use_tup {w : World} {f : Addr} {D : Nat} {vs : List Value} {Pre : LedT → Prop} {x : Str} {r : Int} (C : Ctr w f D vs Pre (fun nx v => ∃ a t1 t2, nx = [(a, tupOf [.str x t1, .int r t2])] ∧ v = .ref a))
    {mean : ExcName → Option Value} {mg mb : Str → Option Value} {dp un : Nat} {gd : Option (List Code)} {cn : Str} {cs : Scope} {a : Addr} {ccd : Value} {cl : List (Str × Addr)} {outer : List Env} {A₀ : Around} {base h₀ : Heap} {L : Addr} {m : Str → Option Value} {news : LedT} {sh : Heap} {sg : Array GenState} {sd : Drawn} {sk : Nat} {so : OsState} {Q E : VQ}
    (B : Below A₀ base outer h₀) (F : Fr h₀ L sh m) (X : (hd.heap_39 w.params).In h₀) (N : News h₀ L sh news) (T : Top hd.view_39 LS mean mg mb h₀) (hk : cs.kind = .function) (hdp : dp + D < recursionLimit) (hun : un + 8 * D < cLine) (hpre : Pre news)
    (ret : ∀ (a' : Addr) (t1 t2 : Tok) (h' : Heap) (tk' : Nat), (∀ p ∈ news, p.1 < a') → Fr h₀ L h' m → News h₀ L h' ((a', { cls := .type "tuple", data := .seq #[.str x t1, .int r t2] }) :: news) → Q (.ref a') ⟨h', sg, sd, tk', so⟩) :
    wpAny (model PR w) (ktrTop dp un gd cn cs L a ccd cl outer) (call (.ref f) vs) Q E ⟨sh, sg, sd, sk, so⟩ :=
  C.use B F X N T hk hdp hun hpre fun v nx h' tk' hR ho F' N' => by
    obtain ⟨a', t1, t2, rfl, rfl⟩ := hR
    exact ret a' t1 t2 h' tk' (ho _ (List.Mem.head _)) F' N'
theorem Ctr.use_lst {w : World} {f : Addr} {D : Nat} {vs : List Value} {Pre : LedT → Prop} {X' : List Str} (C : Ctr w f D vs Pre (fun nx v => ∃ a vs n, nx = [(a, listOf vs.toArray n)] ∧ v = .ref a ∧ StrsAre vs X'))
    {mean : ExcName → Option Value} {mg mb : Str → Option Value} {dp un : Nat} {gd : Option (List Code)} {cn : Str} {cs : Scope} {a : Addr} {ccd : Value} {cl : List (Str × Addr)} {outer : List Env} {A₀ : Around} {base h₀ : Heap} {L : Addr} {m : Str → Option Value} {news : LedT} {sh : Heap} {sg : Array GenState} {sd : Drawn} {sk : Nat} {so : OsState} {Q E : VQ}
    (B : Below A₀ base outer h₀) (F : Fr h₀ L sh m) (X : (hd.heap_39 w.params).In h₀) (N : News h₀ L sh news) (T : Top hd.view_39 LS mean mg mb h₀) (hk : cs.kind = .function) (hdp : dp + D < recursionLimit) (hun : un + 8 * D < cLine) (hpre : Pre news)
    (ret : ∀ (a' : Addr) (us : List Value) (n : Nat) (h' : Heap) (tk' : Nat), StrsAre us X' → (∀ p ∈ news, p.1 < a') → Fr h₀ L h' m → News h₀ L h' ((a', listOf us.toArray n) :: news) → Q (.ref a') ⟨h', sg, sd, tk', so⟩) :
    wpAny (model PR w) (ktrTop dp un gd cn cs L a ccd cl outer) (call (.ref f) vs) Q E ⟨sh, sg, sd, sk, so⟩ :=
  C.use B F X N T hk hdp hun hpre fun v nx h' tk' hR ho F' N' => by
    obtain ⟨a', us, n, rfl, rfl, hS⟩ := hR
    exact ret a' us n h' tk' hS (ho _ (List.Mem.head _)) F' N'
theorem Ctr.mono {w : World} {f : Addr} {D : Nat} {vs : List Value} {Pre : LedT → Prop} {R R' : LedT → Value → Prop} (C : Ctr w f D vs Pre R) (h : ∀ nx v, R nx v → R' nx v) : Ctr w f D vs Pre R' :=
  fun mean mg mb dp un gd cn cs a ccd cl outer A₀ base h₀ L m news sh sg sd sk so Q E B F X N T hk hdp hun hpre ret =>
    C mean mg mb dp un gd cn cs a ccd cl outer A₀ base h₀ L m news sh sg sd sk so Q E B F X N T hk hdp hun hpre fun v nx h' tk' hR => ret v nx h' tk' (h nx v hR)
/-- A stop for the walk. -/
noncomputable def Stop (P : Prop) : Prop := P
/-- while it stands in the context, a word that asks for it stops -/
noncomputable def Flag : Prop := True
theorem flag : Flag := trivial
theorem stop_ {P : Prop} (h : Stop P) : P := h
theorem use_lo {G : Prop} {h₀ h : Heap} {L lo : Addr} {o : Obj} {news : LedT} (N : News h₀ L h ((lo, o) :: news)) (k : ∀ lo', lo' = lo → G) : G := k lo rfl
theorem fillK : (fun (_ : OpenLaw) (_ : Params → Frag) => True) PySem.Challenge.rw_np0132_01 hd.heap_39 := by
  k_fill
  trivial
end
-- part Prim
section
open PySem PySem.W PyProof.Rows PySem.Calls PySem.Spec PySem.Builtin PySem.Builtin.Str
theorem room_ {dp D d : Nat} (h : dp + D < recursionLimit) (e : Nat.ble (d + 1) D = true) : dp + 1 + d < recursionLimit := by
  have := Nat.le_of_ble_eq_true e
  omega
theorem units_ {un D d : Nat} (h : un + 8 * D < cLine) (e : Nat.ble (d + 1) D = true) : un + 3 + 8 * d < cLine := by
  have := Nat.le_of_ble_eq_true e
  omega
theorem sh1 {i m n : Nat} (h : i + (m + 1) = n) : i + 1 + m = n := by omega
theorem sh2 {i m n : Nat} (h : i + (m + 2) = n) : i + 2 + m = n := by omega
theorem predI {d : Nat} (h : ¬ d = 0) : (d : Int) - 1 = ((d - 1 : Nat) : Int) := by omega
theorem ltI {i n : Nat} (h : i < n) : (i : Int) < (n : Int) := Int.ofNat_lt.mpr h
/-- a continuation kept opaque while a statement is walked -/
structure PF (P : Flow → Shared → Prop) (f : Flow) (s : Shared) : Prop where
  is : P f s
structure SeqK (M : Model) (A : Around) (rest : List Stmt) (env : Env) (Q : Flow → Shared → Prop) (E : Value → Shared → Prop) (P : Flow → Shared → Prop) : Prop where
  next : ∀ {s : Shared}, wpAny M A (execs rest env) Q E s → PF P .next s
  ret : ∀ {v : Value} {s : Shared}, Q (.ret v) s → PF P (.ret v) s
  brk : ∀ {s : Shared}, Q .brk s → PF P .brk s
  cont : ∀ {s : Shared}, Q .cont s → PF P .cont s
noncomputable def PostK (Q P : Flow → Shared → Prop) : Prop := ∀ f s, Q f s → PF P f s
section
variable {M : Model} {A : Around} {E : Value → Shared → Prop} {s : Shared} {env : Env} {Q P : Flow → Shared → Prop}
theorem seq_cut {st : Stmt} {rest : List Stmt} (h : ∀ P, SeqK M A rest env Q E P → wpAny M A (exec st env) (PF P) E s) : wpAny M A (execs (st :: rest) env) Q E s :=
  wpAny_execs_cons (wpAny_mono (h (fun f s' => match f with | .next => wpAny M A (execs rest env) Q E s' | f => Q f s') ⟨fun x => ⟨x⟩, fun x => ⟨x⟩, fun x => ⟨x⟩, fun x => ⟨x⟩⟩) (fun _ _ q => q.is) fun _ _ q => q)
theorem seq_last {st : Stmt} (h : wpAny M A (exec st env) (PF P) E s) : wpAny M A (execs [st] env) (PF P) E s :=
  wpAny_execs_cons (wpAny_mono h (fun f _ q => by cases f <;> first | exact wpAny_execs_nil q | exact q) fun _ _ q => q)
theorem post_cut {t : Sem Flow} (h : ∀ P, PostK Q P → wpAny M A t (PF P) E s) : wpAny M A t Q E s := wpAny_mono (h Q fun _ _ x => ⟨x⟩) (fun _ _ q => q.is) fun _ _ q => q
theorem PostK.use (k : PostK Q P) {f : Flow} (h : Q f s) : PF P f s := k f s h
end
/-- the text of these signs -/
noncomputable def tx (l : List Nat) : Str := ⟨l.toArray⟩
theorem tx_len (l : List Nat) : (tx l).length = l.length := by simp [tx, Str.length]
theorem tx_inj {a b : List Nat} : tx a = tx b ↔ a = b := by
  constructor
  · intro h
    have := congrArg (fun x : Str => x.cps.toList) h
    simpa [tx] using this
  · rintro rfl; rfl
theorem tx_app (a b : List Nat) : tx a ++ tx b = tx (a ++ b) := by
  show Str.append (tx a) (tx b) = _
  simp [tx, Str.append]
theorem tx_of (x : Str) : x = tx x.cps.toList := by cases x; simp [tx]
/-- the sign at a place -/
structure At (x : Str) (k : Int) (c : Nat) : Prop where
  nn : 0 ≤ k
  get : x.cps.toList[k.toNat]? = some c
  small : x.length < 2 ^ 62
theorem At.of {l : List Nat} {k : Int} {n : Nat} {c : Nat} (hs : l.length < 2 ^ 62) (hk : k = (n : Int)) (hg : l[n]? = some c) : At (tx l) k c := by
  refine ⟨by omega, ?_, by rw [tx_len]; exact hs⟩
  subst hk
  simpa [tx] using hg
/-- a piece of a text -/
structure Sl (x : Str) (i j : Int) (y : Str) : Prop where
  nn : 0 ≤ i
  le : i ≤ j
  hi : j ≤ x.length
  is : y.cps.toList = (x.cps.toList.drop i.toNat).take (j.toNat - i.toNat)
  small : x.length ≤ sizeLine
theorem Sl.of {l r : List Nat} {i j : Int} {a b : Nat} (hs : l.length ≤ 2 ^ 20) (hi : i = (a : Int)) (hj : j = (b : Int)) (hab : a ≤ b) (hb : b ≤ l.length) (hr : (l.drop a).take (b - a) = r) : Sl (tx l) i j (tx r) := by
  subst hi; subst hj
  refine ⟨by omega, by omega, by rw [tx_len]; omega, ?_, by rw [tx_len, sizeLine_eq]; omega⟩
  simpa [tx] using hr.symm
section
variable {prog : Program} {w : World} {A : Around} {E : Value → Shared → Prop} {s : Shared} {Q : Value → Shared → Prop}
theorem len_tx {l : List Nat} {t : Tok} {sh : Heap} {sg : Array GenState} {sd : Drawn} {sk : Nat} {so : OsState} (h : l.length < 2 ^ 62) (hq : Q (.int (l.length : Int) (sk + 1)) ⟨sh, sg, sd, sk + 1 + 1, so⟩) :
    wpAny (model prog w) A (call (.builtin "len") [.str (tx l) t]) Q E ⟨sh, sg, sd, sk, so⟩ := by
  refine PySem.P.len_str ?_ ?_
  · rw [tx_len]; omega
  · rw [tx_len]; exact hq
theorem item_at {x : Str} {k : Int} {c : Nat} {t u : Tok} {value slice : PySem.Expr} {sh : Heap} {sg : Array GenState} {sd : Drawn} {sk : Nat} {so : OsState} (h : At x k c) (hq : Q (.str (tx [c]) sk) ⟨sh, sg, sd, sk + 1, so⟩)
    (hs : subscripted slice false (.str x t) (.int k u) = operate [.str x t, .int k u] (getItem (.str x t) (.int k u)) := by with_unfolding_all rfl)
    (ht : ∀ r, letTemporaryGo value (.str x t) r = pure () := by intro _; with_unfolding_all rfl) :
    wpAny (model prog w) A (subscriptTail value slice (.str x t) (.int k u)) Q E ⟨sh, sg, sd, sk, so⟩ := by
  have hlt : k.toNat < x.cps.toList.length := by
    have := h.get
    rw [List.getElem?_eq_some_iff] at this
    exact this.1
  have h0 := h.nn
  have h1 := h.small
  have hl : x.cps.toList.length = x.length := by simp [Str.length]
  refine item_str ?_ ?_ ?_ ?_ hs ht
  · exact fitsSsize_of (N := 9223372036854775808) (by omega) (by omega) (Int.le_refl _)
  · omega
  · omega
  · intro _
    have e : Txt.item x k = tx [c] := by
      unfold Txt.item Txt.charAt seqIndex?
      simp only [if_neg (Int.not_lt.mpr h0)]
      have hd : (decide (0 ≤ k) && decide (k < (x.length : Int))) = true := by simp; omega
      rw [hd]
      have hg := h.get
      simp only [Array.getElem?_toList] at hg
      simp [tx, hg]
    rw [e]
    exact hq
theorem slice_eq {x y : Str} {i j : Int} (h : Sl x i j y) : Txt.slice x (some i) (some j) = y := by
  have h0 := h.nn
  have h1 := h.le
  have h2 := h.hi
  have ea : i = ((i.toNat : Nat) : Int) := by omega
  have eb : j = ((j.toNat : Nat) : Int) := by omega
  have hp := PySem.StrLaws.sliced_plain x (a := i.toNat) (b := j.toNat) (by omega) (by omega)
  rw [← ea, ← eb] at hp
  have hi := h.is
  have hyx : (⟨(y.cps.toList).toArray⟩ : Str) = y := by simp
  unfold Txt.slice
  split
  · rename_i hc
    simp only [beq_self_eq_true, Bool.true_and, beq_iff_eq] at hc
    have hlen := PySem.StrLaws.strSliceIndices_plain (a := i.toNat) (b := j.toNat) (len := x.length) (by omega) (by omega)
    rw [← ea, ← eb] at hlen
    rw [hlen, List.length_map, List.length_range] at hc
    have hi0 : i.toNat = 0 := by omega
    have hj0 : j.toNat = x.cps.toList.length := by simp [Str.length] at hc ⊢; omega
    rw [hi0, hj0] at hi
    simp only [List.drop_zero, Nat.sub_zero, List.take_length] at hi
    rw [← hyx, hi]
  · rw [hp, ← hi]
theorem slice_sl {x y : Str} {i j : Int} {t ui uj : Tok} {value slice : PySem.Expr} {h₀ : Heap} {L : Addr} {m : Str → Option Value} {news : List (Addr × Obj)}
    (hF : Fr h₀ L s.heap m) (hN : News h₀ L s.heap news) (h : Sl x i j y)
    (hq : ∀ h' t' k, Fr h₀ L h' m → News h₀ L h' news → Q (.str y t') { s with heap := h', toks := k })
    (hs : subscripted slice false (.str x t) (.ref s.heap.objs.size) = operate [.ref s.heap.objs.size, .str x t] (getItem (.str x t) (.ref s.heap.objs.size)) := by with_unfolding_all rfl)
    (ht : ∀ r, letTemporaryGo value (.str x t) r = pure () := by intro _; with_unfolding_all rfl) :
    wpAny (model prog w) A (subscriptTail value slice (.str x t) (.ref s.heap.objs.size)) Q E { s with heap := s.heap.push { cls := .type "slice", data := .fields #[.int i ui, .int j uj, .none] } } := by
  refine slice_strN_ss hF hN (fun h' t' k a b => ?_) hs ht h.small
  rw [slice_eq h]
  exact hq h' t' k a b
theorem add_any {x y z : Str} {t u : Tok} {sh : Heap} {sg : Array GenState} {sd : Drawn} {sk : Nat} {so : OsState} (hz : x ++ y = z) (hsz : x.length + y.length ≤ 2 ^ 20) (hq : ∀ t' k, Q (.str z t') ⟨sh, sg, sd, k, so⟩) :
    wpAny (model prog w) A (binaryOp .Add (.str x t) (.str y u)) Q E ⟨sh, sg, sd, sk, so⟩ := by
  subst hz
  exact PyProof.Rows.add_str hq (by rw [sizeLine_eq]; omega)
theorem find_is {x y : Str} {t u : Tok} {k : Int} {sh : Heap} {sg : Array GenState} {sd : Drawn} {sk : Nat} {so : OsState} (h : Txt.find x y = k) (hq : Q (.int k sk) ⟨sh, sg, sd, sk + 1, so⟩) :
    wpAny (model prog w) A (call (.builtin "str.find") [.str x t, .str y u]) Q E ⟨sh, sg, sd, sk, so⟩ := by
  subst h
  exact SC.find hq
theorem join_is {sh : Heap} {sg : Array GenState} {sd : Drawn} {sk : Nat} {so : OsState} {h₀ : Heap} {L D : Addr} {news : List (Addr × Obj)} {g y : Str} {t : Tok} {vs : List Value} {n : Nat} {ys : List Str} (N : News h₀ L sh news) (hm : (D, listOf vs.toArray n) ∈ news) (hS : StrsAre vs ys) (hJ : Txt.join g ys = y)
    (hb : (ys.map (·.length)).sum + ys.length * g.length ≤ 2 ^ 20) (hq : ∀ t' k, Q (.str y t') ⟨sh, sg, sd, k, so⟩) :
    wpAny (model prog w) A (call (.builtin "str.join") [.str g t, .ref D]) Q E ⟨sh, sg, sd, sk, so⟩ := by
  subst hJ
  have hl : sh.IsList D vs.toArray := ⟨_, (N _ hm).1, rfl, n, rfl⟩
  refine PyProof.Rows.join_list hl (by simpa using hS) (by omega) hq
theorem k_int {i : Int} {k : Nat} {pos : Pos} {env : Env} {sh : Heap} {sg : Array GenState} {sd : Drawn} {sk : Nat} {so : OsState} (h : Q (.int i sk) ⟨sh, sg, sd, sk + 1, so⟩) : wpAny (model prog w) A (eval (.Constant (.int i) k pos) env) Q E ⟨sh, sg, sd, sk, so⟩ := wpAny_Constant_int h
theorem k_str {x : Str} {k : Nat} {pos : Pos} {env : Env} {sh : Heap} {sg : Array GenState} {sd : Drawn} {sk : Nat} {so : OsState} (h : Q (.str x sk) ⟨sh, sg, sd, sk + 1, so⟩) : wpAny (model prog w) A (eval (.Constant (.str x) k pos) env) Q E ⟨sh, sg, sd, sk, so⟩ := PySem.Calls.Constant_str h
theorem k_store {h₀ : Heap} {L a : Addr} {m : Str → Option Value} {cn : Str} {cs : Scope} {ccd : Value} {cl : List (Str × Addr)} {x : Str} {v : Value} {news : LedT} {Q : Unit → Shared → Prop} {sh : Heap} {sg : Array GenState} {sd : Drawn} {sk : Nat} {so : OsState} (F : Fr h₀ L sh m) (N : News h₀ L sh news)
    (h : ∀ h', Fr h₀ L h' (fun y => if y = x then some v else m y) → News h₀ L h' news → Q () ⟨h', sg, sd, sk + 1, so⟩)
    (hk : cs.kind = .function) (hx : (envX cn cs L a ccd cl).kindOf x = some .local) : wpAny (model prog w) A (storeName (envX cn cs L a ccd cl) x v) Q E ⟨sh, sg, sd, sk, so⟩ :=
  storeX_L F N h hk hx
theorem k_tup {h₀ : Heap} {L : Addr} {m : Str → Option Value} {news : LedT} {vs : List Value} {sh : Heap} {sg : Array GenState} {sd : Drawn} {sk : Nat} {so : OsState} (F : Fr h₀ L sh m) (N : News h₀ L sh news)
    (h : ∀ D h', Fr h₀ L h' m → News h₀ L h' ((D, ({ cls := .type "tuple", data := .seq vs.toArray } : Obj)) :: news) → (∀ p ∈ news, p.1 < D) → Q (.ref D) ⟨h', sg, sd, sk, so⟩) (hz : vs.length ≤ sizeLine) : wpAny (model prog w) A (newTuple vs) Q E ⟨sh, sg, sd, sk, so⟩ :=
  kup_newTuple F N h hz
theorem k_add {a b : Int} {t u : Tok} {sh : Heap} {sg : Array GenState} {sd : Drawn} {sk : Nat} {so : OsState} (h : Q (.int (a + b) sk) ⟨sh, sg, sd, sk + 1, so⟩) : wpAny (model prog w) A (binaryOp .Add (.int a t) (.int b u)) Q E ⟨sh, sg, sd, sk, so⟩ := PyProof.Rows.add_int h
theorem k_iadd {a b : Int} {t u : Tok} {sh : Heap} {sg : Array GenState} {sd : Drawn} {sk : Nat} {so : OsState} (h : Q (.int (a + b) sk) ⟨sh, sg, sd, sk + 1, so⟩) : wpAny (model prog w) A (inplaceOp .Add (.int a t) (.int b u)) Q E ⟨sh, sg, sd, sk, so⟩ := PyProof.Rows.iadd_int h
theorem k_isub {a b : Int} {t u : Tok} {sh : Heap} {sg : Array GenState} {sd : Drawn} {sk : Nat} {so : OsState} (h : Q (.int (a - b) sk) ⟨sh, sg, sd, sk + 1, so⟩) : wpAny (model prog w) A (inplaceOp .Sub (.int a t) (.int b u)) Q E ⟨sh, sg, sd, sk, so⟩ := PyProof.Rows.isub_int h
end
theorem neAll {l : List (Addr × Obj)} {d : Addr} (h : ∀ p ∈ l, p.1 < d) : ∀ p ∈ l, p.1 ≠ d := fun p hp => Nat.ne_of_lt (h p hp)
theorem neAll' {l : List (Addr × Obj)} {d : Addr} (h : AllLt d l) : ∀ p ∈ l, p.1 ≠ d := neAll (kst_ltOf h)
theorem meas1 {n i : Nat} (h : i < n) : n - ((i : Int) + 1).toNat < n - (i : Int).toNat := by omega
theorem meas11 {n i : Nat} (h : i + 1 < n) : n - ((i : Int) + 1 + 1).toNat < n - (i : Int).toNat := by omega
theorem meas2 {n i : Nat} (h : i + 1 < n) : n - ((i : Int) + 2).toNat < n - (i : Int).toNat := by omega
theorem same_names {ps : List (Str × Value)} {z : Str} (h : ∀ p ∈ ps, z ≠ p.1) : ∀ x ∈ ps.map (·.1), z ≠ x := by
  intro x hx
  obtain ⟨p, hp, rfl⟩ := List.mem_map.mp hx
  exact h p hp
theorem same_stored {l : List Str} {z : Str} (h : l.contains z = false) : ∀ x ∈ l, z ≠ x := by
  rintro x hx rfl
  rw [List.contains_iff_mem.mpr hx] at h
  cases h
theorem kstB_out {f : Str → Option Value} {z : Str} : ∀ {ps : List (Str × Value)}, (∀ x ∈ ps.map (·.1), z ≠ x) → PySem.W.kstB f ps z = f z
  | [], _ => rfl
  | p :: r, h => by
    have h1 : z ≠ p.1 := h p.1 List.mem_cons_self
    have h2 := kstB_out (f := f) (z := z) (ps := r) fun x hx => h x (List.mem_cons_of_mem _ hx)
    show (if z = p.1 then some p.2 else PySem.W.kstB f r z) = f z
    rw [if_neg h1, h2]
theorem stored_out {l : List Str} {z : Str} {a b : Option Value} (h : l.contains z = false) : (if l.contains z = true then a else b) = b := by
  rw [h]; rfl
/-- texts glued -/
noncomputable def joinL (g : List Nat) : List (List Nat) → List Nat
  | [] => []
  | a :: r => a ++ (r.map (g ++ ·)).flatten
theorem join_tx (g : List Nat) (ys : List (List Nat)) : Txt.join (tx g) (ys.map tx) = tx (joinL g ys) := by
  cases ys with
  | nil => rfl
  | cons a r =>
    have key : ∀ (r : List (List Nat)) (acc : Array Nat), ((r.map tx).foldl (fun acc p => acc ++ (tx g).cps ++ p.cps) acc) = acc ++ ((r.map (g ++ ·)).flatten).toArray := by
      intro r
      induction r with
      | nil => intro acc; simp
      | cons b r ih =>
        intro acc
        rw [List.map_cons, List.foldl_cons, ih]
        simp [tx, Array.append_assoc]
    show Str.mk _ = _
    simp only [List.map_cons, List.drop_one, List.tail_cons, List.headD_cons]
    rw [key]
    simp [tx, joinL]
end
-- part L1
section
open PySem PySem.W PyProof.Rows PySem.Calls PySem.Spec
open PyProof.Rows.LCg PyProof.Rows.LCp
theorem enum_block {prog : Program} {w : World} {A : Around} {E : VQ} {h₀ : Heap} {L : Addr} {m : Str → Option Value} {env : Env} {elt iter : PySem.Expr} {x x₂ : Str} {px px₂ tp : Pos} {tk} {scope : Scope} {cl : List (Str × Addr)} {pos : Pos} {s₂ : Shared} {e it l : Addr} {vs : List Value} {nn : Nat} {news : LedT}
    {P : Nat → List Value → Prop} {RR : Value → Addr → Result → Shared → Prop}
    (hl : (l, listOf vs.toArray nn) ∈ news) (hE : IsEnum s₂.heap e it 0 .none) (hI : s₂.heap.IsListIter it l 0) (hei : e ≠ it)
    (hcell : ∀ y ∈ scope.names, y.2 ≠ .cell) (hkind : scope.kind = .function) (hx : scope.names.lookup x = some .local) (hx₂ : scope.names.lookup x₂ = some .local) (hxx : x ≠ x₂) (hh : A.handled = none)
    (F : Fr h₀ L s₂.heap m) (N : News h₀ L s₂.heap news) (heL : e ≠ L) (hiL : it ≠ L) (he₀ : h₀.get? e = none) (hi₀ : h₀.get? it = none) (offE : ∀ p ∈ news, p.1 ≠ e) (offI : ∀ p ∈ news, p.1 ≠ it) (hsz : vs.length ≤ sizeLine)
    (hp : P 0 [])
    (step : ∀ (i : Nat) (v : Value) (ys : List Value) (t : Tok) (C D : Addr) (oE oI oC : Obj) (m₂ : Str → Option Value) (h : Heap) (tk : Nat) (E' : VQ), vs[i]? = some v → P i ys → NsObj oC m₂ → m₂ x = some (.int (i : Int) t) → m₂ x₂ = some v → Fr h₀ L h m →
      News h₀ L h ((e, oE) :: (it, oI) :: (C, oC) :: (D, lst ys) :: news) →
      wpAny (model prog w) A (eval elt (compEnvC scope cl C env)) (fun y s' => ∃ h' tk', s' = { s₂ with heap := h', toks := tk' } ∧ Fr h₀ L h' m ∧ News h₀ L h' ((e, oE) :: (it, oI) :: (C, oC) :: (D, lst ys) :: news) ∧ P (i + 1) (ys ++ [y])) E' { s₂ with heap := h, toks := tk })
    (hRR : ∀ D C h tk m' ys, Fr h₀ L h m → News h₀ L h ((D, lst ys) :: news) → Off1 D news → h.Ns C m' → h₀.get? C = none → h₀.get? D = none → C ≠ L → D ≠ L → C ≠ D → (∀ p ∈ news, p.1 ≠ C) → P vs.length ys → RR (.ref D) C (.ok .next) { s₂ with heap := h, toks := tk }) :
    wpAny (model prog w) A (newList []) (fun acc s₃ => wpAny (model prog w) A (newFunctionEnv scope env.globals cl [] env.qual none .none (some env)) (fun cenv s₄ =>
      codeAny (model prog w) A (.compStart (.ListComp elt [⟨.Tuple [.Name x px, .Name x₂ px₂] tk tp, iter, [], 0⟩] scope pos) 0 (.ref e) acc { cenv with scope := relabel scope env }) (RR acc cenv.locals) s₄) E s₃) E s₂ := by
  refine wpAny_newObj_type (wpAny_newFunctionEnv hcell (by intro y hy; simp at hy) (fun h₁ hns₁ hsb₁ => ?_) hkind)
  dsimp only at hns₁ hsb₁ ⊢
  generalize hH2 : s₂.heap.push { cls := .type "list", dict := none, data := .seq ([] : List Value).toArray } = H2 at hns₁ hsb₁ ⊢
  have hC : H2.objs.size = s₂.heap.objs.size + 1 := by rw [← hH2, Heap.size_push]
  generalize hDd : s₂.heap.objs.size = D at *
  generalize hCc : H2.objs.size = C at *
  have hDC : D ≠ C := by rw [hC]; exact Nat.ne_of_lt (Nat.lt_succ_self _)
  have below : ∀ b, b < D → b ≠ C ∧ b ≠ D := fun b hb => ⟨by rw [hC]; exact Nat.ne_of_lt (Nat.lt_succ_of_lt hb), Nat.ne_of_lt hb⟩
  have ltD : ∀ b o, s₂.heap.get? b = some o → b < D := fun b o ho => hDd ▸ Heap.lt_size ho
  have elt' : e < D := ltD _ _ hE
  have ilt' : it < D := by obtain ⟨o, ho, _⟩ := hI; exact ltD _ _ ho
  have llt' : l < D := ltD _ _ (N _ hl).1
  have Llt' : L < D := hDd ▸ F.ns.lt
  have old : ∀ b o, s₂.heap.get? b = some o → h₁.get? b = some o := fun b o ho => hsb₁.extBut b o (below b (ltD b o ho)).1 (Heap.get?_push_of_some _ (hH2 ▸ Heap.get?_push_of_some _ ho))
  have hacc : h₁.get? D = some (lst []) := hsb₁.extBut _ _ hDC (Heap.get?_push_of_some _ (hH2 ▸ hDd ▸ Heap.get?_push_size _ rfl))
  have fresh₀ : ∀ a, D ≤ a → h₀.get? a = none := fun a ha => by
    cases ho : h₀.get? a with
    | none => rfl
    | some o' => exact absurd (ltD _ _ (F.keep a o' ho)) (Nat.not_lt.mpr ha)
  have hD₀ : h₀.get? D = none := fresh₀ _ (Nat.le_refl _)
  have hC₀ : h₀.get? C = none := fresh₀ _ (by rw [hC]; exact Nat.le_succ _)
  have hDL : D ≠ L := Ne.symm (below L Llt').2
  have hCL : C ≠ L := Ne.symm (below L Llt').1
  have hle : l ≠ e := offE _ hl
  have hli : l ≠ it := offI _ hl
  have hlL : l ≠ L := (N _ hl).2.1
  have W := WalksT.enumerate (prog := prog) (w := w) hh e it l hei hle hli vs.toArray
  have hn : vs.toArray.size = vs.length := List.size_toArray
  rw [hn] at W
  have lst₁ : ∀ h : Heap, News h₀ L h news → h.IsList l vs.toArray := fun h Nh => ⟨_, (Nh _ hl).1, rfl, nn, rfl⟩
  have newsC : ∀ p ∈ news, p.1 ≠ C ∧ p.1 ≠ D := fun p hp' => below _ (ltD _ _ (N p hp').1)
  have N₁ : News h₀ L h₁ news := fun p hp' => ⟨old _ _ (N p hp').1, (N p hp').2⟩
  have loop : ∀ s₃ : Shared, s₃ = { s₂ with heap := h₁, toks := s₂.toks + ([] : List (Str × Value)).length } →
      codeAny (model prog w) A (.compLoop (.ListComp elt [⟨.Tuple [.Name x px, .Name x₂ px₂] tk tp, iter, [], 0⟩] scope pos) 0 (.ref e) (.ref D) (compEnvC scope cl C env))
        (RR (.ref D) C) s₃ := by
    rintro s₃ rfl
    refine codeAny_compLoop_pair
      (fun k s' => ∃ h' tk i ys m', s' = { s₂ with heap := h', toks := tk } ∧ i ≤ vs.length ∧ k = vs.length + 1 - i ∧ ys.length = i ∧ (∃ old, IsEnum h' e it i old) ∧ h'.IsListIter it l i ∧ Fr h₀ L h' m ∧ h'.Ns C m' ∧ News h₀ L h' ((D, lst ys) :: news) ∧ P i ys) ?_ (vs.length + 1)
      ⟨h₁, _, 0, [], _, rfl, Nat.zero_le _, rfl, rfl, ⟨_, old _ _ hE⟩, hI.at fun o ho => old _ o ho, F.keeps old, hns₁, fun p hp' => ?_, hp⟩
    · rintro k s' ⟨h', tk, i, ys, m', rfl, hi, rfl, hyl, hE', hI', F', hn', N', hP⟩
      have Nn' : News h₀ L h' news := fun p hp' => N' p (List.mem_cons_of_mem _ hp')
      have st' := And.intro hE' (And.intro hI' (lst₁ h' Nn'))
      have offwr : ∀ b, b ≠ e → b ≠ it → b ∉ [e, it] := fun b h1 h2 hm => by
        rcases List.mem_cons.mp hm with q | hm
        · exact h1 q
        · exact h2 (List.mem_singleton.mp hm)
      have De : D ≠ e := Ne.symm (below e elt').2
      have Di : D ≠ it := Ne.symm (below it ilt').2
      have Ce : C ≠ e := Ne.symm (below e elt').1
      have Ci : C ≠ it := Ne.symm (below it ilt').1
      have keepF : ∀ {ha hb : Heap}, Fr h₀ L ha m → (∀ b o, b ∉ [e, it] → ha.get? b = some o → hb.get? b = some o) → Fr h₀ L hb m := fun {ha hb} Fa k =>
        ⟨Fa.ns.at' fun o ho => k L o (offwr L (Ne.symm heL) (Ne.symm hiL)) ho, fun b o ho => k b o (offwr b (fun q => by rw [q, he₀] at ho; cases ho) (fun q => by rw [q, hi₀] at ho; cases ho)) (Fa.keep b o ho), Fa.above⟩
      have keepN : ∀ {ha hb : Heap}, News h₀ L ha ((D, lst ys) :: news) → (∀ b o, b ∉ [e, it] → ha.get? b = some o → hb.get? b = some o) → News h₀ L hb ((D, lst ys) :: news) := fun {ha hb} Na k p hp' => by
        refine ⟨k _ _ ?_ (Na p hp').1, (Na p hp').2⟩
        rcases List.mem_cons.mp hp' with rfl | hq
        · exact offwr _ De Di
        · exact offwr _ (offE p hq) (offI p hq)
      by_cases hlt : i < vs.length
      · refine W.item i _ _ _ hlt st' fun T vals h₂ tk₂ hPv _ hT hMid hk₂ => ?_
        obtain ⟨t, v, hv, rfl⟩ := hPv
        have hv' : vs[i]? = some v := by simpa using hv
        refine W.go _ _ _ i T _ _ _ hMid fun h₃ st₃ hk₃ => ?_
        have hTw : T ∉ [e, it] := W.apart i T _ hMid
        have hT₃ : IsTup h₃ T #[.int (i : Int) t, v] := by
          obtain ⟨oT, hoT, r⟩ := hT
          exact ⟨oT, hk₃ _ _ hTw hoT, r⟩
        have F₃ := keepF (keepF F' hk₂) hk₃
        have N₃ := keepN (keepN N' hk₂) hk₃
        have hn₃ : h₃.Ns C m' := (hn'.at' fun o ho => hk₂ _ o (offwr C Ce Ci) ho).at' fun o ho => hk₃ _ o (offwr C Ce Ci) ho
        refine assign_Tuple_tuple hh hT₃ rfl rfl fun h₅ he₅ => ?_
        have he' : ∀ b o, h₃.get? b = some o → h₅.get? b = some o := fun b o ho => he₅ b o (Nat.ne_of_lt (Heap.lt_size ho)) ho
        refine assignInOrder_cons (wpAny_assign_Name (wpAny_storeName_local (lookup_relabel_local hx) (hn₃.at' fun o ho => he' _ o ho) (fun h₆ hn₆ hs₆ => ?_) (by simp [compEnvC, relabel, hkind])))
        refine assignInOrder_cons (wpAny_assign_Name (wpAny_storeName_local (lookup_relabel_local hx₂) hn₆ (fun h₇ hn₇ hs₇ => ?_) (by simp [compEnvC, relabel, hkind])))
        refine assignInOrder_nil ?_
        have old7 : ∀ b o, b ≠ C → h₃.get? b = some o → h₇.get? b = some o := fun b o hb ho => hs₇.extBut b o hb (hs₆.extBut b o hb (he' b o ho))
        obtain ⟨⟨oldv, hEn₃⟩, hIt₃, hLs₃⟩ := st₃
        have hE₇ := old7 e _ (Ne.symm Ce) hEn₃
        obtain ⟨oI, hoI, rI⟩ := hIt₃
        have hI₇ := old7 it _ (Ne.symm Ci) hoI
        obtain ⟨oC, heC, hoC⟩ := ns_obj hn₇
        have F₇ : Fr h₀ L h₇ m := ((F₃.keeps he').change hs₆ hCL hC₀).change hs₇ hCL hC₀
        have N₇ : News h₀ L h₇ ((e, _) :: (it, oI) :: (C, oC) :: (D, lst ys) :: news) := fun p hp' => by
          rcases List.mem_cons.mp hp' with rfl | hp'
          · exact ⟨hE₇, heL, he₀⟩
          rcases List.mem_cons.mp hp' with rfl | hp'
          · exact ⟨hI₇, hiL, hi₀⟩
          rcases List.mem_cons.mp hp' with rfl | hp'
          · exact ⟨heC, hCL, hC₀⟩
          have z := N₃ p hp'
          refine ⟨old7 _ _ ?_ z.1, z.2⟩
          rcases List.mem_cons.mp hp' with rfl | hq
          · exact hDC
          · exact (newsC p hq).1
        refine wpAny_mono (step i v ys t C D _ oI oC _ h₇ _ _ hv' hP hoC (by simp [hxx]) (by simp) F₇ N₇) (fun y s₄ h₄ => ?_) fun _ _ e => e
        obtain ⟨h₈, tk₈, rfl, F₈, N₈, hP₈⟩ := h₄
        have zE := (N₈ _ List.mem_cons_self).1
        have zI := (N₈ _ (List.mem_cons_of_mem _ List.mem_cons_self)).1
        have zC := (N₈ _ (List.mem_cons_of_mem _ (List.mem_cons_of_mem _ List.mem_cons_self))).1
        have zD := (N₈ _ (List.mem_cons_of_mem _ (List.mem_cons_of_mem _ (List.mem_cons_of_mem _ List.mem_cons_self)))).1
        have Nn₈ : News h₀ L h₈ news := fun p hp' => N₈ p (List.mem_cons_of_mem _ (List.mem_cons_of_mem _ (List.mem_cons_of_mem _ (List.mem_cons_of_mem _ hp'))))
        refine append_at (hsz := by show ys.toArray.size ≤ sizeLine; rw [List.size_toArray, hyl]; exact Nat.le_trans hi hsz) zD fun h₉ hs₉ hD₉ => ?_
        refine ⟨vs.length + 1 - (i + 1), by omega, h₉, tk₈, i + 1, ys ++ [y], _, rfl, hlt, rfl, by rw [List.length_append, List.length_singleton, hyl], ⟨_, hs₉.extBut _ _ (Ne.symm De) zE⟩, ⟨oI, hs₉.extBut _ _ (Ne.symm Di) zI, rI⟩, F₈.change hs₉ hDL hD₀,
          (hoC.ns zC).sameBut hs₉ (Ne.symm hDC), fun p hp' => ?_, hP₈⟩
        rcases List.mem_cons.mp hp' with rfl | hq
        · exact ⟨hD₉.trans (congrArg some (lst_snoc ys y)), hDL, hD₀⟩
        · exact ⟨hs₉.extBut _ _ (newsC p hq).2 (Nn₈ p hq).1, (Nn₈ p hq).2⟩
      · obtain rfl : i = vs.length := Nat.le_antisymm hi (Nat.not_lt.mp hlt)
        refine W.done _ _ _ st' fun h₂ tk₂ hk₂ => ?_
        have F₂ := keepF F' hk₂
        have N₂ := keepN N' hk₂
        refine hRR D C h₂ tk₂ _ ys F₂ N₂ ?_ (hn'.at' fun o ho => hk₂ _ o (offwr C Ce Ci) ho) hC₀ hD₀ hCL hDL (Ne.symm hDC) (fun p hp' => (newsC p hp').1) hP
        exact Off3.one (I := D) (C := D) (Off3.of fun p hp' => ⟨(newsC p hp').2, (newsC p hp').2, (newsC p hp').2⟩)
    · rcases List.mem_cons.mp hp' with rfl | hp'
      · exact ⟨hacc, hDL, hD₀⟩
      · exact N₁ p hp'
  exact codeAny_compStart_list (loop _ rfl) (W.self 0 _ _ _ ⟨⟨_, old _ _ hE⟩, hI.at fun o ho => old _ o ho, lst₁ _ N₁⟩ (loop _ rfl))
/-- the source of a comprehension over «enumerate(l)», the element making nothing that stays -/
noncomputable def SrcE (prog : Program) (w : World) (A : Around) (h₀ : Heap) (L : Addr) (m : Str → Option Value) (env : Env) (elt : PySem.Expr) (x x₂ : Str) (scope : Scope) (cl : List (Str × Addr)) (Q : VQ) (xv : Value) (s₁ : Shared) : Prop :=
  ∃ (e it l : Addr) (vs : List Value) (nn : Nat) (news : LedT) (P : Nat → List Value → Prop), xv = .ref e ∧ A.handled = none ∧ Fr h₀ L s₁.heap m ∧ News h₀ L s₁.heap news ∧ (l, listOf vs.toArray nn) ∈ news ∧ IsEnum s₁.heap e it 0 .none ∧ s₁.heap.IsListIter it l 0 ∧ e ≠ it ∧
    e ≠ L ∧ it ≠ L ∧ h₀.get? e = none ∧ h₀.get? it = none ∧ (∀ p ∈ news, p.1 ≠ e) ∧ (∀ p ∈ news, p.1 ≠ it) ∧ vs.length ≤ sizeLine ∧ P 0 [] ∧
    (∀ (i : Nat) (v : Value) (ys : List Value) (t : Tok) (C D : Addr) (oE oI oC : Obj) (m₂ : Str → Option Value) (h : Heap) (tk : Nat) (E' : VQ), vs[i]? = some v → P i ys → NsObj oC m₂ → m₂ x = some (.int (i : Int) t) → m₂ x₂ = some v → Fr h₀ L h m →
      News h₀ L h ((e, oE) :: (it, oI) :: (C, oC) :: (D, lst ys) :: news) →
      wpAny (model prog w) A (eval elt (compEnvC scope cl C env)) (fun y s' => ∃ h' tk', s' = { s₁ with heap := h', toks := tk' } ∧ Fr h₀ L h' m ∧ News h₀ L h' ((e, oE) :: (it, oI) :: (C, oC) :: (D, lst ys) :: news) ∧ P (i + 1) (ys ++ [y])) E' { s₁ with heap := h, toks := tk }) ∧
    (∀ D ys h tk, P vs.length ys → Fr h₀ L h m → News h₀ L h ((D, lst ys) :: news) → Off1 D news → Q (.ref D) { s₁ with heap := h, toks := tk })
section
variable {prog : Program} {w : World} {A : Around} {E : VQ} {s : Shared} {h₀ : Heap} {L : Addr} {m : Str → Option Value} {env : Env}
theorem ListComp_E {elt iter : PySem.Expr} {x x₂ : Str} {px px₂ tp : Pos} {tk} {scope : Scope} {cl : List (Str × Addr)} {pos : Pos} {Q : VQ} (_F₀ : Fr h₀ L s.heap m)
    (hclos : closureFor scope env = pure cl) (hcell : ∀ y ∈ scope.names, y.2 ≠ .cell) (hkind : scope.kind = .function)
    (hnames : ∀ y ∈ scope.names, y.2 = .local → scope.names.lookup y.1 = some .local) (hx : scope.names.lookup x = some .local) (hx₂ : scope.names.lookup x₂ = some .local) (hxx : x ≠ x₂)
    (h : wpAny (model prog w) A (eval iter env) (SrcE prog w A h₀ L m env elt x x₂ scope cl Q) E s)
    (hs : ∀ x, foldedSetIterable iter env x = pure x := by intro _; rfl) :
    wpAny (model prog w) A (eval (.ListComp elt [⟨.Tuple [.Name x px, .Name x₂ px₂] tk tp, iter, [], 0⟩] scope pos) env) Q E s := by
  rw [eval_ListComp]
  refine wpAny_comprehension_free (use := none) rfl hs hclos hkind hnames (wpAny_mono h (fun xv s₁ h₁ => ?_) fun _ _ e => e)
  obtain ⟨e, it, l, vs, nn, news, P, rfl, hh, F, N, hl, hE, hI, hei, heL, hiL, he₀, hi₀, offE, offI, hsz, hp, step, fin⟩ := h₁
  refine wpAny_pyIter_enum hE ?_
  refine enum_block hl hE hI hei hcell hkind hx hx₂ hxx hh F N heL hiL he₀ hi₀ offE offI hsz hp step ?_
  intro D C h tk m' ys F' N' o1 hn hC₀ hD₀ hCL hDL hCD offC hP
  refine ⟨m', hn, fun h'' hs'' => fin D ys h'' tk hP (F'.change hs'' hCL hC₀) (fun p hp => ?_) o1⟩
  refine ⟨hs''.extBut _ _ ?_ (N' p hp).1, (N' p hp).2⟩
  rcases List.mem_cons.mp hp with rfl | hp
  · exact Ne.symm hCD
  · exact offC p hp
theorem enum_call {elt : PySem.Expr} {x x₂ : Str} {scope : Scope} {cl : List (Str × Addr)} {Q : VQ} {l : Addr} {vs : List Value} {nn : Nat} {news : LedT} (hh : A.handled = none) (F : Fr h₀ L s.heap m) (N : News h₀ L s.heap news) (hl : (l, listOf vs.toArray nn) ∈ news) (hsz : vs.length ≤ sizeLine)
    (P : Nat → List Value → Prop) (hp : P 0 [])
    (step : ∀ (e it : Addr) (i : Nat) (v : Value) (ys : List Value) (t : Tok) (C D : Addr) (oE oI oC : Obj) (m₂ : Str → Option Value) (h : Heap) (tk : Nat) (E' : VQ), vs[i]? = some v → P i ys → NsObj oC m₂ → m₂ x = some (.int (i : Int) t) → m₂ x₂ = some v → Fr h₀ L h m →
      News h₀ L h ((e, oE) :: (it, oI) :: (C, oC) :: (D, lst ys) :: news) →
      wpAny (model prog w) A (eval elt (compEnvC scope cl C env)) (fun y s' => ∃ h' tk', s' = { s with heap := h', toks := tk' } ∧ Fr h₀ L h' m ∧ News h₀ L h' ((e, oE) :: (it, oI) :: (C, oC) :: (D, lst ys) :: news) ∧ P (i + 1) (ys ++ [y])) E' { s with heap := h, toks := tk })
    (fin : ∀ D ys h tk, P vs.length ys → Fr h₀ L h m → News h₀ L h ((D, lst ys) :: news) → Off1 D news → Q (.ref D) { s with heap := h, toks := tk }) :
    wpAny (model prog w) A (call (.type "enumerate") [.ref l]) (SrcE prog w A h₀ L m env elt x x₂ scope cl Q) E s := by
  have hls : s.heap.IsList l vs.toArray := ⟨_, (N _ hl).1, rfl, nn, rfl⟩
  have fresh₀ : ∀ a, s.heap.objs.size ≤ a → h₀.get? a = none := fun a ha => by
    cases ho : h₀.get? a with
    | none => rfl
    | some o' => exact absurd (Heap.lt_size (F.keep a o' ho)) (Nat.not_lt.mpr ha)
  have lt : ∀ p ∈ news, p.1 < s.heap.objs.size := fun p hp' => Heap.lt_size (N p hp').1
  have hL : L < s.heap.objs.size := F.ns.lt
  refine call_enumerate_list hls fun h' hE hI _ hk => ?_
  exact ⟨s.heap.objs.size + 1, s.heap.objs.size, l, vs, nn, news, P, rfl, hh, F.keeps hk, N.grown hk, hl, hE, hI, Nat.succ_ne_self _, Nat.ne_of_gt (Nat.lt_succ_of_lt hL), Nat.ne_of_gt hL, fresh₀ _ (Nat.le_succ _), fresh₀ _ (Nat.le_refl _),
    fun p hp' => Nat.ne_of_lt (Nat.lt_succ_of_lt (lt p hp')), fun p hp' => Nat.ne_of_lt (lt p hp'), hsz, hp, step _ _, fin⟩
end
end
-- part L2
section
open PySem PySem.W PyProof.Rows PySem.Calls PySem.Spec PySem.SeqAt
/-- texts of true points -/
noncomputable def Oks (ys : List (List Nat)) : Prop := ∀ y ∈ ys, ∀ c ∈ y, c < 1114112
theorem strOk_tx {y : List Nat} (h : ∀ c ∈ y, c < 1114112) : PyData.strOk (tx y) = true := by
  simp [PyData.strOk, tx]
  exact h
theorem readsAll_strs {h : Heap} : ∀ {vs : List Value} {ys : List Str}, StrsAre vs ys → ReadsAll h vs (ys.map PyData.str) []
  | _, _, .nil => .nil
  | _, _, .cons k t r => by
    have := ReadsAll.cons (Reads.str (h := h) k t) (readsAll_strs (h := h) r)
    simpa using this
theorem lay_strs : ∀ ys : List (List Nat), Oks ys → PyData.canLayAll0 ((ys.map tx).map PyData.str) = true
  | [], _ => by simp [PyData.canLayAll0]
  | n :: r, h => by
    have h1 := strOk_tx (h n List.mem_cons_self)
    have h2 := lay_strs r fun y hy => h y (List.mem_cons_of_mem _ hy)
    simp only [List.map_cons, PyData.canLayAll0, PyData.canLay0, h1, h2]; rfl
theorem depth_strs : ∀ ys : List Str, PyData.depthAll (ys.map PyData.str) ≤ 1
  | [] => by simp [PyData.depthAll]
  | n :: r => by
    have := depth_strs r
    simp only [List.map_cons, PyData.depthAll, PyData.depth]
    omega
theorem shaped_strs (ys : List (List Nat)) (h : Oks ys) : shaped (.list ((ys.map tx).map PyData.str)) = true := by
  have h1 := depth_strs (ys.map tx)
  have h2 : PyData.depth (.list ((ys.map tx).map PyData.str)) ≤ 64 := by simp only [PyData.depth]; omega
  show (PyData.canLay0 (.list _) && decide (PyData.depth (.list _) ≤ 64)) = true
  rw [Bool.and_eq_true]
  exact ⟨by simp only [PyData.canLay0]; exact lay_strs ys h, decide_eq_true h2⟩
theorem eqv_strs : ∀ ys : List Str, PyData.eqvAll (ys.map PyData.str) (ys.map PyData.str) = true
  | [] => by simp [PyData.eqvAll]
  | n :: r => by simp [PyData.eqvAll, PyData.eqv, eqv_strs r]
section
variable {prog : Program} {w : World} {A : Around} {E : VQ} {s : Shared} {h₀ : Heap} {L a b : Addr} {news : LedT} {vs us : List Value} {k j : Nat} {ys : List (List Nat)} {Q : VQ}
theorem reads_strs (N : News h₀ L s.heap news) (ma : (a, listOf vs.toArray k) ∈ news) (hi : StrsAre vs (ys.map tx)) : Reads s.heap (.ref a) (.list ((ys.map tx).map PyData.str)) [a] :=
  Reads.list (N _ ma).1 rfl rfl (by simpa using readsAll_strs hi)
theorem ne_strs (N : News h₀ L s.heap news) (ma : (a, listOf vs.toArray k) ∈ news) (mb : (b, listOf us.toArray j) ∈ news) (hi : StrsAre vs (ys.map tx)) (hj : StrsAre us (ys.map tx)) (hv : Oks ys) (hu : A.units + 64 < cLine) (h : Q (.bool false) s) :
    wpAny (model prog w) A (compareOp .NotEq (.ref a) (.ref b)) Q E s := by
  refine ne_dataH (reads_strs N ma hi) (reads_strs N mb hj) (shaped_strs ys hv) (shaped_strs ys hv) hu ?_
  have e : PyData.eqv (.list ((ys.map tx).map PyData.str)) (.list ((ys.map tx).map PyData.str)) = true := by
    simp only [PyData.eqv]; exact eqv_strs _
  rw [e]; exact h
theorem eq_strs (N : News h₀ L s.heap news) (ma : (a, listOf vs.toArray k) ∈ news) (mb : (b, listOf us.toArray j) ∈ news) (hi : StrsAre vs (ys.map tx)) (hj : StrsAre us (ys.map tx)) (hv : Oks ys) (hu : A.units + 64 < cLine) (h : Q (.bool true) s) :
    wpAny (model prog w) A (compareOp .Eq (.ref a) (.ref b)) Q E s := by
  refine eq_dataH (reads_strs N ma hi) (reads_strs N mb hj) (shaped_strs ys hv) (shaped_strs ys hv) hu ?_
  have e : PyData.eqv (.list ((ys.map tx).map PyData.str)) (.list ((ys.map tx).map PyData.str)) = true := by
    simp only [PyData.eqv]; exact eqv_strs _
  rw [e]; exact h
theorem reads_pair (N : News h₀ L s.heap news) {x : List Nat} {i : Int} {t u : Tok} {o : Obj} (ma : (a, o) ∈ news) (ho : o = { cls := .type "tuple", data := .seq #[.str (tx x) t, .int i u] k }) : Reads s.heap (.ref a) (.tuple [.str (tx x), .int i]) [] := by
  subst ho
  refine Reads.tuple (N _ ma).1 rfl rfl ?_
  have := ReadsAll.cons (Reads.str (h := s.heap) (tx x) t) (ReadsAll.cons (Reads.int (h := s.heap) i u) .nil)
  simpa using this
theorem shaped_pair {x : List Nat} {i : Int} (h : ∀ c ∈ x, c < 1114112) : shaped (.tuple [.str (tx x), .int i]) = true := by
  have h1 := strOk_tx h
  show (PyData.canLay0 (.tuple _) && decide (PyData.depth (.tuple _) ≤ 64)) = true
  rw [Bool.and_eq_true]
  refine ⟨by simp only [PyData.canLay0, PyData.canLayAll0, h1]; rfl, ?_⟩
  simp [PyData.depth, PyData.depthAll]
theorem ne_pair (N : News h₀ L s.heap news) {x : List Nat} {i i' : Int} {t u t' u' : Tok} {o o' : Obj} (ma : (a, o) ∈ news) (ho : o = { cls := .type "tuple", data := .seq #[.str (tx x) t, .int i u] k }) (mb : (b, o') ∈ news) (ho' : o' = { cls := .type "tuple", data := .seq #[.str (tx x) t', .int i' u'] j })
    (hii : i = i') (hv : ∀ c ∈ x, c < 1114112) (hu : A.units + 64 < cLine) (h : Q (.bool false) s) : wpAny (model prog w) A (compareOp .NotEq (.ref a) (.ref b)) Q E s := by
  subst hii
  refine ne_dataH (reads_pair N ma ho) (reads_pair N mb ho') (shaped_pair hv) (shaped_pair hv) hu ?_
  have e : PyData.eqv (.tuple [.str (tx x), .int i]) (.tuple [.str (tx x), .int i]) = true := by simp [PyData.eqv, PyData.eqvAll]
  rw [e]; exact h
theorem eq_pair (N : News h₀ L s.heap news) {x : List Nat} {i i' : Int} {t u t' u' : Tok} {o o' : Obj} (ma : (a, o) ∈ news) (ho : o = { cls := .type "tuple", data := .seq #[.str (tx x) t, .int i u] k }) (mb : (b, o') ∈ news) (ho' : o' = { cls := .type "tuple", data := .seq #[.str (tx x) t', .int i' u'] j })
    (hii : i = i') (hv : ∀ c ∈ x, c < 1114112) (hu : A.units + 64 < cLine) (h : Q (.bool true) s) : wpAny (model prog w) A (compareOp .Eq (.ref a) (.ref b)) Q E s := by
  subst hii
  refine eq_dataH (reads_pair N ma ho) (reads_pair N mb ho') (shaped_pair hv) (shaped_pair hv) hu ?_
  have e : PyData.eqv (.tuple [.str (tx x), .int i]) (.tuple [.str (tx x), .int i]) = true := by simp [PyData.eqv, PyData.eqvAll]
  rw [e]; exact h
end
theorem strs1 (T : List Nat) (t : Tok) : StrsAre [.str (tx T) t] ([T].map tx) := .cons _ _ .nil
theorem strs3 (T : List Nat) (t t' t'' : Tok) (e1 : Str.ofString "#" = tx [35]) (e2 : Str.ofString "" = tx []) : StrsAre [.str (Str.ofString "#") t, .str (tx T) t', .str (Str.ofString "") t''] ([[35], T, []].map tx) := by
  rw [e1, e2]; exact .cons _ _ (.cons _ _ (.cons _ _ .nil))
end
theorem fillW : (fun (_ : OpenLaw) (_ : Params → Frag) => True) PySem.Challenge.rw_np0132_01 hd.heap_39 := by
  k_fill
  trivial
theorem words1 : True := by
  w_top off
  (k_with "exec While BoolOp cons nil" => refine Mine.stop_ ?_)
  (k_with "exec While Compare cons nil" => refine Mine.stop_ ?_)
  (k_with "exec For Name Name cons nil" => refine Mine.stop_ ?_)
  (k_with "exec For Name Call cons nil" => refine Mine.stop_ ?_)
  (k_with "call builtin:len" => ((with_reducible show wpAny _ _ (call (Value.builtin "len") [Value.str (Mine.tx _) _]) _ _ _); refine Mine.len_tx (by first | assumption | omega) ?_))
  (k_with "call builtin:str.find" => ((with_reducible show wpAny _ _ (call (Value.builtin "str.find") [Value.str _ _, Value.str _ _]) _ _ _); refine Mine.find_is (by with_reducible assumption) ?_))
  (k_with "subscriptTail Name Name str int" => (refine Mine.item_at (by with_reducible assumption) ?_))
  (k_with "subscriptTail Name Constant str int" => (refine Mine.item_at (by with_reducible assumption) ?_))
  (k_with "subscriptTail Constant Name str int" => (refine Mine.item_at (by with_reducible assumption) ?_))
  (k_with "subscriptTail Name Slice str ref" => ((with_reducible show wpAny _ _ (subscriptTail _ (PySem.Expr.Slice (some _) (some _) none _) _ _) _ _ _); (with_reducible rename Fr _ _ _ _ => F'); (with_reducible rename News _ _ _ _ => N'); (refine Mine.slice_sl (s := ⟨_, _, _, _, _⟩) F' N' (by with_reducible assumption) ?_); intro _ _ _ _ _; (try k_sweep)))
  (k_with "mine facts" => ((repeat ((with_reducible rename (@Eq Bool (List.any _ _) _) => hx); (simp only [any_blank, any_esc1, any_br2, any_q2, any_sp4, any_br3, any_bg2] at hx); revert hx)); (repeat ((with_reducible rename (@Eq Bool (@BEq.beq Str _ _ _) _) => hx); (simp only [lit_32, lit_9, lit_10, lit_11, lit_12, lit_13, lit_91, lit_93, lit_36, lit_59, lit_92, lit_34, lit_35, lit_123, lit_125, lit_nil, tx_beq, one_beq] at hx); revert hx)); intros))
  (k_with "mine sub" => (intro p hp; (try simp only [List.nil_append, List.cons_append] at hp); repeat (first | exact hp | exact List.mem_cons_self | refine List.mem_cons_of_mem _ ?_)))
  (k_with "mine sub1" => (intro p hp; (rcases List.mem_cons.mp hp with hp | hp); (exact hp ▸ List.mem_cons_self); repeat (first | exact hp | refine List.mem_cons_of_mem _ ?_)))
  (k_with "mine ord" => first | exact Mine.ord1 (by assumption) | ((rename (AllLt _ _) => hl); exact Mine.ord1 (kst_ltOf hl)) | ((rename (_ ∧ AllLt _ _) => hl); exact Mine.ord1 (kst_ltOf hl.2)) | ((rename (_ ∧ _ ∧ AllLt _ _) => hl); exact Mine.ord1 (kst_ltOf hl.2.2)) | ((rename (_ ∧ _ ∧ _ ∧ AllLt _ _) => hl); exact Mine.ord1 (kst_ltOf hl.2.2.2)))
  (k_with "mine ret" => ((with_reducible rename Fr _ _ _ _ => kF); (with_reducible rename News _ _ _ _ => kN); refine hret _ [] _ _ ⟨rfl, ?_⟩ (fun _ h => nomatch h) kF (cb_drop kN (by walk_at "mine sub"))))
  (k_with "mine rettup" => ((with_reducible rename Fr _ _ _ _ => kF); (with_reducible rename News _ _ _ _ => kN); refine hret _ [(_, _)] _ _ ⟨_, _, _, rfl, rfl⟩ ?ord kF (cb_drop kN (by walk_at "mine sub1")); (case ord => walk_at "mine ord")))
  (k_with "mine start" => (unfold Ctr; intro mean mg mb dp un gd cn cs a ccd cl outer A₀ base h₀ L m news sh sg sd sk so Q E B F X N T hk hdp hun hpre hret))
  (k_with "mine enter" => (refine wpAny_call ?_; k_dflt cell_enter))
  (k_with "KswEnd" => refine Mine.stop_ ?_)
  (k_with "mine kk" => repeat (first | exact List.forall_mem_nil _ | refine List.forall_mem_cons.mpr ⟨by with_unfolding_all rfl, ?_⟩))
  (k_with "mine look" => (unfold Stop; (with_reducible rename Fr _ _ _ _ => kF); (with_reducible rename News _ _ _ _ => kN)))
  (k_with "mine mem" => (repeat (first | exact List.mem_cons_self | refine List.mem_cons_of_mem _ ?_)))
  (k_with "mine same" => first | (intro z h2 h3; (have h5 := Mine.same_names h2); (dsimp only [List.map] at h5); (have h6 := Mine.same_stored h3); (repeat (first | (refine' (if_neg (h5 _ ?mm)).trans ?_; (case mm => with_reducible walk_at "mine mem")) | (refine' (if_neg (h6 _ ?mm)).trans ?_; (case mm => with_reducible walk_at "mine mem")))); (first | exact Mine.stored_out h3 | (refine' (Mine.kstB_out ?hh).trans (Mine.stored_out h3); exact h5))) | (intro z h2 h3; (simp only [List.forall_mem_cons, List.not_mem_nil, false_implies, implies_true, and_true, ne_eq] at h2); (try simp only [List.contains_cons, List.contains_nil, Bool.or_false, Bool.or_eq_false_iff, beq_eq_false_iff_ne, ne_eq] at h3); simp [kstB, h2, h3]))
  trivial
local macro_rules | `(tactic| k_all) => `(tactic| first | exact Mine.neAll (by with_reducible assumption) | exact Mine.neAll' (by with_reducible assumption) | ((with_reducible rename (_ ∧ AllLt _ _) => hA9); exact Mine.neAll' hA9.2) | ((with_reducible rename (_ ∧ _ ∧ AllLt _ _) => hA9); exact Mine.neAll' hA9.2.2))
theorem words2 : True := by
  w_top off
  (k_with "call builtin:str.join" => (k_here; (with_reducible show wpAny _ _ (call (Value.builtin "str.join") [Value.str _ _, Value.ref _]) _ _ _); k_dflt (refine' Mine.join_is ?k1 ?k2 ?k3 ?k4 ?k5 ?_; (case k1 => k_asm); (case k2 => k_mem); (case k3 => with_reducible assumption); (case k4 => with_reducible assumption); (case k5 => with_reducible assumption)); intro _ _))
  (k_with "mine subL" => (intro p hp; (rcases List.mem_cons.mp hp with hp | hp); (rw [hp]; k_mem); repeat (first | exact hp | refine List.mem_cons_of_mem _ ?_)))
  (k_with "mine retlst" => ((with_reducible rename Fr _ _ _ _ => kF); (with_reducible rename News _ _ _ _ => kN); refine hret _ [(_, _)] _ _ ⟨_, _, _, rfl, rfl, ?_⟩ ?ord kF (cb_drop kN (by walk_at "mine sub1")); (case ord => walk_at "mine ord")))
  (k_with "pyIter str" => ((with_reducible show wpAny _ _ (pyIter (Value.str _ _)) (fun it s₂ => LoopAtV _ _ _ _ _ _ _ _ _ it s₂) _ _); refine Mine.stop_ ?_))
  (k_with "pyIter ref" => ((with_reducible show wpAny _ _ (pyIter (Value.ref _)) (fun it s₂ => LoopAtV _ _ _ _ _ _ _ _ _ it s₂) _ _); refine Mine.stop_ ?_))
  (k_with "InvEndN" => refine Mine.stop_ ?_)
  (k_with "InvEndG" => refine Mine.stop_ ?_)
  (k_with "binaryOp Add str str" => ((with_reducible show wpAny _ _ (binaryOp _ (Value.str _ _) (Value.str _ _)) _ _ _); refine Mine.add_any (by with_reducible assumption) (by with_reducible assumption) ?_; intro _ _))
  trivial
local macro_rules | `(tactic| k_all) => `(tactic| with_reducible assumption)
theorem words3 : True := by
  w_top off
  (k_with "mine enterD" => (refine wpAny_call ?_; k_dflt (refine' code_def ?k1 ?k2 ?k3 ?k4 ?k5 ?kA ?kF ?kK ?k6 ?k7 ?k8 ?k9 ?kB ?_ ?c2 ?c3 ?c4 ?c5; (case kA => exact rfl); (case kF => exact rfl); (case kK => assumption); (case k1 => k_asm); (case k2 => k_asm); (case k3 => k_asm); (case k4 => k_asm); (case k5 => k_asm); (case k6 => k_is); (case k7 => k_is); (case k8 => ktr_room); (case k9 => first | exact binds_K (by k_in) rfl (by k_is) rfl rfl rfl | exact BindsTo.of_eq rfl); (case c5 => decide); (case kB => exact locs rfl); (case c2 => exact rfl); (case c3 => exact rfl); (case c4 => exact rfl); k_whole; intro g' L' h' FG' F' N' B' X' T'; (try dsimp only); (try k_lift B'); (try k_fold))))
  (k_with "exec If Compare cons cons" => ((with_reducible rename Mine.Flag => hflag); clear hflag; refine Mine.stop_ ?_))
  (k_with "exec If Compare cons nil" => ((with_reducible rename Mine.Flag => hflag); clear hflag; refine Mine.stop_ ?_))
  (k_with "exec If BoolOp cons nil" => ((with_reducible rename Mine.Flag => hflag); clear hflag; refine Mine.stop_ ?_))
  (k_with "mine ms" => first | (refine' Mine.meas1 ?_; assumption) | (refine' Mine.meas11 ?_; assumption) | (refine' Mine.meas2 ?_; assumption) | (dsimp only; omega))
  (k_with "execs cons" => ((try k_gentoks); (with_reducible refine Mine.seq_cut ?_); intro kP kPK; (try dsimp only)))
  (k_with "execs cons" => ((with_reducible refine Mine.seq_last ?_); (try dsimp only)))
  (k_with "execs cons" => ((with_reducible show wpAny _ _ (execs _ _) (KswPost _ _ _ _ _ _ _ _ _ _ _ _) _ _); (with_reducible refine Mine.post_cut ?_); intro kP kPK))
  (k_with "PF next" => first | (with_reducible refine Mine.SeqK.next (by with_reducible assumption) ?_) | (with_reducible refine Mine.PostK.use (by with_reducible assumption) ?_))
  (k_with "PF ret" => first | (with_reducible refine Mine.SeqK.ret (by with_reducible assumption) ?_) | (with_reducible refine Mine.PostK.use (by with_reducible assumption) ?_))
  (k_with "PF brk" => first | (with_reducible refine Mine.SeqK.brk (by with_reducible assumption) ?_) | (with_reducible refine Mine.PostK.use (by with_reducible assumption) ?_))
  (k_with "PF cont" => first | (with_reducible refine Mine.SeqK.cont (by with_reducible assumption) ?_) | (with_reducible refine Mine.PostK.use (by with_reducible assumption) ?_))
  (k_with "eval Constant int" => with_reducible refine Mine.k_int ?_)
  (k_with "eval Constant str" => with_reducible refine Mine.k_str ?_)
  (k_with "storeName" => (k_here; k_dflt (refine' Mine.k_store ?F ?N ?_ ?a ?b; (case F => k_asm); (case N => k_asm); (case a => rfl); (case b => rfl); k_whole); intro h' F' N'; (try k_sweep)))
  (k_with "newTuple" => (k_here; kup_bare; k_dflt (refine' Mine.k_tup ?F ?N ?_ ?z; (case F => k_asm); (case N => k_asm); (case z => kmk_size)); intro D' h' F' N' l1; (try k_lt l1); (try k_sweep)))
  (k_with "binaryOp Add int int" => with_reducible refine Mine.k_add ?_)
  (k_with "inplaceOp Add int int" => with_reducible refine Mine.k_iadd ?_)
  (k_with "inplaceOp Sub int int" => with_reducible refine Mine.k_isub ?_)
  trivial
local macro_rules | `(tactic| walk_at $s:str) => `(tactic| k_extra $s)
-- part W1
section
open PySem PySem.W PyProof.Rows PySem.Calls PySem.Spec
theorem tx_beq (a b : List Nat) : (tx a == tx b) = (a == b) := by
  rw [Bool.eq_iff_iff, beq_iff_eq, beq_iff_eq, tx_inj]
theorem one_beq (a b : Nat) : ([a] == [b]) = (a == b) := by
  rw [Bool.eq_iff_iff, beq_iff_eq, beq_iff_eq]; simp
theorem lit_32 : Str.ofString " " = tx [32] := by decide +kernel
theorem lit_9 : Str.ofString "\t" = tx [9] := by decide +kernel
theorem lit_10 : Str.ofString "\n" = tx [10] := by decide +kernel
theorem lit_11 : Str.ofString "\x0b" = tx [11] := by decide +kernel
theorem lit_12 : Str.ofString "\x0c" = tx [12] := by decide +kernel
theorem lit_13 : Str.ofString "\x0d" = tx [13] := by decide +kernel
theorem lit_91 : Str.ofString "[" = tx [91] := by decide +kernel
theorem lit_93 : Str.ofString "]" = tx [93] := by decide +kernel
theorem lit_36 : Str.ofString "$" = tx [36] := by decide +kernel
theorem lit_59 : Str.ofString ";" = tx [59] := by decide +kernel
theorem lit_92 : Str.ofString "\\" = tx [92] := by decide +kernel
theorem lit_34 : Str.ofString "\"" = tx [34] := by decide +kernel
theorem lit_35 : Str.ofString "#" = tx [35] := by decide +kernel
theorem lit_123 : Str.ofString "{" = tx [123] := by decide +kernel
theorem lit_125 : Str.ofString "}" = tx [125] := by decide +kernel
theorem lit_nil : Str.ofString "" = tx [] := by decide +kernel
noncomputable def blank (c : Nat) : Bool := [32, 9, 10, 11, 12, 13].any fun x => x == c
noncomputable def esc1 (c : Nat) : Bool := [93, 91, 36, 59, 32, 92, 34].any fun x => x == c
noncomputable def br2 (c : Nat) : Bool := [123, 125].any fun x => x == c
noncomputable def q2 (c : Nat) : Bool := [93, 34].any fun x => x == c
noncomputable def sp4 (c : Nat) : Bool := [91, 36, 59, 92].any fun x => x == c
noncomputable def br3 (c : Nat) : Bool := [123, 125, 92].any fun x => x == c
noncomputable def bg2 (c : Nat) : Bool := [123, 34].any fun x => x == c
section
variable (c : Nat)
theorem any_blank : ([Str.ofString " ", Str.ofString "\t", Str.ofString "\n", Str.ofString "\x0b", Str.ofString "\x0c", Str.ofString "\x0d"].any fun x => x == tx [c]) = blank c := by
  simp only [blank, lit_32, lit_9, lit_10, lit_11, lit_12, lit_13, tx_beq, one_beq, List.any_cons, List.any_nil]
theorem any_esc1 : ([Str.ofString "]", Str.ofString "[", Str.ofString "$", Str.ofString ";", Str.ofString " ", Str.ofString "\\", Str.ofString "\""].any fun x => x == tx [c]) = esc1 c := by
  simp only [esc1, lit_32, lit_91, lit_93, lit_36, lit_59, lit_92, lit_34, tx_beq, one_beq, List.any_cons, List.any_nil]
theorem any_br2 : ([Str.ofString "{", Str.ofString "}"].any fun x => x == tx [c]) = br2 c := by
  simp only [br2, lit_123, lit_125, tx_beq, one_beq, List.any_cons, List.any_nil]
theorem any_q2 : ([Str.ofString "]", Str.ofString "\""].any fun x => x == tx [c]) = q2 c := by
  simp only [q2, lit_93, lit_34, tx_beq, one_beq, List.any_cons, List.any_nil]
theorem any_sp4 : ([Str.ofString "[", Str.ofString "$", Str.ofString ";", Str.ofString "\\"].any fun x => x == tx [c]) = sp4 c := by
  simp only [sp4, lit_91, lit_36, lit_59, lit_92, tx_beq, one_beq, List.any_cons, List.any_nil]
theorem any_br3 : ([Str.ofString "{", Str.ofString "}", Str.ofString "\\"].any fun x => x == tx [c]) = br3 c := by
  simp only [br3, lit_123, lit_125, lit_92, tx_beq, one_beq, List.any_cons, List.any_nil]
theorem any_bg2 : ([Str.ofString "{", Str.ofString "\""].any fun x => x == tx [c]) = bg2 c := by
  simp only [bg2, lit_123, lit_34, tx_beq, one_beq, List.any_cons, List.any_nil]
end
/-- a text of one sign is found in a literal, or it is not -/
theorem find_none {l : List Nat} {c : Nat} (h : c ∉ l) : Txt.find (tx l) (tx [c]) = -1 := by
  have hf := PySem.StrLaws.found_one (tx l) c
  have hd : decide (c ∈ (tx l).cps.toList) = false := by simp [tx, h]
  rw [hd] at hf
  unfold Txt.find
  have e : (⟨#[c]⟩ : Str) = tx [c] := rfl
  rw [e] at hf
  cases ho : PySem.Builtin.Str.occurrences (tx l) (tx [c]) 0 (tx l).length 1 with
  | nil => rfl
  | cons i r => rw [ho] at hf; simp at hf
theorem lit_fnrtv : Str.ofString "fnrtv" = tx [102, 110, 114, 116, 118] := by decide +kernel
theorem lit_ctl : Str.ofString "\x0c\n\x0d\t\x0b" = tx [12, 10, 13, 9, 11] := by decide +kernel
theorem ord1 {l : LedT} {d : Addr} {o : Obj} (h : ∀ p ∈ l, p.1 < d) : ∀ q ∈ [(d, o)], ∀ p ∈ l, p.1 < q.1 := fun q hq p hp => by
  rw [List.mem_singleton.mp hq]; exact h p hp
theorem c_is_blank (w : World) (c : Nat) (t : Tok) : Ctr w 52 1 [.str (tx [c]) t] (fun _ => True) (fun nx v => nx = [] ∧ v = .bool (blank c)) := by
  walk_at "mine start"
  walk_at "mine enter"
  k_steps
  walk_at "mine ret"
  simp only [any_blank]
noncomputable def escF (deep : Bool) (c : Nat) : List Nat :=
  if c = 12 then [92, 102] else if c = 10 then [92, 110] else if c = 13 then [92, 114] else if c = 9 then [92, 116] else if c = 11 then [92, 118]
  else if (esc1 c || (deep && br2 c)) = true then [92, c] else [c]
theorem esc_case (c : Nat) (deep : Bool) : (∃ p d, Txt.find (Str.ofString "\x0c\n\x0d\t\x0b") (tx [c]) = p ∧ 0 ≤ p ∧ At (Str.ofString "fnrtv") p d ∧ escF deep c = [92, d]) ∨ (Txt.find (Str.ofString "\x0c\n\x0d\t\x0b") (tx [c]) = -1 ∧ escF deep c = if (esc1 c || (deep && br2 c)) = true then [92, c] else [c]) := by
  by_cases h12 : c = 12
  · exact .inl ⟨0, 102, by subst h12; decide +kernel, by decide, by rw [lit_fnrtv]; exact At.of (n := 0) (by decide) rfl rfl, by simp [escF, h12]⟩
  by_cases h10 : c = 10
  · exact .inl ⟨1, 110, by subst h10; decide +kernel, by decide, by rw [lit_fnrtv]; exact At.of (n := 1) (by decide) rfl rfl, by simp [escF, h10]⟩
  by_cases h13 : c = 13
  · exact .inl ⟨2, 114, by subst h13; decide +kernel, by decide, by rw [lit_fnrtv]; exact At.of (n := 2) (by decide) rfl rfl, by simp [escF, h13]⟩
  by_cases h9 : c = 9
  · exact .inl ⟨3, 116, by subst h9; decide +kernel, by decide, by rw [lit_fnrtv]; exact At.of (n := 3) (by decide) rfl rfl, by simp [escF, h9]⟩
  by_cases h11 : c = 11
  · exact .inl ⟨4, 118, by subst h11; decide +kernel, by decide, by rw [lit_fnrtv]; exact At.of (n := 4) (by decide) rfl rfl, by simp [escF, h11]⟩
  refine .inr ⟨?_, by simp [escF, h12, h10, h13, h9, h11]⟩
  rw [lit_ctl]
  exact find_none (by simp [h12, h10, h13, h9, h11])
theorem c_escaped (w : World) (c : Nat) (t : Tok) (deep : Bool) : Ctr w 136 1 [.str (tx [c]) t, .bool deep] (fun _ => True) (fun nx v => nx = [] ∧ ∃ t', v = .str (tx (escF deep c)) t') := by
  walk_at "mine start"
  rcases esc_case c deep with ⟨p, d, hf, hp0, hat, he⟩ | ⟨hf, he⟩
  · walk_at "mine enter"
    k_steps
    walk_at "mine ret"
    rw [he, lit_92, tx_app]
    exact ⟨_, rfl⟩
  · walk_at "mine enter"
    k_steps
    all_goals walk_at "mine facts"
    all_goals walk_at "mine ret"
    all_goals (rw [he])
    all_goals (try simp only [lit_92, tx_app])
    all_goals refine ⟨_, congrArg (fun z => Value.str (tx z) _) ?_⟩
    all_goals simp_all
/-- what stands behind an element: nothing, or a blank -/
noncomputable def Behind (l : List Nat) (k : Int) : Prop := (k = l.length) ∨ ∃ c, At (tx l) k c ∧ blank c = true
theorem words4 : True := by
  w_top off
  (k_with "call ref" => (k_here; (with_reducible show wpAny _ _ (call (Value.ref 52) [Value.str (Mine.tx [_]) _]) _ _ _); k_dflt (refine' Ctr.use_val (Mine.c_is_blank _ _ _) ?k1 ?k2 ?k3 ?k4 ?k5 ?kK ?kd ?ku ?kp ?_); (case k1 => k_asm); (case k2 => k_asm); (case k3 => k_asm); (case k4 => k_asm); (case k5 => k_asm); (case kK => first | exact rfl | assumption); (case kd => first | (k_dflt exact Mine.room_ hdp rfl) | ktr_room); (case ku => first | (k_dflt exact Mine.units_ hun rfl) | ktr_units); (case kp => first | exact trivial | k_mem); intro h9 tk9 F9 N9; (try dsimp only); (try k_fold); (try k_sweep)))
  (k_with "call ref" => (k_here; (with_reducible show wpAny _ _ (call (Value.ref 136) [Value.str (Mine.tx [_]) _, Value.bool _]) _ _ _); k_dflt (refine' Ctr.use_str (Mine.c_escaped _ _ _ _) ?k1 ?k2 ?k3 ?k4 ?k5 ?kK ?kd ?ku ?kp ?_); (case k1 => k_asm); (case k2 => k_asm); (case k3 => k_asm); (case k4 => k_asm); (case k5 => k_asm); (case kK => first | exact rfl | assumption); (case kd => first | (k_dflt exact Mine.room_ hdp rfl) | ktr_room); (case ku => first | (k_dflt exact Mine.units_ hun rfl) | ktr_units); (case kp => first | exact trivial | k_mem); intro t9 h9 tk9 F9 N9; (try dsimp only); (try k_fold); (try k_sweep)))
  trivial
theorem c_check_behind (w : World) (l : List Nat) (k : Int) (d : Str) (t u v : Tok) (hl : l.length ≤ 1000) (hb : Behind l k) : Ctr w 87 2 [.str (tx l) t, .int k u, .str d v] (fun _ => True) (fun nx v => nx = [] ∧ v = .none) := by
  walk_at "mine start"
  rcases hb with hb | ⟨c, hc, hbl⟩
  · walk_at "mine enter"
    subst hb
    k_steps
    all_goals walk_at "mine ret"
    all_goals rfl
  · walk_at "mine enter"
    k_steps
    all_goals walk_at "mine ret"
    all_goals rfl
theorem words5 : True := by
  w_top off
  (k_with "call ref" => (k_here; (with_reducible show wpAny _ _ (call (Value.ref 87) [Value.str (Mine.tx _) _, Value.int _ _, Value.str _ _]) _ _ _); k_dflt (refine' Ctr.use_val (Mine.c_check_behind _ _ _ _ _ _ _ ?p1 ?p2) ?k1 ?k2 ?k3 ?k4 ?k5 ?kK ?kd ?ku ?kp ?_); (case k1 => k_asm); (case k2 => k_asm); (case k3 => k_asm); (case k4 => k_asm); (case k5 => k_asm); (case kK => first | exact rfl | assumption); (case kd => first | (k_dflt exact Mine.room_ hdp rfl) | ktr_room); (case ku => first | (k_dflt exact Mine.units_ hun rfl) | ktr_units); (case p1 => assumption); (case p2 => assumption); (case kp => first | exact trivial | k_mem); intro h9 tk9 F9 N9; (try dsimp only); (try k_fold); (try k_sweep)))
  trivial
/-- what a backslash and a sign stand for -/
noncomputable def Dec (e d : Nat) : Prop :=
  (∃ p, Txt.find (Str.ofString "abfnrtv") (tx [e]) = p ∧ 0 ≤ p ∧ At (Str.ofString "\x07\x08\x0c\n\x0d\t\x0b") p d) ∨
  (Txt.find (Str.ofString "abfnrtv") (tx [e]) = -1 ∧ (tx [e] == Str.ofString "\n") = false ∧ ([Str.ofString "x", Str.ofString "u", Str.ofString "U"].any fun x => x == tx [e]) = false ∧
    ([Str.ofString "0", Str.ofString "1", Str.ofString "2", Str.ofString "3", Str.ofString "4", Str.ofString "5", Str.ofString "6", Str.ofString "7"].any fun x => x == tx [e]) = false ∧ d = e)
theorem c_backslash (w : World) (l : List Nat) (k : Int) (e d : Nat) (t u : Tok) (hs : Sl (tx l) (k + 1) (k + 2) (tx [e])) (hd : Dec e d) :
    Ctr w 80 1 [.str (tx l) t, .int k u] (fun _ => True) (fun nx v => ∃ a t1 t2, nx = [(a, tupOf [.str (tx [d]) t1, .int (k + 2) t2])] ∧ v = .ref a) := by
  walk_at "mine start"
  have hne : (tx [e] == Str.ofString "") = false := by rw [lit_nil, tx_beq]; rfl
  rcases hd with ⟨p, hf, hp0, hat⟩ | ⟨hf, h1, h2, h3, rfl⟩
  · walk_at "mine enter"
    k_steps
    all_goals walk_at "mine rettup"
  · walk_at "mine enter"
    k_steps
    all_goals walk_at "mine rettup"
theorem words6 : True := by
  w_top off
  (k_with "call ref" => (k_here; (with_reducible show wpAny _ _ (call (Value.ref 80) [Value.str (Mine.tx _) _, Value.int _ _]) _ _ _); k_dflt (refine' Ctr.use_tup (Mine.c_backslash _ _ _ _ _ _ _ ?p1 ?p2) ?k1 ?k2 ?k3 ?k4 ?k5 ?kK ?kd ?ku ?kp ?_); (case k1 => k_asm); (case k2 => k_asm); (case k3 => k_asm); (case k4 => k_asm); (case k5 => k_asm); (case kK => first | exact rfl | assumption); (case kd => first | (k_dflt exact Mine.room_ hdp rfl) | ktr_room); (case ku => first | (k_dflt exact Mine.units_ hun rfl) | ktr_units); (case p1 => assumption); (case p2 => assumption); (case kp => first | exact trivial | k_mem); intro a9 t9 u9 h9 tk9 l9 F9 N9; (try k_lt l9); (try dsimp only); (try k_fold); (try k_sweep)))
  trivial
end
-- part W2
section
open PySem PySem.W PyProof.Rows PySem.Calls PySem.Spec
/-- the place of the closing brace, counted from here -/
noncomputable def bscan : List Nat → Nat → Option Nat
  | [], _ => none
  | c :: r, d =>
    if c = 92 then match r with
      | [] => none
      | _ :: r' => (bscan r' d).map (· + 2)
    else if c = 123 then (bscan r (d + 1)).map (· + 1)
    else if c = 125 then if d = 1 then some 0 else (bscan r (d - 1)).map (· + 1)
    else (bscan r d).map (· + 1)
theorem bscan_cons (c : Nat) (r : List Nat) (d : Nat) : bscan (c :: r) d = if c = 92 then (match r with
      | [] => none
      | _ :: r' => (bscan r' d).map (· + 2))
    else if c = 123 then (bscan r (d + 1)).map (· + 1)
    else if c = 125 then if d = 1 then some 0 else (bscan r (d - 1)).map (· + 1)
    else (bscan r d).map (· + 1) := by
  cases r <;> simp only [bscan]
theorem drop_get {l : List Nat} {i : Nat} {c : Nat} {r : List Nat} (h : l.drop i = c :: r) : l[i]? = some c ∧ i < l.length ∧ l.drop (i + 1) = r := by
  have h1 : l[i]? = some c := by
    have := congrArg (fun x => x[0]?) h
    simpa using this
  have h2 : i < l.length := (List.getElem?_eq_some_iff.mp h1).1
  refine ⟨h1, h2, ?_⟩
  have := congrArg (List.drop 1) h
  simpa [List.drop_drop, Nat.add_comm] using this
theorem drop_nil {l : List Nat} {i : Nat} (h : l.drop i = []) : l.length ≤ i := by
  simpa using h
theorem At.dropped {l : List Nat} {i : Nat} {c : Nat} {r : List Nat} (hl : l.length ≤ 1000) (h : l.drop i = c :: r) : At (tx l) (i : Int) c :=
  At.of (by (try dsimp only); omega) rfl (drop_get h).1
theorem eq_tt {a b : Nat} (h : a = b) : (tx [a] == tx [b]) = true := by
  rw [h]; exact beq_self_eq_true _
theorem eq_ff {a b : Nat} (h : a ≠ b) : (tx [a] == tx [b]) = false := by
  rw [tx_beq, one_beq]; exact beq_eq_false_iff_ne.mpr h
structure BrS where
  i : Int
  ti : Tok
  d : Int
  td : Tok
theorem c_braced (w : World) (l x : List Nat) (k : Int) (f n r : Nat) (t u : Tok) (hl : l.length ≤ 1000) (hk0 : k = (f : Int)) (hb : bscan (l.drop f) 1 = some n) (hx : (l.drop f).take n = x) (hr : r = f + n + 1) (hbeh : Behind l (r : Int)) :
    Ctr w 94 3 [.str (tx l) t, .int k u] (fun _ => True) (fun nx v => ∃ a t1 t2, nx = [(a, tupOf [.str (tx x) t1, .int (r : Int) t2])] ∧ v = .ref a) := by
  subst hk0
  walk_at "mine start"
  walk_at "mine enter"
  k_steps
  unfold Stop
  with_reducible rename Fr _ _ _ _ => F1
  with_reducible rename News _ _ _ _ => N1
  refine' ksw_while (σ := BrS) (fun _ => news) (fun c => [(Str.ofString "at", .int c.i c.ti), (Str.ofString "depth", .int c.d c.td)]) (fun _ => True) [Str.ofString "c"]
    (fun c => ∃ (i d m : Nat), c.i = (i : Int) ∧ c.d = (d : Int) ∧ bscan (l.drop i) d = some m ∧ i + m = f + n ∧ 1 ≤ d ∧ f ≤ i) (fun c => l.length - c.i.toNat) ⟨_, _, _, _⟩ F1 ?kn trivial ?kk ?kp ?_
  case kn => exact cb_drop N1 (by walk_at "mine sub")
  case kk => walk_at "mine kk"
  case kp => exact ⟨f, 1, n, rfl, rfl, hb, rfl, Nat.le_refl _, Nat.le_refl _⟩
  clear F1 N1
  rintro ⟨I, ti, D, td⟩ kU kH kTk - ⟨i, d, m', hI, hD, hsc, hm, hd1, hfi⟩ kFr kNews
  dsimp only at hI hD kFr kNews ⊢
  subst hI hD
  cases hdr : l.drop i with
  | nil => rw [hdr] at hsc; simp [bscan] at hsc
  | cons c r' =>
    have hat := At.dropped hl hdr
    have hlt := (drop_get hdr).2.1
    have hdr1 := (drop_get hdr).2.2
    rw [hdr] at hsc
    try k_fold
    have hflag := flag
    k_steps
    walk_at "mine look"
    by_cases h92 : c = 92
    · have t92 := eq_tt h92
      rw [← lit_92] at t92
      cases hr1 : r' with
      | nil => rw [hr1, bscan_cons, if_pos h92] at hsc; cases hsc
      | cons e r2 =>
        rw [hr1] at hsc hdr1
        have hlt2 := (drop_get hdr1).2.1
        have hdr2 := (drop_get hdr1).2.2
        rw [bscan_cons, if_pos h92] at hsc
        simp only [Option.map_eq_some_iff] at hsc
        obtain ⟨m2, hsc2, rfl⟩ := hsc
        k_steps
        walk_at "mine look"
        refine' ksw_end ⟨_, _, _, _⟩ kF kN ?sb trivial ?kk ?sm ?pp ?ms
        case kk => walk_at "mine kk"
        case sb => walk_at "mine sub"
        case sm => walk_at "mine same"
        case pp => exact ⟨i + 2, d, m2, rfl, rfl, by rw [hdr2]; exact hsc2, sh2 hm, hd1, Nat.le_trans hfi (Nat.le_add_right i 2)⟩
        case ms => walk_at "mine ms"
    · have f92 := eq_ff h92
      rw [← lit_92] at f92
      rw [bscan_cons, if_neg h92] at hsc
      walk1
      have hflag := flag
      k_steps
      walk_at "mine look"
      by_cases h123 : c = 123
      · have t123 := eq_tt h123
        rw [← lit_123] at t123
        rw [if_pos h123, Option.map_eq_some_iff] at hsc
        obtain ⟨m2, hsc2, rfl⟩ := hsc
        k_steps
        walk_at "mine look"
        refine' ksw_end ⟨_, _, _, _⟩ kF kN ?sb trivial ?kk ?sm ?pp ?ms
        case kk => walk_at "mine kk"
        case sb => walk_at "mine sub"
        case sm => walk_at "mine same"
        case pp => exact ⟨i + 1, d + 1, m2, rfl, rfl, by rw [hdr1]; exact hsc2, sh1 hm, Nat.succ_le_succ (Nat.zero_le d), Nat.le_succ_of_le hfi⟩
        case ms => walk_at "mine ms"
      · have f123 := eq_ff h123
        rw [← lit_123] at f123
        rw [if_neg h123] at hsc
        walk1
        have hflag := flag
        k_steps
        walk_at "mine look"
        by_cases h125 : c = 125
        · have t125 := eq_tt h125
          rw [← lit_125] at t125
          rw [if_pos h125] at hsc
          by_cases hd : d = 1
          · rw [if_pos hd, Option.some.injEq] at hsc
            have hd0 : (d : Int) - 1 = 0 := by omega
            have hir : (i : Int) + 1 = (r : Int) := by (try dsimp only); omega
            have hbeh' : Behind l ((i : Int) + 1) := hir ▸ hbeh
            have hsl : Sl (tx l) (f : Int) (i : Int) (tx x) := Sl.of (a := f) (b := i) (by (try dsimp only); omega) rfl rfl hfi (by (try dsimp only); omega) (by rw [← hx]; congr 1; omega)
            rw [← hir] at hret
            k_steps
            any_goals (exfalso; (try dsimp only); omega)
            walk_at "mine rettup"
          · have hd2 : ¬ ((d : Int) - 1 = 0) := by (try dsimp only); omega
            rw [if_neg hd, Option.map_eq_some_iff] at hsc
            obtain ⟨m2, hsc2, rfl⟩ := hsc
            k_steps
            any_goals (exfalso; (try dsimp only); omega)
            walk_at "mine look"
            refine' ksw_end ⟨_, _, _, _⟩ kF kN ?sb trivial ?kk ?sm ?pp ?ms
            case kk => walk_at "mine kk"
            case sb => walk_at "mine sub"
            case sm => walk_at "mine same"
            case pp => exact ⟨i + 1, d - 1, m2, rfl, by (try dsimp only); omega, by rw [hdr1]; exact hsc2, sh1 hm, by (try dsimp only); omega, Nat.le_succ_of_le hfi⟩
            case ms => walk_at "mine ms"
        · have f125 := eq_ff h125
          rw [← lit_125] at f125
          rw [if_neg h125, Option.map_eq_some_iff] at hsc
          obtain ⟨m2, hsc2, rfl⟩ := hsc
          k_steps
          walk_at "mine look"
          refine' ksw_end ⟨_, _, _, _⟩ kF kN ?sb trivial ?kk ?sm ?pp ?ms
          case kk => walk_at "mine kk"
          case sb => walk_at "mine sub"
          case sm => walk_at "mine same"
          case pp => exact ⟨i + 1, d, m2, rfl, rfl, by rw [hdr1]; exact hsc2, sh1 hm, hd1, Nat.le_succ_of_le hfi⟩
          case ms => walk_at "mine ms"
theorem words7 : True := by
  w_top off
  (k_with "call ref" => (k_here; (with_reducible show wpAny _ _ (call (Value.ref 94) [Value.str (Mine.tx _) _, Value.int _ _]) _ _ _); k_dflt (refine' Ctr.use_tup (Mine.c_braced _ _ _ _ _ _ _ _ _ ?p1 ?p0 ?p2 ?p3 ?p4 ?p5) ?k1 ?k2 ?k3 ?k4 ?k5 ?kK ?kd ?ku ?kp ?_); (case k1 => k_asm); (case k2 => k_asm); (case k3 => k_asm); (case k4 => k_asm); (case k5 => k_asm); (case kK => first | exact rfl | assumption); (case kd => first | (k_dflt exact Mine.room_ hdp rfl) | ktr_room); (case ku => first | (k_dflt exact Mine.units_ hun rfl) | ktr_units); (case p1 => assumption); (case p0 => first | assumption | rfl); (case p2 => assumption); (case p3 => assumption); (case p4 => assumption); (case p5 => assumption); (case kp => first | exact trivial | k_mem); intro a9 t9 u9 h9 tk9 l9 F9 N9; (try k_lt l9); (try dsimp only); (try k_fold); (try k_sweep)))
  trivial
end
-- part W3
section
open PySem PySem.W PyProof.Rows PySem.Calls PySem.Spec
/-- signs that stand for themselves, and signs behind a backslash -/
inductive Toks : List Nat → List Nat → Prop
  | nil : Toks [] []
  | plain {c : Nat} {q x : List Nat} (hb : blank c = false) (h92 : c ≠ 92) (h : Toks q x) : Toks (c :: q) (c :: x)
  | esc {e d : Nat} {q x : List Nat} (hd : Dec e d) (h : Toks q x) : Toks (92 :: e :: q) (d :: x)
theorem blank92 : blank 92 = false := by decide
/-- behind: nothing, or a blank -/
noncomputable def Post (l : List Nat) : Prop := l = [] ∨ ∃ c r, l = c :: r ∧ blank c = true
theorem Toks.len {q x : List Nat} (h : Toks q x) : x.length ≤ q.length := by
  induction h with
  | nil => exact Nat.le_refl _
  | plain _ _ _ ih => simp only [List.length_cons]; omega
  | esc _ _ ih => simp only [List.length_cons]; omega
theorem strsAre_len {vs : List Value} {ys : List Str} (h : StrsAre vs ys) : vs.length = ys.length := by
  induction h with
  | nil => rfl
  | cons _ _ _ ih => simp only [List.length_cons]; omega
theorem join_ones (x : List Nat) : Txt.join (Str.ofString "") (x.map fun e => tx [e]) = tx x := by
  have h := join_tx [] (x.map fun e => [e])
  rw [lit_nil]
  rw [List.map_map] at h
  refine Eq.trans h (congrArg tx ?_)
  cases x with
  | nil => rfl
  | cons a r =>
    simp only [List.map_cons, joinL, List.nil_append, List.map_map]
    congr 1
    clear h
    induction r with
    | nil => rfl
    | cons b r ih => simpa using ih
theorem sum_ones (x : List Nat) : ((x.map fun e => tx [e]).map (·.length)).sum = x.length := by
  induction x with
  | nil => rfl
  | cons a r ih => simp only [List.map_cons, List.sum_cons, List.length_cons, ih, tx_len, List.length_nil]; omega
theorem strsAre_snoc {vs : List Value} {ys : List Str} {y : Str} {t : Tok} (h : StrsAre vs ys) : StrsAre (vs ++ [.str y t]) (ys ++ [y]) := by
  induction h with
  | nil => exact .cons _ _ .nil
  | cons y' t' _ ih => exact .cons _ _ ih
structure BaS where
  i : Int
  ti : Tok
  vs : List Value
  n : Nat
theorem c_bare (w : World) (l q x : List Nat) (k : Int) (f : Nat) (t u : Tok) (r : Nat) (post : List Nat) (hl : l.length ≤ 1000) (hk0 : k = (f : Int)) (hd : l.drop f = q ++ post) (hq : Toks q x) (hr : r = f + q.length) (hp : Post post) :
    Ctr w 108 3 [.str (tx l) t, .int k u] (fun _ => True) (fun nx v => ∃ a t1 t2, nx = [(a, tupOf [.str (tx x) t1, .int (r : Int) t2])] ∧ v = .ref a) := by
  subst hk0
  walk_at "mine start"
  walk_at "mine enter"
  k_steps
  unfold Stop
  with_reducible rename Fr _ _ _ _ => F1
  with_reducible rename News _ _ _ _ => N1
  have hxl : x.length ≤ 1000 := by
    have h1 := hq.len
    have h2 := congrArg List.length hd
    simp only [List.length_drop, List.length_append] at h2
    omega
  refine' ksw_while (σ := BaS) (fun c => (_, listOf c.vs.toArray c.n) :: news) (fun c => [(Str.ofString "at", .int c.i c.ti)]) (fun _ => True) [Str.ofString "c"]
    (fun c => ∃ (i : Nat) (q' x' d : List Nat), c.i = (i : Int) ∧ l.drop i = q' ++ post ∧ Toks q' x' ∧ StrsAre c.vs (d.map fun e => tx [e]) ∧ d ++ x' = x ∧ i + q'.length = r) (fun c => l.length - c.i.toNat) ⟨_, _, [], 0⟩ F1 ?kn trivial ?kk ?kp ?_
  case kn => exact N1
  case kk => walk_at "mine kk"
  case kp => exact ⟨f, q, x, [], rfl, hd, hq, .nil, rfl, hr.symm⟩
  clear F1 N1
  rintro ⟨I, ti, vs, n⟩ kU kH kTk - ⟨i, q', x', d, hI, hdr, htk, hvs, hdx, hir⟩ kFr kNews
  dsimp only at hI kFr kNews hvs
  subst hI
  have hvl : vs.length ≤ 1000 := by
    have h1 := strsAre_len hvs
    have h2 := congrArg List.length hdx
    simp only [List.length_map, List.length_append] at h1 h2
    omega
  cases htk with
  | nil =>
    have hS : StrsAre vs (x.map fun e => tx [e]) := by rw [← hdx, List.append_nil]; exact hvs
    have hJ := join_ones x
    have hB : ((x.map fun e => tx [e]).map (·.length)).sum + (x.map fun e => tx [e]).length * (Str.ofString "").length ≤ 2 ^ 20 := by
      rw [sum_ones, lit_nil, tx_len]; simp only [List.length_nil]; omega
    have hri : (i : Int) = (r : Int) := by simp only [List.length_nil] at hir; omega
    rw [← hri] at hret
    rcases hp with hp | ⟨b, r', hp, hbl⟩
    · subst hp
      have hge := drop_nil hdr
      k_steps
      walk_at "mine rettup"
    · subst hp
      have hat := At.dropped hl hdr
      have hlt := (drop_get hdr).2.1
      k_steps
      walk_at "mine rettup"
  | plain hb h92 h =>
    rename_i c q2 x2
    have hat := At.dropped hl hdr
    have hlt := (drop_get hdr).2.1
    have hdr1 := (drop_get hdr).2.2
    have f92 := eq_ff h92
    rw [← lit_92] at f92
    k_steps
    walk_at "mine look"
    (try simp only [List.push_toArray] at kN)
    refine' ksw_end ⟨_, _, vs ++ [.str (tx [c]) _], n + 1⟩ kF kN ?sb trivial ?kk ?sm ?pp ?ms
    case kk => walk_at "mine kk"
    case sb => walk_at "mine subL"
    case sm => walk_at "mine same"
    case pp => exact ⟨i + 1, q2, x2, d ++ [c], rfl, hdr1, h, by rw [List.map_append]; exact strsAre_snoc hvs, by rw [← hdx]; simp, by simp only [List.length_cons] at hir; omega⟩
    case ms => walk_at "mine ms"
  | esc hde h =>
    rename_i e d' q2 x2
    have hat := At.dropped hl hdr
    have hlt := (drop_get hdr).2.1
    have hdr1 := (drop_get hdr).2.2
    have hlt1 := (drop_get hdr1).2.1
    have hdr2 := (drop_get hdr1).2.2
    have hsl : Sl (tx l) ((i : Int) + 1) ((i : Int) + 2) (tx [e]) := Sl.of (a := i + 1) (b := i + 2) (by omega) rfl rfl (Nat.le_succ (i + 1)) hlt1 (by rw [hdr1, show i + 2 - (i + 1) = 1 by omega]; rfl)
    have f92 : blank 92 = false := by decide
    k_steps
    walk_at "mine look"
    (try simp only [List.push_toArray] at kN)
    refine' ksw_end ⟨_, _, vs ++ [.str (tx [d']) _], n + 1⟩ kF kN ?sb trivial ?kk ?sm ?pp ?ms
    case kk => walk_at "mine kk"
    case sb => walk_at "mine subL"
    case sm => walk_at "mine same"
    case pp => exact ⟨i + 2, q2, x2, d ++ [d'], rfl, hdr2, h, by rw [List.map_append]; exact strsAre_snoc hvs, by rw [← hdx]; simp, by simp only [List.length_cons] at hir; omega⟩
    case ms => walk_at "mine ms"
theorem words8 : True := by
  w_top off
  (k_with "call ref" => (k_here; (with_reducible show wpAny _ _ (call (Value.ref 108) [Value.str (Mine.tx _) _, Value.int _ _]) _ _ _); k_dflt (refine' Ctr.use_tup (Mine.c_bare _ _ _ _ _ _ _ _ _ _ ?p1 ?p0 ?p2 ?p3 ?p4 ?p5) ?k1 ?k2 ?k3 ?k4 ?k5 ?kK ?kd ?ku ?kp ?_); (case k1 => k_asm); (case k2 => k_asm); (case k3 => k_asm); (case k4 => k_asm); (case k5 => k_asm); (case kK => first | exact rfl | assumption); (case kd => first | (k_dflt exact Mine.room_ hdp rfl) | ktr_room); (case ku => first | (k_dflt exact Mine.units_ hun rfl) | ktr_units); (case p1 => assumption); (case p0 => first | assumption | rfl); (case p2 => assumption); (case p3 => assumption); (case p4 => assumption); (case p5 => assumption); (case kp => first | exact trivial | k_mem); intro a9 t9 u9 h9 tk9 l9 F9 N9; (try k_lt l9); (try dsimp only); (try k_fold); (try k_sweep)))
  trivial
end
-- part L3
section
open PySem PySem.W PyProof.Rows PySem.Calls PySem.Spec
theorem item_tx {x : Str} {k : Int} {c : Nat} (h : At x k c) : Txt.item x k = tx [c] := by
  have hlt : k.toNat < x.cps.toList.length := by
    have := h.get
    rw [List.getElem?_eq_some_iff] at this
    exact this.1
  have h0 := h.nn
  have hl : x.cps.toList.length = x.length := by simp [Str.length]
  unfold Txt.item Txt.charAt seqIndex?
  simp only [if_neg (Int.not_lt.mpr h0)]
  have hd : (decide (0 ≤ k) && decide (k < (x.length : Int))) = true := by simp; omega
  rw [hd]
  have hg := h.get
  simp only [Array.getElem?_toList] at hg
  simp [tx, hg]
theorem strsAre_rev {vs : List Value} {ys : List Str} (h : StrsAre vs ys) : StrsAre vs.reverse ys.reverse := by
  induction h with
  | nil => exact .nil
  | cons y t _ ih => rw [List.reverse_cons, List.reverse_cons]; exact strsAre_snoc ih
theorem lit_signs : Str.ofString " {}[]$;\"#\\\n\tan\x0d\x0c\x0b" = tx [32, 123, 125, 91, 93, 36, 59, 34, 35, 92, 10, 9, 97, 110, 13, 12, 11] := by decide +kernel
theorem sign_at {p : Int} (h0 : 0 ≤ p) (h1 : p < 17) : ∃ e, Txt.item (Str.ofString " {}[]$;\"#\\\n\tan\x0d\x0c\x0b") p = tx [e] ∧ e < 1114112 := by
  obtain ⟨n, rfl⟩ : ∃ n : Nat, p = (n : Int) := ⟨p.toNat, by omega⟩
  have hn : n < [32, 123, 125, 91, 93, 36, 59, 34, 35, 92, 10, 9, 97, 110, 13, 12, 11].length := by
    simp only [List.length_cons, List.length_nil]; omega
  have ha : ∀ e ∈ [32, 123, 125, 91, 93, 36, 59, 34, 35, 92, 10, 9, 97, 110, 13, 12, 11], e < 1114112 := by decide
  refine ⟨_, ?_, ha _ (List.getElem_mem hn)⟩
  rw [lit_signs]
  exact item_tx (At.of (n := n) (by decide) rfl (List.getElem?_eq_getElem hn))
structure TeS where
  rest : Int
  tr : Tok
  vs : List Value
  n : Nat
theorem words9 : True := by
  w_top off
  (k_with "text hn" => (intro p hp; (rcases List.mem_cons.mp hp with hp | hp); (rw [hp]; first | exact List.Mem.tail _ (List.Mem.head _) | exact List.Mem.tail _ (List.Mem.tail _ (List.Mem.head _))); (first | exact List.mem_cons_of_mem _ (List.mem_cons_of_mem _ (List.mem_append_left _ hp)) | exact List.mem_cons_of_mem _ (List.mem_cons_of_mem _ (List.mem_cons_of_mem _ (List.mem_append_left _ hp))))))
  (k_with "text ho" => (intro p hp; first | exact List.mem_cons_of_mem _ (List.mem_cons_of_mem _ (List.mem_append_right _ hp)) | exact List.mem_cons_of_mem _ (List.mem_cons_of_mem _ (List.mem_cons_of_mem _ (List.mem_append_right _ hp)))))
  (k_with "text hr" => (intro z h1 h2 h3; (simp only [List.forall_mem_cons, List.not_mem_nil, false_implies, implies_true, and_true, ne_eq] at h2); (try simp only [List.contains_cons, List.contains_nil, Bool.or_false, Bool.or_eq_false_iff, beq_eq_false_iff_ne, ne_eq] at h3); simp [kstB, h1, h2, h3]))
  (k_with "text hc" => (intro e9 he9; rcases List.mem_append.mp he9 with he9 | he9; (exact hdc e9 he9); (rw [List.mem_singleton.mp he9]; exact hlt)))
  trivial
theorem c_text (w : World) (k : Int) (u : Tok) :
    Ctr w 159 1 [.int k u] (fun _ => True) (fun nx v => nx = [] ∧ ∃ x t', v = .str (tx x) t' ∧ x.length ≤ 6 ∧ ∀ c ∈ x, c < 1114112) := by
  walk_at "mine start"
  walk_at "mine enter"
  k_steps
  walk_at "mine look"
  have kN2 := cb_drop kN (fun p hp => List.mem_cons_of_mem _ hp)
  clear kN
  refine use_lo kN2 ?_
  intro lo elo
  subst elo
  have hlo : ∀ p ∈ news, p.1 < lo := by assumption
  generalize hr0 : (if k < 0 then -k else k) = r0 at *
  have hr0n : 0 ≤ r0 := by rw [← hr0]; split <;> omega
  have hm0 : 0 ≤ r0.fmod 7 := by rw [Int.fmod_eq_emod_of_nonneg _ (by decide)]; omega
  have hm7 : r0.fmod 7 < 7 := by rw [Int.fmod_eq_emod_of_nonneg _ (by decide)]; omega
  have hd0 : 0 ≤ r0.fdiv 7 := by rw [Int.fdiv_eq_ediv_of_nonneg _ (by decide)]; omega
  have hM6 : Stop (r0.fmod 7 < 7) := hm7
  replace hm7 : r0.fmod 7 < 2 ^ 40 := by omega
  generalize r0.fmod 7 = M at *
  generalize r0.fdiv 7 = R0 at *
  with_unfolding_all refine For_invVF kF (by rfl) (by rfl) ?_
  k_steps
  walk_at "mine look"
  have hM7 : M < 7 := hM6
  rename IsRange _ _ _ _ _ _ _ _ => hrg
  obtain ⟨mn, hmn⟩ : ∃ n : Nat, M = (n : Int) := ⟨M.toNat, by omega⟩
  subst hmn
  have hm6 : mn ≤ 6 := by omega
  refine' kst_range (σ := TeS) (n := mn) (fun c => (lo, listOf c.vs.toArray c.n) :: news) (fun c => [(Str.ofString "rest", .int c.rest c.tr)]) (fun _ => True) [Str.ofString "place", Str.ofString "point"]
    (fun pre c => 0 ≤ c.rest ∧ ∃ ds : List Nat, StrsAre c.vs (ds.map fun e => tx [e]) ∧ ds.length = pre.length ∧ ∀ e ∈ ds, e < 1114112) ⟨R0, _, [], 0⟩ rfl hrg ?hs ?hn kF kN trivial ?kk ?kp ?_ ?_
  case hs => exact small_one (by omega) (by omega) (by omega) (by omega)
  case hn => exact rangeSize_nat _ _
  case kk => walk_at "mine kk"
  case kp => exact ⟨hd0, [], .nil, rfl, fun _ h => nomatch h⟩
  · rintro ⟨rest, tr, vs, n⟩ pre i t3 u3 h3 tk3 own hi hpl hof - ⟨hrest, ds, hvs, hdl, hdc⟩ F3 N3
    clear kF kN
    dsimp only at hrest hvs N3 F3 hof
    have hvl := strsAre_len hvs
    rw [List.length_map] at hvl
    have hvl2 : vs.length ≤ 1000 := by omega
    rw [List.cons_append] at N3
    have hne3 : ∀ p ∈ news ++ own, p.1 ≠ lo := by
      intro p hp
      rcases List.mem_append.mp hp with hp | hp
      · exact Nat.ne_of_lt (hlo p hp)
      · exact hof p hp lo List.mem_cons_self
    have hir : 0 ≤ rest + 5 * i := by omega
    k_steps
    · walk_at "mine look"
      have hp0 : 0 ≤ (rest + 5 * i).fmod 18 := by rw [Int.fmod_eq_emod_of_nonneg _ (by decide)]; omega
      obtain ⟨e, he, hlt⟩ := sign_at hp0 (by assumption)
      simp only [he, List.push_toArray] at kN
      have hR : 0 ≤ rest.fdiv 18 := by rw [Int.fdiv_eq_ediv_of_nonneg _ (by decide)]; omega
      refine' kst_end (⟨rest.fdiv 18, _, vs ++ [.str (tx [e]) _], n + 1⟩ : TeS) kF kN ?hn ?ho rfl trivial ?hk ?hr ⟨hR, ds ++ [e], ?hs, ?hl, ?hc⟩
      case hk => walk_at "mine kk"
      case hn =>
        intro p hp
        rcases List.mem_cons.mp hp with hp | hp
        · rw [hp]; k_mem
        · first
          | exact List.mem_cons_of_mem _ (List.mem_cons_of_mem _ (List.mem_append_left _ hp)) 
          | exact List.mem_cons_of_mem _ (List.mem_cons_of_mem _ (List.mem_cons_of_mem _ (List.mem_append_left _ hp)))
      case ho => walk_at "text ho"
      case hr => walk_at "text hr"
      case hs => rw [List.map_append]; exact strsAre_snoc hvs
      case hl => simp only [List.length_append, List.length_cons, List.length_nil]; omega
      case hc => walk_at "text hc"
    · walk_at "mine look"
      have hq : (rest.fdiv 18).fmod 1112064 < 1112064 := Int.fmod_lt_of_pos _ (by decide)
      have hq0 : 0 ≤ (rest.fdiv 18).fmod 1112064 := Int.fmod_nonneg_of_pos _ (by decide)
      have hlt : ((rest.fdiv 18).fmod 1112064 + 2048).toNat < 1114112 := by omega
      have hR0 : 0 ≤ rest.fdiv 18 := by rw [Int.fdiv_eq_ediv_of_nonneg _ (by decide)]; omega
      have hR : 0 ≤ (rest.fdiv 18).fdiv 1112064 := by rw [Int.fdiv_eq_ediv_of_nonneg _ (by decide)]; omega
      simp only [List.push_toArray] at kN
      refine' kst_end (⟨(rest.fdiv 18).fdiv 1112064, _, vs ++ [.str (tx [((rest.fdiv 18).fmod 1112064 + 2048).toNat]) _], n + 1⟩ : TeS) kF kN ?hn ?ho rfl trivial ?hk ?hr ⟨hR, ds ++ [((rest.fdiv 18).fmod 1112064 + 2048).toNat], ?hs, ?hl, ?hc⟩
      case hk => walk_at "mine kk"
      case hn =>
        intro p hp
        rcases List.mem_cons.mp hp with hp | hp
        · rw [hp]; k_mem
        · first
          | exact List.mem_cons_of_mem _ (List.mem_cons_of_mem _ (List.mem_append_left _ hp)) 
          | exact List.mem_cons_of_mem _ (List.mem_cons_of_mem _ (List.mem_cons_of_mem _ (List.mem_append_left _ hp)))
      case ho => walk_at "text ho"
      case hr => walk_at "text hr"
      case hs => rw [List.map_append]; exact strsAre_snoc hvs
      case hl => simp only [List.length_append, List.length_cons, List.length_nil]; omega
      case hc => walk_at "text hc"
    · walk_at "mine look"
      have hq : (rest.fdiv 18).fmod 1112064 < 1112064 := Int.fmod_lt_of_pos _ (by decide)
      have hlt : ((rest.fdiv 18).fmod 1112064).toNat < 1114112 := by omega
      have hR0 : 0 ≤ rest.fdiv 18 := by rw [Int.fdiv_eq_ediv_of_nonneg _ (by decide)]; omega
      have hR : 0 ≤ (rest.fdiv 18).fdiv 1112064 := by rw [Int.fdiv_eq_ediv_of_nonneg _ (by decide)]; omega
      simp only [List.push_toArray] at kN
      refine' kst_end (⟨(rest.fdiv 18).fdiv 1112064, _, vs ++ [.str (tx [((rest.fdiv 18).fmod 1112064).toNat]) _], n + 1⟩ : TeS) kF kN ?hn ?ho rfl trivial ?hk ?hr ⟨hR, ds ++ [((rest.fdiv 18).fmod 1112064).toNat], ?hs, ?hl, ?hc⟩
      case hk => walk_at "mine kk"
      case hn =>
        intro p hp
        rcases List.mem_cons.mp hp with hp | hp
        · rw [hp]; k_mem
        · first
          | exact List.mem_cons_of_mem _ (List.mem_cons_of_mem _ (List.mem_append_left _ hp)) 
          | exact List.mem_cons_of_mem _ (List.mem_cons_of_mem _ (List.mem_cons_of_mem _ (List.mem_append_left _ hp)))
      case ho => walk_at "text ho"
      case hr => walk_at "text hr"
      case hs => rw [List.map_append]; exact strsAre_snoc hvs
      case hl => simp only [List.length_append, List.length_cons, List.length_nil]; omega
      case hc => walk_at "text hc"
  · rintro ⟨rest, tr, vs, n⟩ u3 h3 tk3 - ⟨hrest, ds, hvs, hdl, hdc⟩ F3 N3
    clear kF kN
    dsimp only at hrest hvs N3 F3
    rw [rangeKs_length] at hdl
    have hJ := join_ones ds
    have hB : ((ds.map fun e => tx [e]).map (·.length)).sum + (ds.map fun e => tx [e]).length * (Str.ofString "").length ≤ 2 ^ 20 := by
      rw [sum_ones, lit_nil, tx_len]; simp only [List.length_nil]; omega
    k_steps
    · walk_at "mine ret"
      exact ⟨_, _, rfl, by omega, hdc⟩
    · with_reducible rename Fr _ _ _ _ => kF
      with_reducible rename News _ _ _ _ => kN
      dsimp only at kF kN
      rw [PySem.W.krv_pick] at kN
      have hvs' := strsAre_rev hvs
      rw [← List.map_reverse] at hvs'
      have hJ' := join_ones ds.reverse
      have hB' : ((ds.reverse.map fun e => tx [e]).map (·.length)).sum + (ds.reverse.map fun e => tx [e]).length * (Str.ofString "").length ≤ 2 ^ 20 := by
        rw [sum_ones, lit_nil, tx_len, List.length_reverse]; simp only [List.length_nil]; omega
      refine join_is (n := 0) (vs := vs.reverse) kN List.mem_cons_self hvs' hJ' hB' ?_
      intro _ _
      k_steps
      walk_at "mine ret"
      exact ⟨_, _, rfl, by rw [List.length_reverse]; omega, fun c hc => hdc c (List.mem_reverse.mp hc)⟩
end
-- part W4
section
open PySem PySem.W PyProof.Rows PySem.Calls PySem.Spec
/-- what stands for an element -/
inductive Enc : List Nat → List Nat → Prop
  | braced {x : List Nat} (h : ∀ post, bscan (x ++ 125 :: post) 1 = some x.length) : Enc (123 :: (x ++ [125])) x
  | bare {c : Nat} {q x : List Nat} (h : Toks (c :: q) x) (h1 : c ≠ 123) (h2 : c ≠ 34) : Enc (c :: q) x
theorem Enc.head {q x : List Nat} (h : Enc q x) : ∃ c q', q = c :: q' ∧ blank c = false := by
  cases h with
  | braced h => exact ⟨_, _, rfl, by decide⟩
  | bare h h1 h2 =>
    refine ⟨_, _, rfl, ?_⟩
    cases h with
    | plain hb _ _ => exact hb
    | esc _ _ => decide
structure FiS where
  i : Int
  ti : Tok
theorem c_find (w : World) (l bl q x post : List Nat) (k : Int) (f : Nat) (t u : Tok) (r : Nat) (hl : l.length ≤ 1000) (hk0 : k = (f : Int)) (hd : l.drop f = bl ++ (q ++ post)) (hbl : ∀ c ∈ bl, blank c = true) (hq : Enc q x) (hr : r = f + bl.length + q.length) (hp : Post post) :
    Ctr w 115 4 [.str (tx l) t, .int k u] (fun _ => True) (fun nx v => ∃ a t1 t2, nx = [(a, tupOf [.str (tx x) t1, .int (r : Int) t2])] ∧ v = .ref a) := by
  subst hk0
  walk_at "mine start"
  walk_at "mine enter"
  k_steps
  unfold Stop
  with_reducible rename Fr _ _ _ _ => F1
  with_reducible rename News _ _ _ _ => N1
  refine' ksw_while (σ := FiS) (fun c => news) (fun c => [(Str.ofString "at", .int c.i c.ti)]) (fun _ => True) []
    (fun c => ∃ (i : Nat) (bl' : List Nat), c.i = (i : Int) ∧ l.drop i = bl' ++ (q ++ post) ∧ (∀ c ∈ bl', blank c = true) ∧ i + bl'.length + q.length = r) (fun c => l.length - c.i.toNat) ⟨_, _⟩ F1 ?kn trivial ?kk ?kp ?_
  case kn => exact cb_drop N1 (by walk_at "mine sub")
  case kk => walk_at "mine kk"
  case kp => exact ⟨f, bl, rfl, hd, hbl, hr.symm⟩
  clear F1 N1
  rintro ⟨I, ti⟩ kU kH kTk - ⟨i, bl', hI, hdr, hbs, hir⟩ kFr kNews
  dsimp only at hI kFr kNews ⊢
  subst hI
  cases bl' with
  | cons b bl2 =>
    have hat := At.dropped hl hdr
    have hlt := (drop_get hdr).2.1
    have hdr1 := (drop_get hdr).2.2
    have hb : blank b = true := hbs b List.mem_cons_self
    k_steps
    walk_at "mine look"
    refine' ksw_end ⟨_, _⟩ kF kN ?sb trivial ?kk ?sm ?pp ?ms
    case kk => walk_at "mine kk"
    case sb => walk_at "mine sub"
    case sm => walk_at "mine same"
    case pp => exact ⟨i + 1, bl2, rfl, hdr1, fun c hc => hbs c (List.mem_cons_of_mem _ hc), by simp only [List.length_cons] at hir; omega⟩
    case ms => walk_at "mine ms"
  | nil =>
    rw [List.nil_append] at hdr
    have hne := hq.head
    cases hq with
    | braced h =>
      have hdr' : l.drop i = 123 :: (x ++ 125 :: post) := by rw [hdr]; simp
      have hat := At.dropped hl hdr'
      have hlt := (drop_get hdr').2.1
      have hdr1 := (drop_get hdr').2.2
      have hb : blank 123 = false := by decide
      have hk1 : (i : Int) + 1 = ((i + 1 : Nat) : Int) := rfl
      have hs : bscan (l.drop (i + 1)) 1 = some x.length := by rw [hdr1]; exact h post
      have hx : (l.drop (i + 1)).take x.length = x := by rw [hdr1]; simp
      have hr1 : r = i + 1 + x.length + 1 := by simp only [List.length_cons, List.length_append, List.length_nil] at hir; omega
      have hlr : l.drop r = post := by
        have h2 : l.drop (i + 1 + (x.length + 1)) = post := by
          rw [← List.drop_drop, hdr1]
          simp
        rw [hr1]
        exact h2
      have hbe : Behind l (r : Int) := by
        rcases hp with hp | ⟨c, r', hp, hc⟩
        · have := congrArg List.length hdr1
          simp only [List.length_drop, List.length_append, List.length_cons, hp, List.length_nil] at this
          exact .inl (by omega)
        · rw [hp] at hlr
          exact .inr ⟨c, At.dropped hl hlr, hc⟩
      k_steps
      walk_at "mine rettup"
    | bare h h1 h2 =>
      rename_i c q'
      obtain ⟨c', q2, e, hb⟩ := hne
      cases e
      have hdr' : l.drop i = c :: (q' ++ post) := hdr
      have hat := At.dropped hl hdr'
      have hlt := (drop_get hdr').2.1
      have f1 := eq_ff h1
      have f2 := eq_ff h2
      rw [← lit_123] at f1
      rw [← lit_34] at f2
      have hr1 : r = i + (c :: q').length := by simp only [List.length_cons, List.length_nil] at hir ⊢; omega
      k_steps
      walk_at "mine rettup"
theorem c_find_none (w : World) (l : List Nat) (k : Int) (f : Nat) (t u : Tok) (hl : l.length ≤ 1000) (hk0 : k = (f : Int)) (hd : l.drop f = []) :
    Ctr w 115 4 [.str (tx l) t, .int k u] (fun _ => True) (fun nx v => nx = [] ∧ v = .none) := by
  subst hk0
  walk_at "mine start"
  walk_at "mine enter"
  k_steps
  unfold Stop
  with_reducible rename Fr _ _ _ _ => F1
  with_reducible rename News _ _ _ _ => N1
  refine' ksw_while (σ := FiS) (fun c => news) (fun c => [(Str.ofString "at", .int c.i c.ti)]) (fun _ => True) []
    (fun c => c.i = (f : Int)) (fun c => l.length - c.i.toNat) ⟨_, _⟩ F1 ?kn trivial ?kk ?kp ?_
  case kn => exact cb_drop N1 (by walk_at "mine sub")
  case kk => walk_at "mine kk"
  case kp => rfl
  clear F1 N1
  rintro ⟨I, ti⟩ kU kH kTk - hI kFr kNews
  dsimp only at hI kFr kNews ⊢
  subst hI
  have hge := drop_nil hd
  k_steps
  walk_at "mine ret"
  rfl
theorem words10 : True := by
  w_top off
  (k_with "call ref" => (k_here; (with_reducible show wpAny _ _ (call (Value.ref 115) [Value.str (Mine.tx _) _, Value.int _ _]) _ _ _); k_dflt (refine' Ctr.use_tup (Mine.c_find _ _ _ _ _ _ _ _ _ _ _ ?p1 ?p0 ?p2 ?p3 ?p4 ?p5 ?p6) ?k1 ?k2 ?k3 ?k4 ?k5 ?kK ?kd ?ku ?kp ?_); (case k1 => k_asm); (case k2 => k_asm); (case k3 => k_asm); (case k4 => k_asm); (case k5 => k_asm); (case kK => first | exact rfl | assumption); (case kd => first | (k_dflt exact Mine.room_ hdp rfl) | ktr_room); (case ku => first | (k_dflt exact Mine.units_ hun rfl) | ktr_units); (case p1 => assumption); (case p0 => first | assumption | rfl); (case p2 => assumption); (case p4 => assumption); (case p3 => assumption); (case p5 => assumption); (case p6 => assumption); (case kp => first | exact trivial | k_mem); intro a9 t9 u9 h9 tk9 l9 F9 N9; (try k_lt l9); (try dsimp only); (try k_fold); (try k_sweep)))
  trivial
end
-- part W5
section
open PySem PySem.W PyProof.Rows PySem.Calls PySem.Spec
/-- the rest of a list's text -/
noncomputable def tailOf (es : List (List Nat × List Nat)) : List Nat := (es.map fun e => 32 :: e.1).flatten
noncomputable def textOf : List (List Nat × List Nat) → List Nat
  | [] => []
  | e :: r => e.1 ++ tailOf r
theorem tailOf_post (es : List (List Nat × List Nat)) : Post (tailOf es) := by
  cases es with
  | nil => exact .inl rfl
  | cons e r => exact .inr ⟨32, e.1 ++ tailOf r, by simp [tailOf], by decide⟩
noncomputable def restOf (sep : List Nat) : List (List Nat × List Nat) → List Nat
  | [] => []
  | e :: r => sep ++ (e.1 ++ tailOf r)
inductive FoundIs (l : List Nat) : List (List Nat × List Nat) → LedT → Value → Prop
  | none : FoundIs l [] [] .none
  | some {e : List Nat × List Nat} {es : List (List Nat × List Nat)} {a : Addr} {r : Nat} {t1 t2 : Tok} (h : l.drop r = tailOf es) : FoundIs l (e :: es) [(a, tupOf [.str (tx e.2) t1, .int (r : Int) t2])] (.ref a)
theorem c_find_es (w : World) (l sep : List Nat) (k : Int) (f : Nat) (t u : Tok) (es : List (List Nat × List Nat)) (hl : l.length ≤ 1000) (hk0 : k = (f : Int)) (hd : l.drop f = restOf sep es)
    (hs : ∀ c ∈ sep, blank c = true) (he : ∀ e ∈ es, Enc e.1 e.2) : Ctr w 115 4 [.str (tx l) t, .int k u] (fun _ => True) (fun nx v => FoundIs l es nx v) := by
  cases es with
  | nil =>
    refine (c_find_none w l k f t u hl hk0 hd).mono ?_
    rintro nx v ⟨rfl, rfl⟩
    exact .none
  | cons e r =>
    refine (c_find w l sep e.1 e.2 (tailOf r) k f t u (f + sep.length + e.1.length) hl hk0 hd hs (he e List.mem_cons_self) rfl (tailOf_post r)).mono ?_
    rintro nx v ⟨a, t1, t2, rfl, rfl⟩
    refine .some ?_
    have h2 : l.drop (f + (sep.length + e.1.length)) = tailOf r := by
      rw [← List.drop_drop, hd]
      simp [restOf]
    rw [← h2]; congr 1; omega
theorem words11 : True := by
  w_top off
  (k_with "call ref" => (k_here; (with_reducible show wpAny _ _ (call (Value.ref 115) [Value.str (Mine.tx _) _, Value.int _ _]) _ _ _); k_dflt (refine' Ctr.use (Mine.c_find_es _ _ _ _ _ _ _ _ ?p1 ?p0 ?p2 ?p3 ?p4) ?k1 ?k2 ?k3 ?k4 ?k5 ?kK ?kd ?ku ?kp ?_); (case k1 => k_asm); (case k2 => k_asm); (case k3 => k_asm); (case k4 => k_asm); (case k5 => k_asm); (case kK => first | exact rfl | assumption); (case kd => first | (k_dflt exact Mine.room_ hdp rfl) | ktr_room); (case ku => first | (k_dflt exact Mine.units_ hun rfl) | ktr_units); (case p1 => assumption); (case p0 => first | assumption | rfl); (case p2 => assumption); (case p3 => assumption); (case p4 => assumption); (case kp => first | exact trivial | k_mem); intro v9 nx9 h9 tk9 hR9 o9 F9 N9; (try dsimp only); (try k_fold); (try k_sweep)))
  trivial
structure SpS where
  lo : Addr
  found : Value
  fled : LedT
  vs : List Value
  n : Nat
theorem c_split (w : World) (l : List Nat) (es : List (List Nat × List Nat)) (t : Tok) (hl : l.length ≤ 1000) (he : ∀ e ∈ es, Enc e.1 e.2) (hes : es.length ≤ 100) (hd : l = textOf es) :
    Ctr w 122 5 [.str (tx l) t] (fun _ => True) (fun nx v => ∃ a vs n, nx = [(a, listOf vs.toArray n)] ∧ v = .ref a ∧ StrsAre vs (es.map fun e => tx e.2)) := by
  have h00 : (0 : Int) = ((0 : Nat) : Int) := rfl
  have hd0 : l.drop 0 = restOf [] es := by
    rw [hd]; cases es <;> rfl
  have hsep : ∀ c ∈ ([] : List Nat), blank c = true := fun _ h => nomatch h
  walk_at "mine start"
  walk_at "mine enter"
  k_steps
  unfold Stop
  with_reducible rename Fr _ _ _ _ => F1
  with_reducible rename News _ _ _ _ => N1
  refine' ksw_while (σ := SpS) (fun c => c.fled ++ (c.lo, listOf c.vs.toArray c.n) :: news) (fun c => [(Str.ofString "found", c.found), (Str.ofString "items", .ref c.lo)]) (fun _ => True) []
    (fun c => ∃ (done : List (List Nat)) (es' : List (List Nat × List Nat)), FoundIs l es' c.fled c.found ∧ (∀ e ∈ es', Enc e.1 e.2) ∧ StrsAre c.vs (done.map tx) ∧ done ++ es'.map (·.2) = es.map (·.2) ∧ (∀ p ∈ news, p.1 < c.lo) ∧ (∀ p ∈ c.fled, c.lo < p.1)) (fun c => 101 - c.vs.length) ⟨_, _, _, [], 0⟩ F1 ?kn trivial ?kk ?kp ?_
  case kn => exact N1
  case kk => walk_at "mine kk"
  case kp => exact ⟨[], es, hR9, he, .nil, rfl, by assumption, fun p hp => o9 p hp _ List.mem_cons_self⟩
  clear F1 N1 hR9 o9
  rintro ⟨lo, found, fled, vs, n⟩ kU kH kTk - ⟨done, es', hfi, hes', hvs, hdn, hlo, hfl⟩ kFr kNews
  dsimp only at hfi hvs hlo hfl kFr kNews ⊢
  have hsp : ∀ c ∈ [32], blank c = true := by decide
  have hvl : vs.length = done.length := by rw [strsAre_len hvs, List.length_map]
  have hdl := congrArg List.length hdn
  simp only [List.length_append, List.length_map] at hdl
  cases hfi with
  | none =>
    rw [List.nil_append] at kNews
    k_steps
    walk_at "mine retlst"
    have hdn' : es.map (fun e => tx e.2) = done.map tx := by
      have := congrArg (List.map tx) hdn
      simp only [List.map_append, List.map_nil, List.append_nil, List.map_map] at this
      exact this.symm
    rw [hdn']
    exact hvs
  | some h =>
    rename_i e es2 a r t1 t2
    have hd1 : l.drop r = restOf [32] es2 := by
      rw [h]; cases es2 <;> simp [tailOf, restOf]
    have hen : ∀ e ∈ es2, Enc e.1 e.2 := fun e he => hes' e (List.mem_cons_of_mem _ he)
    have hloa := ltN (hfl _ List.mem_cons_self)
    simp only [List.cons_append, List.nil_append] at kNews
    dsimp only [tupOf] at kNews hloa
    k_steps
    walk_at "mine look"
    (try simp only [List.push_toArray] at kN)
    refine' ksw_end ⟨lo, v9, nx9, vs ++ [.str (tx e.2) t1], n + 1⟩ kF kN ?sb trivial ?kk ?sm ?pp ?ms
    case kk => walk_at "mine kk"
    case sb =>
      intro p hp
      rcases List.mem_append.mp hp with hp | hp
      · exact List.mem_append_left _ hp
      · exact List.mem_append_right _ (List.mem_cons_of_mem _ hp)
    case sm => walk_at "mine same"
    case pp => exact ⟨done ++ [e.2], es2, hR9, hen, by rw [List.map_append]; exact strsAre_snoc hvs, by rw [← hdn]; simp, hlo, fun p hp => o9 p hp _ (List.mem_cons_of_mem _ List.mem_cons_self)⟩
    case ms => (simp only [List.length_append, List.length_cons, List.length_nil] at hdl ⊢; omega)
theorem words12 : True := by
  w_top off
  (k_with "call ref" => (k_here; (with_reducible show wpAny _ _ (call (Value.ref 122) [Value.str (Mine.tx _) _]) _ _ _); k_dflt (refine' Ctr.use_lst (Mine.c_split _ _ _ _ ?p1 ?p2 ?p3 ?p4) ?k1 ?k2 ?k3 ?k4 ?k5 ?kK ?kd ?ku ?kp ?_); (case k1 => k_asm); (case k2 => k_asm); (case k3 => k_asm); (case k4 => k_asm); (case k5 => k_asm); (case kK => first | exact rfl | assumption); (case kd => first | (k_dflt exact Mine.room_ hdp rfl) | ktr_room); (case ku => first | (k_dflt exact Mine.units_ hun rfl) | ktr_units); (case p1 => assumption); (case p4 => assumption); (case p2 => assumption); (case p3 => assumption); (case kp => first | exact trivial | k_mem); intro a9 vs9 n9 h9 tk9 hS9 l9 F9 N9; (try k_lt l9); (try dsimp only); (try k_fold); (try k_sweep)))
  trivial
end
-- part W6
section
open PySem PySem.W PyProof.Rows PySem.Calls PySem.Spec
inductive Mode | brace | escape | mask | none
noncomputable def Mode.s : Mode → Str
  | .brace => Str.ofString "brace"
  | .escape => Str.ofString "escape"
  | .mask => Str.ofString "mask"
  | .none => Str.ofString "none"
/-- the scan of a text for its mode: none where a way leaves with 'escape' -/
noncomputable def mscan : List Nat → Nat → Bool → Bool → Bool → Option (Nat × Bool × Bool × Bool)
  | [], d, b, wb, we => some (d, b, wb, we)
  | c :: r, d, b, wb, we =>
    if c = 123 then mscan r (d + 1) b wb we
    else if c = 125 then (if d = 0 then none else mscan r (d - 1) b wb we)
    else if q2 c = true then mscan r d true wb true
    else if (sp4 c || blank c) = true then
      if c = 92 then match r with
        | [] => none
        | e :: r' => if e = 10 then none else if br3 e = true then mscan r' d true true we else mscan (e :: r') d true true we
      else mscan r d true true we
    else mscan r d b wb we
termination_by l => l.length
decreasing_by all_goals (simp only [List.length_cons]; omega)
theorem mscan_nil (d : Nat) (b wb we : Bool) : mscan [] d b wb we = some (d, b, wb, we) := by rw [mscan]
theorem mscan_cons (c : Nat) (r : List Nat) (d : Nat) (b wb we : Bool) : mscan (c :: r) d b wb we =
    if c = 123 then mscan r (d + 1) b wb we
    else if c = 125 then (if d = 0 then none else mscan r (d - 1) b wb we)
    else if q2 c = true then mscan r d true wb true
    else if (sp4 c || blank c) = true then
      if c = 92 then match r with
        | [] => none
        | e :: r' => if e = 10 then none else if br3 e = true then mscan r' d true true we else mscan (e :: r') d true true we
      else mscan r d true true we
    else mscan r d b wb we := by
  rw [mscan.eq_def]
noncomputable def modeE (hashed : Bool) : Option (Nat × Bool × Bool × Bool) → Mode
  | .none => .escape
  | .some (d, b, wb, we) => if 0 < d then .escape else if b = true then (if (we && !wb) = true then .mask else .brace) else if hashed = true then .brace else .none
section
variable {hd b wb we : Bool} {d : Nat}
theorem modeE_esc (h : (0 : Int) < (d : Int)) : modeE hd (.some (d, b, wb, we)) = .escape := by
  have h' : 0 < d := by omega
  simp only [modeE, h', if_true]
theorem modeE_b1 (h : ¬ (0 : Int) < (d : Int)) (hb : b = true) (he : we = true) (hw : wb = true) : modeE hd (.some (d, b, wb, we)) = .brace := by
  have h' : ¬ 0 < d := by omega
  subst hb he hw
  simp only [modeE, if_neg h']; rfl
theorem modeE_m (h : ¬ (0 : Int) < (d : Int)) (hb : b = true) (he : we = true) (hw : wb = false) : modeE hd (.some (d, b, wb, we)) = .mask := by
  have h' : ¬ 0 < d := by omega
  subst hb he hw
  simp only [modeE, if_neg h']; rfl
theorem modeE_b2 (h : ¬ (0 : Int) < (d : Int)) (hb : b = true) (he : we = false) : modeE hd (.some (d, b, wb, we)) = .brace := by
  have h' : ¬ 0 < d := by omega
  subst hb he
  simp only [modeE, if_neg h']; rfl
theorem modeE_b3 (h : ¬ (0 : Int) < (d : Int)) (hb : b = false) (he : hd = true) : modeE hd (.some (d, b, wb, we)) = .brace := by
  have h' : ¬ 0 < d := by omega
  subst hb he
  simp only [modeE, if_neg h']; rfl
theorem modeE_n (h : ¬ (0 : Int) < (d : Int)) (hb : b = false) (he : hd = false) : modeE hd (.some (d, b, wb, we)) = .none := by
  have h' : ¬ 0 < d := by omega
  subst hb he
  simp only [modeE, if_neg h']; rfl
end
noncomputable def modeF : List Nat → Bool → Mode
  | [], _ => .brace
  | c :: r, h => modeE (h && (c == 35)) (mscan (c :: r) 0 (bg2 c) (bg2 c || (h && (c == 35))) false)
noncomputable def CutN (h₀ : Heap) (L : Addr) (s : Shared) (m : Str → Option Value) (news : LedT) (x : Str) (P : Value) (f : Flow) (s' : Shared) : Prop :=
  f = .next ∧ ∃ h' tk, s' = { s with heap := h', toks := tk } ∧ Fr h₀ L h' (fun y => if y = x then some P else m y) ∧ News h₀ L h' news
theorem cut_assign {prog : Program} {w : World} {A : Around} {t : Sem Flow} {Q : Flow → Shared → Prop} {E : VQ} {s : Shared} {h₀ : Heap} {L : Addr} {m : Str → Option Value} {news : LedT} (F : Fr h₀ L s.heap m) (N : News h₀ L s.heap news) (x : Str) (P : Value)
    (wk : wpAny (model prog w) A t (CutN h₀ L s m news x P) E s)
    (us : ∀ h' tk, Fr h₀ L h' (fun y => if y = x then some P else m y) → News h₀ L h' news → Q .next { s with heap := h', toks := tk }) : wpAny (model prog w) A t Q E s := by
  refine wpAny_mono wk ?_ (fun _ _ h => h)
  rintro f s' ⟨rfl, h', tk, rfl, F', N'⟩
  exact us h' tk F' N'
theorem cut_end {s : Shared} {h₀ h' : Heap} {L : Addr} {m : Str → Option Value} {news : LedT} {x : Str} {P v : Value} {tk : Nat} (F : Fr h₀ L h' (fun y => if y = x then some v else m y)) (N : News h₀ L h' news) (e : v = P) : CutN h₀ L s m news x P .next { s with heap := h', toks := tk } :=
  ⟨rfl, h', tk, rfl, e ▸ F, N⟩
theorem words13 : True := by
  w_top off
  (k_with "exec Assign cons BoolOp" => refine Mine.stop_ ?_)
  (k_with "exec Assign cons Compare" => refine Mine.stop_ ?_)
  (k_with "CutN" => refine Mine.stop_ ?_)
  trivial
structure MoS where
  i : Int
  ti : Tok
  d : Int
  td : Tok
  b : Bool
  wb : Bool
  we : Bool
theorem c_mode (w : World) (x : List Nat) (h : Bool) (t : Tok) (hl : x.length ≤ 1000) :
    Ctr w 129 2 [.str (tx x) t, .bool h] (fun _ => True) (fun nx v => nx = [] ∧ ∃ t', v = .str (modeF x h).s t') := by
  walk_at "mine start"
  cases x with
  | nil =>
    have hne : (tx [] == Str.ofString "") = true := by decide +kernel
    walk_at "mine enter"
    k_steps
    walk_at "mine ret"
    exact ⟨_, rfl⟩
  | cons c0 x0 =>
    generalize hx : c0 :: x0 = x at *
    have hne : (tx x == Str.ofString "") = false := by rw [lit_nil, tx_beq, ← hx]; rfl
    have hat0 : At (tx x) 0 c0 := At.of (n := 0) (by omega) rfl (by rw [← hx]; rfl)
    walk_at "mine enter"
    k_steps
    -- is_bound
    walk_at "mine look"
    refine cut_assign kF kN (Str.ofString "is_bound") (.bool (bg2 c0)) ?_ ?_
    · refine wpAny_Assign_Name ?_
      k_steps
      walk_at "mine look"
      exact cut_end kF (cb_drop kN (by walk_at "mine sub")) (congrArg Value.bool (any_bg2 c0))
    intro h2 tk2 F2 N2
    clear kF kN
    (try dsimp only)
    k_steps
    walk_at "mine look"
    refine cut_assign kF kN (Str.ofString "is_hashed") (.bool (h && (c0 == 35))) ?_ ?_
    · refine wpAny_Assign_Name ?_
      k_steps
      all_goals walk_at "mine look"
      all_goals first
        | ((rename (h = true) => hh); exact cut_end kF (cb_drop kN (by walk_at "mine sub")) (by rw [hh, lit_35, tx_beq, one_beq]; rfl))
        | ((rename (h = false) => hh); exact cut_end kF (cb_drop kN (by walk_at "mine sub")) (by rw [hh]; rfl))
    intro h3 tk3 F3 N3
    clear kF kN
    (try dsimp only)
    k_steps
    walk_at "mine look"
    refine cut_assign kF kN (Str.ofString "wants_brace") (.bool (bg2 c0 || (h && (c0 == 35)))) ?_ ?_
    · refine wpAny_Assign_Name ?_
      k_steps
      all_goals walk_at "mine look"
      all_goals first
        | ((rename (bg2 c0 = true) => hh); exact cut_end kF (cb_drop kN (by walk_at "mine sub")) (by rw [hh]; rfl))
        | ((rename (bg2 c0 = false) => hh); exact cut_end kF (cb_drop kN (by walk_at "mine sub")) (by rw [hh]; rfl))
    intro h4 tk4 F4 N4
    clear kF kN
    (try dsimp only)
    k_steps
    unfold Stop
    with_reducible rename Fr _ _ _ _ => F1
    with_reducible rename News _ _ _ _ => N1
    have hmode : modeF x h = modeE (h && (c0 == 35)) (mscan x 0 (bg2 c0) (bg2 c0 || (h && (c0 == 35))) false) := by rw [← hx]; rfl
    refine' ksw_while (σ := MoS) (fun c => news) (fun c => [(Str.ofString "at", .int c.i c.ti), (Str.ofString "depth", .int c.d c.td), (Str.ofString "is_bound", .bool c.b), (Str.ofString "wants_brace", .bool c.wb), (Str.ofString "wants_escape", .bool c.we)]) (fun _ => True) [Str.ofString "c"]
      (fun c => ∃ (i d : Nat), c.i = (i : Int) ∧ c.d = (d : Int) ∧ mscan (x.drop i) d c.b c.wb c.we = mscan x 0 (bg2 c0) (bg2 c0 || (h && (c0 == 35))) false ∧ i ≤ x.length) (fun c => x.length - c.i.toNat) ⟨_, _, _, _, _, _, _⟩ F1 ?kn trivial ?kk ?kp ?_
    case kn => exact cb_drop N1 (by walk_at "mine sub")
    case kk => walk_at "mine kk"
    case kp => exact ⟨0, 0, rfl, rfl, rfl, Nat.zero_le _⟩
    clear F1 N1
    rintro ⟨I, ti, D, td, b, wb, we⟩ kU kH kTk - ⟨i, d, hI, hD, hres, hil⟩ kFr kNews
    dsimp only at hI hD hres kFr kNews ⊢
    subst hI hD
    rw [← hres] at hmode
    generalize mscan x 0 (bg2 c0) (bg2 c0 || (h && (c0 == 35))) false = res at hres
    cases hdr : x.drop i with
    | nil =>
      have hge := drop_nil hdr
      rw [hdr, mscan_nil] at hmode
      k_steps
      all_goals walk_at "mine ret"
      all_goals (rw [hmode])
      all_goals first
        | exact ⟨_, congrArg (fun m => Value.str (Mode.s m) _) (modeE_esc (by assumption)).symm⟩
        | exact ⟨_, congrArg (fun m => Value.str (Mode.s m) _) (modeE_b1 (by assumption) (by assumption) (by assumption) (by assumption)).symm⟩
        | exact ⟨_, congrArg (fun m => Value.str (Mode.s m) _) (modeE_m (by assumption) (by assumption) (by assumption) (by assumption)).symm⟩
        | exact ⟨_, congrArg (fun m => Value.str (Mode.s m) _) (modeE_b2 (by assumption) (by assumption) (by assumption)).symm⟩
        | exact ⟨_, congrArg (fun m => Value.str (Mode.s m) _) (modeE_b3 (by assumption) (by assumption) (by assumption)).symm⟩
        | exact ⟨_, congrArg (fun m => Value.str (Mode.s m) _) (modeE_n (by assumption) (by assumption) (by assumption)).symm⟩
    | cons c r =>
      have hat := At.dropped hl hdr
      have hlt := (drop_get hdr).2.1
      have hdr1 := (drop_get hdr).2.2
      rw [hdr, mscan_cons] at hres hmode
      have hflag := flag
      k_steps
      walk_at "mine look"
      by_cases h123 : c = 123
      · have t123 := eq_tt h123
        rw [← lit_123] at t123
        rw [if_pos h123] at hres
        k_steps
        walk_at "mine look"
        refine' ksw_end ⟨_, _, _, _, _, _, _⟩ kF kN ?sb trivial ?kk ?sm ?pp ?ms
        case kk => walk_at "mine kk"
        case sb => walk_at "mine sub"
        case sm => walk_at "mine same"
        case pp => exact ⟨i + 1, d + 1, rfl, rfl, by dsimp only; rw [hdr1]; exact hres, hlt⟩
        case ms => walk_at "mine ms"
      rw [if_neg h123] at hres hmode
      have f123 := eq_ff h123
      rw [← lit_123] at f123
      walk1
      have hflag := flag
      k_steps
      walk_at "mine look"
      by_cases h125 : c = 125
      · have t125 := eq_tt h125
        rw [← lit_125] at t125
        rw [if_pos h125] at hres hmode
        by_cases hd0 : d = 0
        · subst hd0
          rw [if_pos rfl] at hmode
          k_steps
          all_goals (try (exfalso; omega))
          walk_at "mine ret"
          rw [hmode]
          exact ⟨_, rfl⟩
        · rw [if_neg hd0] at hres
          k_steps
          all_goals (try (exfalso; omega))
          walk_at "mine look"
          refine' ksw_end ⟨_, _, _, _, _, _, _⟩ kF kN ?sb trivial ?kk ?sm ?pp ?ms
          case kk => walk_at "mine kk"
          case sb => walk_at "mine sub"
          case sm => walk_at "mine same"
          case pp => exact ⟨i + 1, d - 1, rfl, predI hd0, by dsimp only; rw [hdr1]; exact hres, hlt⟩
          case ms => walk_at "mine ms"
      rw [if_neg h125] at hres hmode
      have f125 := eq_ff h125
      rw [← lit_125] at f125
      walk1
      have hflag := flag
      k_steps
      walk_at "mine look"
      by_cases hq : q2 c = true
      · rw [if_pos hq] at hres
        have hq' := (any_q2 c).trans hq
        k_steps
        walk_at "mine look"
        refine' ksw_end ⟨_, _, _, _, _, _, _⟩ kF kN ?sb trivial ?kk ?sm ?pp ?ms
        case kk => walk_at "mine kk"
        case sb => walk_at "mine sub"
        case sm => walk_at "mine same"
        case pp => exact ⟨i + 1, d, rfl, rfl, by dsimp only; rw [hdr1]; exact hres, hlt⟩
        case ms => walk_at "mine ms"
      rw [if_neg hq] at hres hmode
      have hq' := (any_q2 c).trans (Bool.eq_false_iff.mpr hq)
      walk1
      have hflag := flag
      k_steps
      walk_at "mine look"
      by_cases h92 : c = 92
      · have h4' := (any_sp4 c).trans (show sp4 c = true by rw [h92]; decide)
        have t92 := eq_tt h92
        rw [← lit_92] at t92
        have hs : (sp4 c || blank c) = true := by rw [h92]; decide
        rw [if_pos hs, if_pos h92] at hres hmode
        walk1
        have hflag := flag
        k_steps
        walk_at "mine look"
        cases r with
        | nil =>
          have hlen : (i : Int) + 1 = (x.length : Int) := by have := drop_nil hdr1; omega
          k_steps
          all_goals (try (exfalso; omega))
          walk_at "mine ret"
          rw [hmode]
          exact ⟨_, rfl⟩
        | cons e r' =>
          have hat1 : At (tx x) ((i : Int) + 1) e := At.of (n := i + 1) (by omega) rfl (drop_get hdr1).1
          have hlt1 := (drop_get hdr1).2.1
          have hdr2 := (drop_get hdr1).2.2
          have hnl : ¬ ((i : Int) + 1 = (x.length : Int)) := by omega
          dsimp only at hres hmode
          by_cases h10 : e = 10
          · have t10 := eq_tt h10
            rw [← lit_10] at t10
            rw [if_pos h10] at hmode
            k_steps
            all_goals (try (exfalso; omega))
            walk_at "mine ret"
            rw [hmode]
            exact ⟨_, rfl⟩
          rw [if_neg h10] at hres
          have f10 := eq_ff h10
          rw [← lit_10] at f10
          by_cases hb3 : br3 e = true
          · rw [if_pos hb3] at hres
            have hb3' := (any_br3 e).trans hb3
            k_steps
            all_goals (try (exfalso; omega))
            walk_at "mine look"
            refine' ksw_end ⟨_, _, _, _, _, _, _⟩ kF kN ?sb trivial ?kk ?sm ?pp ?ms
            case kk => walk_at "mine kk"
            case sb => walk_at "mine sub"
            case sm => walk_at "mine same"
            case pp => exact ⟨i + 2, d, rfl, rfl, by dsimp only; rw [hdr2]; exact hres, hlt1⟩
            case ms => walk_at "mine ms"
          · rw [if_neg hb3] at hres
            have hb3' := (any_br3 e).trans (Bool.eq_false_iff.mpr hb3)
            k_steps
            all_goals (try (exfalso; omega))
            walk_at "mine look"
            refine' ksw_end ⟨_, _, _, _, _, _, _⟩ kF kN ?sb trivial ?kk ?sm ?pp ?ms
            case kk => walk_at "mine kk"
            case sb => walk_at "mine sub"
            case sm => walk_at "mine same"
            case pp => exact ⟨i + 1, d, rfl, rfl, by dsimp only; rw [hdr1]; exact hres, hlt⟩
            case ms => walk_at "mine ms"
      have f92 := eq_ff h92
      rw [← lit_92] at f92
      by_cases h4 : sp4 c = true
      · have h4' := (any_sp4 c).trans h4
        have hs : (sp4 c || blank c) = true := by rw [h4]; rfl
        rw [if_pos hs, if_neg h92] at hres
        k_steps
        walk_at "mine look"
        refine' ksw_end ⟨_, _, _, _, _, _, _⟩ kF kN ?sb trivial ?kk ?sm ?pp ?ms
        case kk => walk_at "mine kk"
        case sb => walk_at "mine sub"
        case sm => walk_at "mine same"
        case pp => exact ⟨i + 1, d, rfl, rfl, by dsimp only; rw [hdr1]; exact hres, hlt⟩
        case ms => walk_at "mine ms"
      have h4f := Bool.eq_false_iff.mpr h4
      have h4' := (any_sp4 c).trans h4f
      by_cases hb : blank c = true
      · have hs : (sp4 c || blank c) = true := by rw [hb]; exact Bool.or_true _
        rw [if_pos hs, if_neg h92] at hres
        k_steps
        walk_at "mine look"
        refine' ksw_end ⟨_, _, _, _, _, _, _⟩ kF kN ?sb trivial ?kk ?sm ?pp ?ms
        case kk => walk_at "mine kk"
        case sb => walk_at "mine sub"
        case sm => walk_at "mine same"
        case pp => exact ⟨i + 1, d, rfl, rfl, by dsimp only; rw [hdr1]; exact hres, hlt⟩
        case ms => walk_at "mine ms"
      have hbf := Bool.eq_false_iff.mpr hb
      have hs : ¬ (sp4 c || blank c) = true := by rw [h4f, hbf]; decide
      rw [if_neg hs] at hres
      k_steps
      walk_at "mine look"
      refine' ksw_end ⟨_, _, _, _, _, _, _⟩ kF kN ?sb trivial ?kk ?sm ?pp ?ms
      case kk => walk_at "mine kk"
      case sb => walk_at "mine sub"
      case sm => walk_at "mine same"
      case pp => exact ⟨i + 1, d, rfl, rfl, by dsimp only; rw [hdr1]; exact hres, hlt⟩
      case ms => walk_at "mine ms"
theorem words14 : True := by
  w_top off
  (k_with "call ref" => (k_here; (with_reducible show wpAny _ _ (call (Value.ref 129) [Value.str (Mine.tx _) _, Value.bool _]) _ _ _); k_dflt (refine' Ctr.use_str (Mine.c_mode _ _ _ _ ?p1) ?k1 ?k2 ?k3 ?k4 ?k5 ?kK ?kd ?ku ?kp ?_); (case k1 => k_asm); (case k2 => k_asm); (case k3 => k_asm); (case k4 => k_asm); (case k5 => k_asm); (case kK => first | exact rfl | assumption); (case kd => first | (k_dflt exact Mine.room_ hdp rfl) | ktr_room); (case ku => first | (k_dflt exact Mine.units_ hun rfl) | ktr_units); (case p1 => assumption); (case kp => first | exact trivial | k_mem); intro t9 h9 tk9 F9 N9; (try dsimp only); (try k_fold); (try k_sweep)))
  trivial
end
-- part W7
section
open PySem PySem.W PyProof.Rows PySem.Calls PySem.Spec
noncomputable def hashPre : List Nat → Bool → List (List Nat)
  | c :: _, h => if (h && c == 35) = true then [[92]] else []
  | [], _ => []
noncomputable def quoteF (x : List Nat) (h : Bool) : List Nat :=
  match modeF x h with
  | .none => x
  | .brace => 123 :: (x ++ [125])
  | m => (hashPre x h ++ x.map (escF (m.s == Str.ofString "escape"))).flatten
theorem joinL_nil (zs : List (List Nat)) : joinL [] zs = zs.flatten := by
  cases zs with
  | nil => rfl
  | cons a r =>
    simp only [joinL, List.nil_append, List.flatten_cons]
    congr 2
    exact List.map_id' r
theorem escF_len (deep : Bool) (c : Nat) : (escF deep c).length ≤ 2 := by
  unfold escF; repeat' split
  all_goals simp
theorem sum_esc (deep : Bool) (x : List Nat) : (((x.map (escF deep)).map tx).map (·.length)).sum ≤ 2 * x.length := by
  induction x with
  | nil => exact Nat.le_refl _
  | cons a r ih =>
    have := escF_len deep a
    simp only [List.map_cons, List.sum_cons, List.length_cons, tx_len]
    omega
theorem hashPre_sum (x : List Nat) (h : Bool) : (((hashPre x h).map tx).map (·.length)).sum ≤ 1 := by
  unfold hashPre; repeat' split
  all_goals decide
theorem hashPre_len (x : List Nat) (h : Bool) : (hashPre x h).length ≤ 1 := by
  unfold hashPre; repeat' split
  all_goals decide
theorem codes_tx (x : List Nat) : KStt.codes (tx x) = x.map fun (c : Nat) => (c : Int) := by
  simp [KStt.codes, tx]
theorem fr_tx {h₀ h : Heap} {L : Addr} {x : Str} {n : Nat} {t : Tok} {g : Str → Option Value} (F : Fr h₀ L h (fun y => if y = x then some (.str ⟨#[n]⟩ t) else g y)) : Fr h₀ L h (fun y => if y = x then some (.str (tx [n]) t) else g y) := F
structure QuS where
  vs : List Value
  n : Nat
theorem cast_inj : ∀ {a b : List Nat}, (a.map fun (c : Nat) => (c : Int)) = (b.map fun (c : Nat) => (c : Int)) → a = b
  | [], [], _ => rfl
  | [], _ :: _, h => by simp at h
  | _ :: _, [], h => by simp at h
  | x :: a, y :: b, h => by
    simp only [List.map_cons, List.cons.injEq, Int.natCast_inj] at h
    rw [h.1, cast_inj h.2]
noncomputable def CutQ (h₀ : Heap) (L : Addr) (s : Shared) (m : Str → Option Value) (lo : Addr) (news : LedT) (ys : List Str) (f : Flow) (s' : Shared) : Prop :=
  f = .next ∧ ∃ h' tk vs n, s' = { s with heap := h', toks := tk } ∧ Fr h₀ L h' m ∧ News h₀ L h' ((lo, listOf vs.toArray n) :: news) ∧ StrsAre vs ys
theorem cut_q {prog : Program} {w : World} {A : Around} {t : Sem Flow} {Q : Flow → Shared → Prop} {E : VQ} {s : Shared} {h₀ : Heap} {L lo : Addr} {m : Str → Option Value} {news : LedT} {o : Obj} (_F : Fr h₀ L s.heap m) (_N : News h₀ L s.heap ((lo, o) :: news)) (ys : List Str)
    (wk : wpAny (model prog w) A t (CutQ h₀ L s m lo news ys) E s)
    (us : ∀ h' tk vs n, Fr h₀ L h' m → News h₀ L h' ((lo, listOf vs.toArray n) :: news) → StrsAre vs ys → Q .next { s with heap := h', toks := tk }) : wpAny (model prog w) A t Q E s := by
  refine wpAny_mono wk ?_ (fun _ _ h => h)
  rintro f s' ⟨rfl, h', tk, vs, n, rfl, F', N', hS⟩
  exact us h' tk vs n F' N' hS
theorem cut_qend {s : Shared} {h₀ h' : Heap} {L lo : Addr} {m : Str → Option Value} {news : LedT} {ys : List Str} {tk n : Nat} {vs : List Value} (F : Fr h₀ L h' m) (N : News h₀ L h' ((lo, listOf vs.toArray n) :: news)) (e : StrsAre vs ys) : CutQ h₀ L s m lo news ys .next { s with heap := h', toks := tk } :=
  ⟨rfl, h', tk, vs, n, rfl, F, N, e⟩
theorem none_tt {m : Mode} (h : m = .none) : (m.s == Str.ofString "none") = true := by subst h; decide +kernel
theorem none_ff {m : Mode} (h : ¬ m = .none) : (m.s == Str.ofString "none") = false := by
  cases m with
  | none => exact absurd rfl h
  | _ => decide +kernel
theorem brace_tt {m : Mode} (h : m = .brace) : (m.s == Str.ofString "brace") = true := by subst h; decide +kernel
theorem brace_ff {m : Mode} (h : ¬ m = .brace) : (m.s == Str.ofString "brace") = false := by
  cases m with
  | brace => exact absurd rfl h
  | _ => decide +kernel
theorem quote_else {x : List Nat} {h : Bool} (h1 : ¬ modeF x h = .none) (h2 : ¬ modeF x h = .brace) : quoteF x h = (hashPre x h ++ x.map (escF ((modeF x h).s == Str.ofString "escape"))).flatten := by
  unfold quoteF
  split
  · rename_i e; exact absurd e h1
  · rename_i e; exact absurd e h2
  · rfl
theorem hash_tt {x x0 : List Nat} {c0 : Nat} {h : Bool} (hx : x = c0 :: x0) (hh : h = true) (hc : (tx [c0] == Str.ofString "#") = true) : (hashPre x h).map tx = [Str.ofString "\\"] := by
  rw [lit_35, tx_beq, one_beq] at hc
  subst hx hh
  simp only [hashPre, hc, Bool.and_self, if_true, List.map_cons, List.map_nil, lit_92]
theorem hash_cf {x x0 : List Nat} {c0 : Nat} {h : Bool} (hx : x = c0 :: x0) (hc : (tx [c0] == Str.ofString "#") = false) : (hashPre x h).map tx = [] := by
  rw [lit_35, tx_beq, one_beq] at hc
  subst hx
  simp only [hashPre, hc, Bool.and_false]; rfl
theorem hash_hf {x : List Nat} {h : Bool} (hh : h = false) : (hashPre x h).map tx = [] := by
  subst hh
  cases x <;> rfl
theorem words15 : True := by
  w_top off
  (k_with "CutQ" => refine Mine.stop_ ?_)
  trivial
theorem c_quote (w : World) (x : List Nat) (h : Bool) (t : Tok) (hl : x.length ≤ 1000) :
    Ctr w 144 3 [.str (tx x) t, .bool h] (fun _ => True) (fun nx v => nx = [] ∧ ∃ t', v = .str (tx (quoteF x h)) t') := by
  walk_at "mine start"
  walk_at "mine enterD"
  have hflag := flag
  k_steps
  walk_at "mine look"
  by_cases hm : modeF x h = .none
  · have f1 := none_tt hm
    k_steps
    walk_at "mine ret"
    exact ⟨_, by rw [quoteF, hm]⟩
  have f1 := none_ff hm
  walk1
  have hflag := flag
  k_steps
  walk_at "mine look"
  by_cases hb : modeF x h = .brace
  · have f2 := brace_tt hb
    have a1 : Str.ofString "{" ++ tx x = tx (123 :: x) := by rw [lit_123, tx_app]; rfl
    have a2 : tx (123 :: x) ++ Str.ofString "}" = tx (123 :: (x ++ [125])) := by rw [lit_125, tx_app]; rfl
    have z1 : (Str.ofString "{").length + (tx x).length ≤ 2 ^ 20 := by rw [lit_123, tx_len, tx_len]; simp only [List.length_cons, List.length_nil]; omega
    have z2 : (tx (123 :: x)).length + (Str.ofString "}").length ≤ 2 ^ 20 := by rw [lit_125, tx_len, tx_len]; simp only [List.length_cons, List.length_nil]; omega
    k_steps
    walk_at "mine ret"
    exact ⟨_, by rw [quoteF, hb]⟩
  have f2 := brace_ff hb
  have hq := quote_else hm hb
  obtain ⟨c0, x0, hx0⟩ : ∃ c0 x0, x = c0 :: x0 := by
    cases x with
    | nil => exact absurd rfl hb
    | cons a b => exact ⟨a, b, rfl⟩
  have hat0 : At (tx x) 0 c0 := At.of (n := 0) (by omega) rfl (by rw [hx0]; rfl)
  walk1
  have hflag := flag
  k_steps
  walk_at "mine look"
  refine use_lo kN ?_
  intro lo elo
  subst elo
  have hlo : ∀ p ∈ news, p.1 < lo := by assumption
  refine cut_q kF kN ((hashPre x h).map tx) ?_ ?_
  · refine wpAny_If ?_
    k_steps
    all_goals walk_at "mine look"
    all_goals (try simp only [List.push_toArray, List.nil_append] at kN)
    all_goals refine cut_qend kF kN ?_
    all_goals first
      | ((rename ((tx [c0] == Str.ofString "#") = true) => hc); (rename (h = true) => hh); rw [hash_tt hx0 hh hc]; exact .cons _ _ .nil)
      | ((rename ((tx [c0] == Str.ofString "#") = false) => hc); rw [hash_cf hx0 hc]; exact .nil)
      | ((rename (h = false) => hh); rw [hash_hf hh]; exact .nil)
      | (rw [hash_hf rfl]; exact .nil)
  · intro h2 tk2 vs2 n2 F2 N2 hS2
    clear kF kN
    (try dsimp only)
    k_steps
    walk_at "mine look"
    with_unfolding_all refine For_invVF kF (by rfl) (by rfl) ?_
    k_steps
    walk_at "mine look"
    have hsl : (hashPre x h).length ≤ 1 := hashPre_len x h
    refine KStt.kst_text (σ := QuS) (fun c => (lo, listOf c.vs.toArray c.n) :: news) (fun _ => []) (fun _ => True) [] (fun pre c => ∃ done : List Nat, pre = done.map (fun (c : Nat) => (c : Int)) ∧ StrsAre c.vs ((hashPre x h ++ done.map (escF ((modeF x h).s == Str.ofString "escape"))).map tx)) ⟨vs2, n2⟩ rfl kF kN trivial (fun _ hp => nomatch hp) ⟨[], rfl, by simpa using hS2⟩ ?_ ?_
    · rintro ⟨vs, n⟩ pre post c t3 u h3 tk3 own hco hof - ⟨done, hpre2, hvs⟩ F3 N3
      clear kF kN
      dsimp only at hvs N3 F3 hof
      replace F3 := fr_tx F3
      rw [codes_tx, hpre2] at hco
      have hlen := congrArg List.length hco
      simp only [List.length_map, List.length_append, List.length_cons] at hlen
      have hvl := strsAre_len hvs
      simp only [List.length_map, List.length_append] at hvl
      have hvl2 : vs.length ≤ 2000 := by omega
      rw [List.cons_append] at N3
      have hne3 : ∀ p ∈ news ++ own, p.1 ≠ lo := by
        intro p hp
        rcases List.mem_append.mp hp with hp | hp
        · exact Nat.ne_of_lt (hlo p hp)
        · exact hof p hp lo List.mem_cons_self
      k_steps
      walk_at "mine look"
      (try simp only [List.push_toArray] at kN)
      refine' kst_end (⟨vs ++ [.str (tx (escF ((modeF x h).s == Str.ofString "escape") c)) t9], n + 1⟩ : QuS) kF kN ?hn ?ho rfl trivial (fun _ hp => nomatch hp) ?hr ⟨done ++ [c], ?hc, ?hs⟩
      case hn =>
        intro p hp
        rcases List.mem_cons.mp hp with hp | hp
        · rw [hp]; exact List.mem_cons_self
        · exact List.mem_cons_of_mem _ (List.mem_append_left _ hp)
      case ho => exact fun p hp => List.mem_cons_of_mem _ (List.mem_append_right _ hp)
      case hr => (intro z h1 h2 h3; simp [kstB, h1])
      case hc => rw [hpre2, List.map_append]; rfl
      case hs =>
        have e : (hashPre x h ++ (done ++ [c]).map (escF ((modeF x h).s == Str.ofString "escape"))).map tx = (hashPre x h ++ done.map (escF ((modeF x h).s == Str.ofString "escape"))).map tx ++ [tx (escF ((modeF x h).s == Str.ofString "escape") c)] := by simp
        rw [e]
        exact strsAre_snoc hvs
    · rintro ⟨vs, n⟩ u h3 tk3 - ⟨done, hpre2, hvs⟩ F3 N3
      clear kF kN
      dsimp only at hvs N3 F3
      rw [codes_tx] at hpre2
      have hdx := cast_inj hpre2
      subst hdx
      have hJ : Txt.join (Str.ofString "") ((hashPre x h ++ x.map (escF ((modeF x h).s == Str.ofString "escape"))).map tx) = tx (hashPre x h ++ x.map (escF ((modeF x h).s == Str.ofString "escape"))).flatten := by
        rw [lit_nil, join_tx, joinL_nil]
      have hB : (((hashPre x h ++ x.map (escF ((modeF x h).s == Str.ofString "escape"))).map tx).map (·.length)).sum + ((hashPre x h ++ x.map (escF ((modeF x h).s == Str.ofString "escape"))).map tx).length * (Str.ofString "").length ≤ 2 ^ 20 := by
        have h1 := sum_esc ((modeF x h).s == Str.ofString "escape") x
        have h2 := hashPre_sum x h
        rw [List.map_append, List.map_append, List.sum_append, lit_nil, tx_len]
        simp only [List.length_nil, Nat.mul_zero]
        omega
      k_steps
      walk_at "mine ret"
      exact ⟨_, by rw [hq]⟩
theorem c_quote1 (w : World) (x : List Nat) (t : Tok) (hl : x.length ≤ 1000) :
    Ctr w 144 3 [.str (tx x) t] (fun _ => True) (fun nx v => nx = [] ∧ ∃ t', v = .str (tx (quoteF x false)) t') := by
  walk_at "mine start"
  walk_at "mine enterD"
  have hflag := flag
  k_steps
  walk_at "mine look"
  by_cases hm : modeF x false = .none
  · have f1 := none_tt hm
    k_steps
    walk_at "mine ret"
    exact ⟨_, by rw [quoteF, hm]⟩
  have f1 := none_ff hm
  walk1
  have hflag := flag
  k_steps
  walk_at "mine look"
  by_cases hb : modeF x false = .brace
  · have f2 := brace_tt hb
    have a1 : Str.ofString "{" ++ tx x = tx (123 :: x) := by rw [lit_123, tx_app]; rfl
    have a2 : tx (123 :: x) ++ Str.ofString "}" = tx (123 :: (x ++ [125])) := by rw [lit_125, tx_app]; rfl
    have z1 : (Str.ofString "{").length + (tx x).length ≤ 2 ^ 20 := by rw [lit_123, tx_len, tx_len]; simp only [List.length_cons, List.length_nil]; omega
    have z2 : (tx (123 :: x)).length + (Str.ofString "}").length ≤ 2 ^ 20 := by rw [lit_125, tx_len, tx_len]; simp only [List.length_cons, List.length_nil]; omega
    k_steps
    walk_at "mine ret"
    exact ⟨_, by rw [quoteF, hb]⟩
  have f2 := brace_ff hb
  have hq := quote_else hm hb
  obtain ⟨c0, x0, hx0⟩ : ∃ c0 x0, x = c0 :: x0 := by
    cases x with
    | nil => exact absurd rfl hb
    | cons a b => exact ⟨a, b, rfl⟩
  have hat0 : At (tx x) 0 c0 := At.of (n := 0) (by omega) rfl (by rw [hx0]; rfl)
  walk1
  have hflag := flag
  k_steps
  walk_at "mine look"
  refine use_lo kN ?_
  intro lo elo
  subst elo
  have hlo : ∀ p ∈ news, p.1 < lo := by assumption
  refine cut_q kF kN ((hashPre x false).map tx) ?_ ?_
  · refine wpAny_If ?_
    k_steps
    all_goals walk_at "mine look"
    all_goals (try simp only [List.push_toArray, List.nil_append] at kN)
    all_goals refine cut_qend kF kN ?_
    all_goals first
      | ((rename ((tx [c0] == Str.ofString "#") = true) => hc); (rename (h = true) => hh); rw [hash_tt hx0 hh hc]; exact .cons _ _ .nil)
      | ((rename ((tx [c0] == Str.ofString "#") = false) => hc); rw [hash_cf hx0 hc]; exact .nil)
      | ((rename (h = false) => hh); rw [hash_hf hh]; exact .nil)
      | (rw [hash_hf rfl]; exact .nil)
  · intro h2 tk2 vs2 n2 F2 N2 hS2
    clear kF kN
    (try dsimp only)
    k_steps
    walk_at "mine look"
    with_unfolding_all refine For_invVF kF (by rfl) (by rfl) ?_
    k_steps
    walk_at "mine look"
    have hsl : (hashPre x false).length ≤ 1 := hashPre_len x false
    refine KStt.kst_text (σ := QuS) (fun c => (lo, listOf c.vs.toArray c.n) :: news) (fun _ => []) (fun _ => True) [] (fun pre c => ∃ done : List Nat, pre = done.map (fun (c : Nat) => (c : Int)) ∧ StrsAre c.vs ((hashPre x false ++ done.map (escF ((modeF x false).s == Str.ofString "escape"))).map tx)) ⟨vs2, n2⟩ rfl kF kN trivial (fun _ hp => nomatch hp) ⟨[], rfl, by simpa using hS2⟩ ?_ ?_
    · rintro ⟨vs, n⟩ pre post c t3 u h3 tk3 own hco hof - ⟨done, hpre2, hvs⟩ F3 N3
      clear kF kN
      dsimp only at hvs N3 F3 hof
      replace F3 := fr_tx F3
      rw [codes_tx, hpre2] at hco
      have hlen := congrArg List.length hco
      simp only [List.length_map, List.length_append, List.length_cons] at hlen
      have hvl := strsAre_len hvs
      simp only [List.length_map, List.length_append] at hvl
      have hvl2 : vs.length ≤ 2000 := by omega
      rw [List.cons_append] at N3
      have hne3 : ∀ p ∈ news ++ own, p.1 ≠ lo := by
        intro p hp
        rcases List.mem_append.mp hp with hp | hp
        · exact Nat.ne_of_lt (hlo p hp)
        · exact hof p hp lo List.mem_cons_self
      k_steps
      walk_at "mine look"
      (try simp only [List.push_toArray] at kN)
      refine' kst_end (⟨vs ++ [.str (tx (escF ((modeF x false).s == Str.ofString "escape") c)) t9], n + 1⟩ : QuS) kF kN ?hn ?ho rfl trivial (fun _ hp => nomatch hp) ?hr ⟨done ++ [c], ?hc, ?hs⟩
      case hn =>
        intro p hp
        rcases List.mem_cons.mp hp with hp | hp
        · rw [hp]; exact List.mem_cons_self
        · exact List.mem_cons_of_mem _ (List.mem_append_left _ hp)
      case ho => exact fun p hp => List.mem_cons_of_mem _ (List.mem_append_right _ hp)
      case hr => (intro z h1 h2 h3; simp [kstB, h1])
      case hc => rw [hpre2, List.map_append]; rfl
      case hs =>
        have e : (hashPre x false ++ (done ++ [c]).map (escF ((modeF x false).s == Str.ofString "escape"))).map tx = (hashPre x false ++ done.map (escF ((modeF x false).s == Str.ofString "escape"))).map tx ++ [tx (escF ((modeF x false).s == Str.ofString "escape") c)] := by simp
        rw [e]
        exact strsAre_snoc hvs
    · rintro ⟨vs, n⟩ u h3 tk3 - ⟨done, hpre2, hvs⟩ F3 N3
      clear kF kN
      dsimp only at hvs N3 F3
      rw [codes_tx] at hpre2
      have hdx := cast_inj hpre2
      subst hdx
      have hJ : Txt.join (Str.ofString "") ((hashPre x false ++ x.map (escF ((modeF x false).s == Str.ofString "escape"))).map tx) = tx (hashPre x false ++ x.map (escF ((modeF x false).s == Str.ofString "escape"))).flatten := by
        rw [lit_nil, join_tx, joinL_nil]
      have hB : (((hashPre x false ++ x.map (escF ((modeF x false).s == Str.ofString "escape"))).map tx).map (·.length)).sum + ((hashPre x false ++ x.map (escF ((modeF x false).s == Str.ofString "escape"))).map tx).length * (Str.ofString "").length ≤ 2 ^ 20 := by
        have h1 := sum_esc ((modeF x false).s == Str.ofString "escape") x
        have h2 := hashPre_sum x false
        rw [List.map_append, List.map_append, List.sum_append, lit_nil, tx_len]
        simp only [List.length_nil, Nat.mul_zero]
        omega
      k_steps
      walk_at "mine ret"
      exact ⟨_, by rw [hq]⟩
theorem words16 : True := by
  w_top off
  (k_with "call ref" => (k_here; (with_reducible show wpAny _ _ (call (Value.ref 144) [Value.str (Mine.tx _) _, Value.bool _]) _ _ _); k_dflt (refine' Ctr.use_str (Mine.c_quote _ _ _ _ ?p1) ?k1 ?k2 ?k3 ?k4 ?k5 ?kK ?kd ?ku ?kp ?_); (case k1 => k_asm); (case k2 => k_asm); (case k3 => k_asm); (case k4 => k_asm); (case k5 => k_asm); (case kK => first | exact rfl | assumption); (case kd => first | (k_dflt exact Mine.room_ hdp rfl) | ktr_room); (case ku => first | (k_dflt exact Mine.units_ hun rfl) | ktr_units); (case p1 => assumption); (case kp => first | exact trivial | k_mem); intro t9 h9 tk9 F9 N9; (try dsimp only); (try k_fold); (try k_sweep)))
  (k_with "call ref" => (k_here; (with_reducible show wpAny _ _ (call (Value.ref 144) [Value.str (Mine.tx _) _]) _ _ _); k_dflt (refine' Ctr.use_str (Mine.c_quote1 _ _ _ ?p1) ?k1 ?k2 ?k3 ?k4 ?k5 ?kK ?kd ?ku ?kp ?_); (case k1 => k_asm); (case k2 => k_asm); (case k3 => k_asm); (case k4 => k_asm); (case k5 => k_asm); (case kK => first | exact rfl | assumption); (case kd => first | (k_dflt exact Mine.room_ hdp rfl) | ktr_room); (case ku => first | (k_dflt exact Mine.units_ hun rfl) | ktr_units); (case p1 => assumption); (case kp => first | exact trivial | k_mem); intro t9 h9 tk9 F9 N9; (try dsimp only); (try k_fold); (try k_sweep)))
  trivial
end
-- part W8
section
open PySem PySem.W PyProof.Rows PySem.Calls PySem.Spec
noncomputable def qsF : List (List Nat) → List (List Nat)
  | [] => []
  | x :: r => quoteF x true :: r.map (quoteF · false)
noncomputable def joinF (xs : List (List Nat)) : List Nat := joinL [32] (qsF xs)
noncomputable def ValsJ {σ : Type} (Led : σ → LedT) (ps : σ → List (Str × Value)) (x : Str) (stored : List Str) (m₀ : Str → Option Value) (P : Nat → σ → Prop) (i : Nat) (m : Str → Option Value) (nx : LedT) : Prop :=
  ∃ c : σ, nx = Led c ∧ (∀ p ∈ ps c, m p.1 = some p.2) ∧ (∀ z, z ≠ x → (∀ p ∈ ps c, z ≠ p.1) → stored.contains z = false → m z = m₀ z) ∧ P i c
section
variable {prog : Program} {w : World} {A : Around} {E : Value → Shared → Prop} {s : Shared} {env : Env} {h₀ : Heap} {x : Str} {body : List Stmt} {Q : Flow → Shared → Prop}
/-- a loop over a made list, whatever it holds -/
theorem loop_vals {σ : Type} {l : Addr} {vs : List Value} {nn : Nat} {m₀ : Str → Option Value} (Led : σ → LedT) (ps : σ → List (Str × Value)) (stored : List Str) (P : Nat → σ → Prop) (c₀ : σ)
    (hh : A.handled = none) (hl : (l, listOf vs.toArray nn) ∈ Led c₀) (F : Fr h₀ env.locals s.heap m₀) (N : News h₀ env.locals s.heap (Led c₀)) (hk : ∀ p ∈ ps c₀, m₀ p.1 = some p.2) (hp : P 0 c₀)
    (turn : ∀ (c : σ) (i : Nat) (v : Value) (u : Str → Option Value) h tk own, vs[i]? = some v → OwnOff own ((Led c).map (·.1)) → P i c →
      Fr h₀ env.locals h (fun y => if y = x then some v else kstB (fun z => if stored.contains z then u z else m₀ z) (ps c) y) → News h₀ env.locals h (Led c ++ own) →
      wpAny (model prog w) A (execs body env) (InvPostG h₀ env.locals (fun m' nx => (l, listOf vs.toArray nn) ∈ nx ∧ ValsJ Led ps x stored m₀ P (i + 1) m' nx) own { s with heap := h, toks := tk } Q) E { s with heap := h, toks := tk })
    (done : ∀ (c : σ) (u : Str → Option Value) h tk, P vs.length c → Fr h₀ env.locals h (fun y => if y = x then u y else kstB (fun z => if stored.contains z then u z else m₀ z) (ps c) y) → News h₀ env.locals h (Led c) → Q .next { s with heap := h, toks := tk }) :
    wpAny (model prog w) A (pyIter (.ref l)) (fun it s₂ => LoopAtV prog w A h₀ env x body Q E it s₂) E s := by
  refine kdl_iter (fun i m nx => ValsJ Led ps x stored m₀ P i m nx) hh hl F N ⟨c₀, rfl, hk, fun _ _ _ _ => rfl, hp⟩ ?_ ?_
  · rintro i v m₁ nx h tk own hv hoff _ ⟨c, rfl, h1, h2, hp'⟩ F₁ N₁
    exact turn c i v m₁ h tk own hv hoff hp' (kst_fr h1 h2 F₁) N₁
  · rintro m₁ nx h tk ⟨c, rfl, h1, h2, hp'⟩ F₁ N₁
    exact done c m₁ h tk hp' (kst_frOut h1 h2 F₁) N₁
theorem vals_end {σ : Type} {L l : Addr} {vs : List Value} {nn : Nat} {m₀ m' : Str → Option Value} {Led : σ → LedT} {ps : σ → List (Str × Value)} {stored : List Str} {P : Nat → σ → Prop} {i : Nat} {own news' : LedT} {s₁ : Shared} {h' : Heap} {tk : Nat} (c' : σ)
    (F : Fr h₀ L h' m') (N : News h₀ L h' news') (hn : ∀ p ∈ Led c', p ∈ news') (ho : ∀ p ∈ own, p ∈ news') (hoff : OwnOff own ((Led c').map (·.1))) (hl : (l, listOf vs.toArray nn) ∈ Led c')
    (hk : ∀ p ∈ ps c', m' p.1 = some p.2) (hr : ∀ z, z ≠ x → (∀ p ∈ ps c', z ≠ p.1) → stored.contains z = false → m' z = m₀ z) (hp : P (i + 1) c') :
    InvEndG h₀ L (fun m' nx => (l, listOf vs.toArray nn) ∈ nx ∧ ValsJ Led ps x stored m₀ P (i + 1) m' nx) own s₁ { s₁ with heap := h', toks := tk } :=
  ⟨h', tk, m', news', Led c', rfl, F, N, hn, ho, hoff, hl, c', rfl, hk, hr, hp⟩
theorem len_led {L l : Addr} {news : LedT} {us : List Value} {c : Nat} {Q : Value → Shared → Prop} (N : News h₀ L s.heap news) (hm : (l, listOf us.toArray c) ∈ news) (hfit : us.length < 2 ^ 62)
    (h : Q (.int (us.length : Int) (s.toks + 1)) { s with toks := s.toks + 1 + 1 }) : wpAny (model prog w) A (call (.builtin "len") [.ref l]) Q E s := by
  have hl : s.heap.IsList l us.toArray := ⟨_, (N _ hm).1, rfl, c, rfl⟩
  have e2 : us.toArray.size = us.length := List.size_toArray
  exact PyProof.Rows.len_list hl (by rw [e2]; omega) (by rw [e2]; exact h)
end
theorem strsAre_get : ∀ {vs : List Value} {ys : List Str} {i : Nat} {v : Value}, StrsAre vs ys → vs[i]? = some v → ∃ y t, ys[i]? = some y ∧ v = .str y t
  | _, _, _, _, .nil, h => by simp at h
  | _, _, 0, _, .cons y t _, h => by
    simp only [List.getElem?_cons_zero, Option.some.injEq] at h
    exact ⟨y, t, rfl, h.symm⟩
  | _, _, i + 1, _, .cons y t r, h => by
    simp only [List.getElem?_cons_succ] at h ⊢
    exact strsAre_get r h
theorem escs_len (d : Bool) (x : List Nat) : (x.map (escF d)).flatten.length ≤ 2 * x.length := by
  induction x with
  | nil => simp
  | cons a r ih =>
    have := escF_len d a
    simp only [List.map_cons, List.flatten_cons, List.length_append, List.length_cons]
    omega
theorem quoteF_len (x : List Nat) (h : Bool) : (quoteF x h).length ≤ 2 * x.length + 2 := by
  unfold quoteF
  split
  · omega
  · simp only [List.length_cons, List.length_append, List.length_nil]; omega
  · rw [List.flatten_append, List.length_append]
    have h1 : (hashPre x h).flatten.length ≤ 1 := by
      unfold hashPre; repeat' split
      all_goals simp
    have := escs_len ((modeF x h).s == Str.ofString "escape") x
    omega
theorem qsF_get (xs : List (List Nat)) (i : Nat) : (qsF xs)[i]? = (xs[i]?).map (quoteF · (i == 0)) := by
  cases xs with
  | nil => simp [qsF]
  | cons a r =>
    cases i with
    | zero => simp [qsF]
    | succ i => simp [qsF]
theorem qsF_len (xs : List (List Nat)) : (qsF xs).length = xs.length := by
  cases xs <;> simp [qsF]
theorem sum_map_le {α : Type} (f : α → Nat) (k : Nat) : ∀ (l : List α), (∀ a ∈ l, f a ≤ k) → (l.map f).sum ≤ l.length * k
  | [], _ => by simp
  | a :: r, h => by
    have h1 := h a List.mem_cons_self
    have h2 := sum_map_le f k r fun b hb => h b (List.mem_cons_of_mem _ hb)
    simp only [List.map_cons, List.sum_cons, List.length_cons, Nat.add_mul]
    omega
theorem words17 : True := by
  w_top off
  (k_with "call builtin:len" => (k_here; (with_reducible show wpAny _ _ (call (Value.builtin "len") [Value.ref _]) _ _ _); k_dflt (refine' Mine.len_led ?k1 ?k2 ?k3 ?_; (case k1 => k_asm); (case k2 => k_mem); (case k3 => omega))))
  trivial
structure JoS where
  vs : List Value
  n : Nat
theorem c_join (w : World) (l : Addr) (vs : List Value) (nn : Nat) (xs : List (List Nat)) (hS : StrsAre vs (xs.map tx)) (hn : xs.length ≤ 100) (hx : ∀ x ∈ xs, x.length ≤ 600) :
    Ctr w 151 4 [.ref l] (fun news => (l, listOf vs.toArray nn) ∈ news) (fun nx v => nx = [] ∧ ∃ t', v = .str (tx (joinF xs)) t') := by
  walk_at "mine start"
  walk_at "mine enter"
  k_steps
  walk_at "mine look"
  refine use_lo kN ?_
  intro lo elo
  subst elo
  have hlo : ∀ p ∈ news, p.1 < lo := by assumption
  with_unfolding_all refine For_invVF kF (by rfl) (by rfl) ?_
  k_steps
  walk_at "mine look"
  have hvx := strsAre_len hS
  rw [List.length_map] at hvx
  have hpl : (l, listOf vs.toArray nn) ∈ news := hpre
  refine loop_vals (σ := JoS) (l := l) (vs := vs) (nn := nn) (fun c => (lo, listOf c.vs.toArray c.n) :: news) (fun _ => []) [] (fun i c => StrsAre c.vs (((qsF xs).take i).map tx)) ⟨[], 0⟩ rfl (List.mem_cons_of_mem _ hpl) kF kN (fun _ hp => nomatch hp) .nil ?_ ?_
  · rintro ⟨os, n⟩ i v u h3 tk3 own hv hof hos F3 N3
    clear kF kN
    dsimp only at hos N3 F3 hof
    obtain ⟨y, ty, hy, rfl⟩ := strsAre_get hS hv
    rw [List.getElem?_map, Option.map_eq_some_iff] at hy
    obtain ⟨x, hxi, rfl⟩ := hy
    have hi : i < xs.length := (List.getElem?_eq_some_iff.mp hxi).1
    have hxl : x.length ≤ 600 := hx x (List.mem_of_getElem? hxi)
    have hxl2 : x.length ≤ 1000 := by omega
    have hol := strsAre_len hos
    rw [List.length_map, List.length_take, qsF_len] at hol
    have hol2 : os.length = i := by omega
    rw [List.cons_append] at N3
    have hne3 : ∀ p ∈ news ++ own, p.1 ≠ lo := by
      intro p hp
      rcases List.mem_append.mp hp with hp | hp
      · exact Nat.ne_of_lt (hlo p hp)
      · exact hof p hp lo List.mem_cons_self
    k_steps
    walk_at "mine look"
    (try simp only [List.push_toArray] at kN)
    have hb0 : ((os.length : Int) == 0) = (i == 0) := by
      rw [hol2, Bool.eq_iff_iff, beq_iff_eq, beq_iff_eq]; omega
    have htk : (qsF xs).take (i + 1) = (qsF xs).take i ++ [quoteF x ((os.length : Int) == 0)] := by
      rw [hb0, List.take_add_one, qsF_get, hxi]; rfl
    refine' vals_end (⟨os ++ [.str (tx (quoteF x ((os.length : Int) == 0))) t9], n + 1⟩ : JoS) kF kN ?hn ?ho hof (List.mem_cons_of_mem _ hpl) (fun _ hp => nomatch hp) ?hr ?hs
    case hn =>
      intro p hp
      rcases List.mem_cons.mp hp with hp | hp
      · rw [hp]; exact List.mem_cons_self
      · exact List.mem_cons_of_mem _ (List.mem_append_left _ hp)
    case ho => exact fun p hp => List.mem_cons_of_mem _ (List.mem_append_right _ hp)
    case hr => (intro z h1 h2 h3; simp [kstB, h1])
    case hs =>
      show StrsAre _ (((qsF xs).take (i + 1)).map tx)
      rw [htk, List.map_append]
      exact strsAre_snoc hos
  · rintro ⟨os, n⟩ u h3 tk3 hos F3 N3
    clear kF kN
    dsimp only at hos N3 F3
    rw [hvx, ← qsF_len, List.take_length] at hos
    have hJ : Txt.join (Str.ofString " ") ((qsF xs).map tx) = tx (joinF xs) := by rw [lit_32, join_tx]; rfl
    have hB : (((qsF xs).map tx).map (·.length)).sum + ((qsF xs).map tx).length * (Str.ofString " ").length ≤ 2 ^ 20 := by
      have h1 : ∀ q ∈ qsF xs, q.length ≤ 1202 := by
        intro q hq
        obtain ⟨i, hi⟩ := List.getElem?_of_mem hq
        rw [qsF_get, Option.map_eq_some_iff] at hi
        obtain ⟨x, hxi, rfl⟩ := hi
        have := quoteF_len x (i == 0)
        have := hx x (List.mem_of_getElem? hxi)
        omega
      have h2 := sum_map_le List.length 1202 (qsF xs) h1
      have h3 := qsF_len xs
      have e : (((qsF xs).map tx).map (·.length)) = (qsF xs).map List.length := by
        rw [List.map_map]; exact List.map_congr_left fun q _ => tx_len q
      rw [e, lit_32, tx_len, List.length_map]
      simp only [List.length_cons, List.length_nil]
      omega
    k_steps
    walk_at "mine ret"
    exact ⟨_, rfl⟩
theorem words18 : True := by
  w_top off
  (k_with "call ref" => (k_here; (with_reducible show wpAny _ _ (call (Value.ref 151) [Value.ref _]) _ _ _); k_dflt (refine' Ctr.use_str (Mine.c_join _ _ _ _ _ ?p1 ?p2 ?p3) ?k1 ?k2 ?k3 ?k4 ?k5 ?kK ?kd ?ku ?kp ?_); (case k1 => k_asm); (case k2 => k_asm); (case k3 => k_asm); (case k4 => k_asm); (case k5 => k_asm); (case kK => first | exact rfl | assumption); (case kd => first | (k_dflt exact Mine.room_ hdp rfl) | ktr_room); (case ku => first | (k_dflt exact Mine.units_ hun rfl) | ktr_units); (case kp => k_mem); (case p1 => with_reducible assumption); (case p2 => with_reducible assumption); (case p3 => with_reducible assumption);  intro t9 h9 tk9 F9 N9; (try dsimp only); (try k_fold); (try k_sweep)))
  trivial
end
-- part W9
section
open PySem PySem.W PyProof.Rows PySem.Calls PySem.Spec
theorem bsc_plain {c : Nat} {r : List Nat} {d : Nat} (h1 : c ≠ 92) (h2 : c ≠ 123) (h3 : c ≠ 125) : bscan (c :: r) d = (bscan r d).map (· + 1) := by
  rw [bscan_cons, if_neg h1, if_neg h2, if_neg h3]
theorem ms_true : ∀ (n : Nat) (r : List Nat), r.length ≤ n → ∀ (d : Nat) (wb we : Bool) {d' : Nat} {b' wb' we' : Bool}, mscan r d true wb we = some (d', b', wb', we') → b' = true
  | _, [], _, d, wb, we, d', b', wb', we', h => by
    rw [mscan_nil] at h
    cases h; rfl
  | 0, _ :: _, hn, _, _, _, _, _, _, _, _ => by simp at hn
  | n + 1, c :: r, hn, d, wb, we, d', b', wb', we', h => by
    have hr : r.length ≤ n := by simpa using hn
    rw [mscan_cons] at h
    split at h
    · exact ms_true n r hr _ _ _ h
    split at h
    · split at h
      · cases h
      · exact ms_true n r hr _ _ _ h
    split at h
    · exact ms_true n r hr _ _ _ h
    split at h
    · split at h
      · cases r with
        | nil => cases h
        | cons e r' =>
          simp only [List.length_cons] at hr
          dsimp only at h
          split at h
          · cases h
          split at h
          · exact ms_true n r' (by omega) _ _ _ h
          · exact ms_true n (e :: r') hr _ _ _ h
      · exact ms_true n r hr _ _ _ h
    · exact ms_true n r hr _ _ _ h
/-- a scan that finds nothing to bind: every sign stands for itself -/
theorem ms_plain : ∀ (r : List Nat) (d : Nat) (b wb we : Bool) {d' : Nat} {wb' we' : Bool}, mscan r d b wb we = some (d', false, wb', we') → b = false ∧ Toks r r
  | [], d, b, wb, we, d', wb', we', h => by
    rw [mscan_nil] at h
    cases h; exact ⟨rfl, .nil⟩
  | c :: r, d, b, wb, we, d', wb', we', h => by
    rw [mscan_cons] at h
    split at h
    · rename_i e; subst e
      have := ms_plain r _ _ _ _ h
      exact ⟨this.1, .plain (by decide) (by decide) this.2⟩
    split at h
    · rename_i e; subst e
      split at h
      · cases h
      · have := ms_plain r _ _ _ _ h
        exact ⟨this.1, .plain (by decide) (by decide) this.2⟩
    split at h
    · exact absurd (ms_true _ r (Nat.le_refl _) _ _ _ h) (by decide)
    split at h
    · split at h
      · cases r with
        | nil => cases h
        | cons e r' =>
          dsimp only at h
          split at h
          · cases h
          split at h
          · exact absurd (ms_true _ r' (Nat.le_refl _) _ _ _ h) (by decide)
          · exact absurd (ms_true _ (e :: r') (Nat.le_refl _) _ _ _ h) (by decide)
      · exact absurd (ms_true _ r (Nat.le_refl _) _ _ _ h) (by decide)
    · rename_i hs
      have := ms_plain r _ _ _ _ h
      have hs' : sp4 c = false ∧ blank c = false := by
        cases h1 : sp4 c <;> cases h2 : blank c <;> simp_all
      refine ⟨this.1, .plain hs'.2 ?_ this.2⟩
      rintro rfl
      exact absurd hs'.1 (by decide)
theorem ms_wb : ∀ (n : Nat) (r : List Nat), r.length ≤ n → ∀ (d : Nat) (b we : Bool) {d' : Nat} {b' wb' we' : Bool}, mscan r d b true we = some (d', b', wb', we') → wb' = true
  | _, [], _, d, b, we, d', b', wb', we', h => by
    rw [mscan_nil] at h
    cases h; rfl
  | 0, _ :: _, hn, _, _, _, _, _, _, _, _ => by simp at hn
  | n + 1, c :: r, hn, d, b, we, d', b', wb', we', h => by
    have hr : r.length ≤ n := by simpa using hn
    rw [mscan_cons] at h
    split at h
    · exact ms_wb n r hr _ _ _ h
    split at h
    · split at h
      · cases h
      · exact ms_wb n r hr _ _ _ h
    split at h
    · exact ms_wb n r hr _ _ _ h
    split at h
    · split at h
      · cases r with
        | nil => cases h
        | cons e r' =>
          simp only [List.length_cons] at hr
          dsimp only at h
          split at h
          · cases h
          split at h
          · exact ms_wb n r' (by omega) _ _ _ h
          · exact ms_wb n (e :: r') hr _ _ _ h
      · exact ms_wb n r hr _ _ _ h
    · exact ms_wb n r hr _ _ _ h
theorem any_mem {l : List Nat} {c : Nat} (h : (l.any fun x => x == c) = true) : c ∈ l := by
  obtain ⟨x, hx, e⟩ := List.any_eq_true.mp h
  rw [beq_iff_eq] at e
  exact e ▸ hx
/-- signs that stand for themselves behind a backslash -/
noncomputable def selfL : List Nat := [93, 91, 36, 59, 32, 92, 34] ++ ([123, 125] ++ [35])
theorem self1 : ∀ c ∈ selfL, c ∉ [97, 98, 102, 110, 114, 116, 118] := by decide
theorem self2 : ∀ c ∈ selfL, (c == 10) = false := by decide
theorem self3 : ∀ c ∈ selfL, ([Str.ofString "x", Str.ofString "u", Str.ofString "U"].any fun x => x == tx [c]) = false := by decide +kernel
theorem self4 : ∀ c ∈ selfL, ([Str.ofString "0", Str.ofString "1", Str.ofString "2", Str.ofString "3", Str.ofString "4", Str.ofString "5", Str.ofString "6", Str.ofString "7"].any fun x => x == tx [c]) = false := by decide +kernel
theorem lit_seven0 : Str.ofString "abfnrtv" = tx [97, 98, 102, 110, 114, 116, 118] := by decide +kernel
theorem dec_self {c : Nat} (h : c ∈ selfL) : Dec c c := by
  refine .inr ⟨?_, ?_, self3 c h, self4 c h, rfl⟩
  · rw [lit_seven0]
    exact find_none (self1 c h)
  · rw [lit_10, tx_beq, one_beq]
    exact self2 c h
theorem lit_seven : Str.ofString "\x07\x08\x0c\n\x0d\t\x0b" = tx [7, 8, 12, 10, 13, 9, 11] := by decide +kernel
theorem dec_f : Dec 102 12 := .inl ⟨2, by decide +kernel, by decide, by rw [lit_seven]; exact At.of (n := 2) (by decide) rfl rfl⟩
theorem dec_n : Dec 110 10 := .inl ⟨3, by decide +kernel, by decide, by rw [lit_seven]; exact At.of (n := 3) (by decide) rfl rfl⟩
theorem dec_r : Dec 114 13 := .inl ⟨4, by decide +kernel, by decide, by rw [lit_seven]; exact At.of (n := 4) (by decide) rfl rfl⟩
theorem dec_t : Dec 116 9 := .inl ⟨5, by decide +kernel, by decide, by rw [lit_seven]; exact At.of (n := 5) (by decide) rfl rfl⟩
theorem dec_v : Dec 118 11 := .inl ⟨6, by decide +kernel, by decide, by rw [lit_seven]; exact At.of (n := 6) (by decide) rfl rfl⟩
theorem esc1_mem {c : Nat} (h : esc1 c = true) : c ∈ [93, 91, 36, 59, 32, 92, 34] := any_mem h
theorem br2_mem {c : Nat} (h : br2 c = true) : c ∈ [123, 125] := any_mem h
theorem blank_of {c : Nat} (h1 : c ≠ 32) (h2 : c ≠ 9) (h3 : c ≠ 10) (h4 : c ≠ 11) (h5 : c ≠ 12) (h6 : c ≠ 13) : blank c = false := by
  cases hb : blank c with
  | false => rfl
  | true =>
    have hm : c ∈ [32, 9, 10, 11, 12, 13] := any_mem hb
    simp only [List.mem_cons, List.not_mem_nil, or_false, h1, h2, h3, h4, h5, h6] at hm
theorem esc1_not {c : Nat} (h : esc1 c = false) : c ≠ 93 ∧ c ≠ 91 ∧ c ≠ 36 ∧ c ≠ 59 ∧ c ≠ 32 ∧ c ≠ 92 ∧ c ≠ 34 := by
  refine ⟨?_, ?_, ?_, ?_, ?_, ?_, ?_⟩ <;> (rintro rfl; exact absurd h (by decide))
/-- an escaped sign, and what follows -/
theorem toks_esc {c : Nat} {deep : Bool} {q x : List Nat} (h : Toks q x) : Toks (escF deep c ++ q) (c :: x) := by
  unfold escF
  split
  · rename_i e; subst e; exact .esc dec_f h
  split
  · rename_i e; subst e; exact .esc dec_n h
  split
  · rename_i e; subst e; exact .esc dec_r h
  split
  · rename_i e; subst e; exact .esc dec_t h
  split
  · rename_i e; subst e; exact .esc dec_v h
  split
  · rename_i hs
    refine .esc (dec_self ?_) h
    rw [Bool.or_eq_true, Bool.and_eq_true] at hs
    rcases hs with hs | hs
    · exact List.mem_append_left _ (esc1_mem hs)
    · exact List.mem_append_right _ (List.mem_append_left _ (br2_mem hs.2))
  · rename_i h12 h10 h13 h9 h11 hs
    have h1 : esc1 c = false := by cases hh : esc1 c <;> simp_all
    have h2 := esc1_not h1
    exact .plain (blank_of h2.2.2.2.2.1 h9 h10 h11 h12 h13) h2.2.2.2.2.2.1 h
theorem toks_escs (deep : Bool) : ∀ (x : List Nat), Toks (x.map (escF deep)).flatten x
  | [] => .nil
  | c :: r => by
    rw [List.map_cons, List.flatten_cons]
    exact toks_esc (toks_escs deep r)
/-- a scan that passes: the braces of the text match -/
theorem ms_brace : ∀ (n : Nat) (r : List Nat), r.length ≤ n → ∀ (d : Nat) (b wb we : Bool) {b' wb' we' : Bool}, mscan r d b wb we = some (0, b', wb', we') → ∀ post, bscan (r ++ 125 :: post) (d + 1) = some r.length
  | _, [], _, d, b, wb, we, b', wb', we', h, post => by
    rw [mscan_nil] at h
    cases h
    rw [List.nil_append, bscan_cons]; rfl
  | 0, _ :: _, hn, _, _, _, _, _, _, _, _, _ => by simp at hn
  | n + 1, c :: r, hn, d, b, wb, we, b', wb', we', h, post => by
    have hr : r.length ≤ n := by simpa using hn
    rw [mscan_cons] at h
    rw [List.cons_append]
    by_cases h123 : c = 123
    · subst h123
      rw [if_pos rfl] at h
      rw [bscan_cons, if_neg (by decide), if_pos rfl, ms_brace n r hr _ _ _ _ h post]; rfl
    rw [if_neg h123] at h
    by_cases h125 : c = 125
    · subst h125
      rw [if_pos rfl] at h
      split at h
      · cases h
      · rename_i hd
        have e : d + 1 - 1 = d - 1 + 1 := by omega
        rw [bscan_cons, if_neg (by decide), if_neg (by decide), if_pos rfl, if_neg (by omega), e, ms_brace n r hr _ _ _ _ h post]; rfl
    rw [if_neg h125] at h
    by_cases h92 : c = 92
    · subst h92
      have hq : ¬ q2 92 = true := by decide
      have hs : (sp4 92 || blank 92) = true := by decide
      rw [if_neg hq, if_pos hs, if_pos rfl] at h
      cases r with
      | nil => cases h
      | cons e r' =>
        simp only [List.length_cons] at hr
        dsimp only at h
        rw [bscan_cons, if_pos rfl, List.cons_append]
        dsimp only
        split at h
        · cases h
        split at h
        · rw [ms_brace n r' (by omega) _ _ _ _ h post]; rfl
        · rename_i hb
          have hb2 : e ≠ 123 ∧ e ≠ 125 ∧ e ≠ 92 := by
            refine ⟨?_, ?_, ?_⟩ <;> (rintro rfl; exact absurd hb (by decide))
          have ih := ms_brace n (e :: r') hr _ _ _ _ h post
          rw [List.cons_append, bsc_plain hb2.2.2 hb2.1 hb2.2.1] at ih
          cases hbs : bscan (r' ++ 125 :: post) (d + 1) with
          | none => rw [hbs] at ih; cases ih
          | some v =>
            rw [hbs] at ih
            simp only [Option.map_some, Option.some.injEq, List.length_cons] at ih ⊢
            omega
    have key : ∀ b wb we, mscan r d b wb we = some (0, b', wb', we') → bscan (c :: (r ++ 125 :: post)) (d + 1) = some (c :: r).length := by
      intro b wb we h
      rw [bsc_plain h92 h123 h125, ms_brace n r hr _ _ _ _ h post]; rfl
    split at h
    · exact key _ _ _ h
    split at h
    · exact key _ _ _ h
    · exact key _ _ _ h
/-- a scan for a mask: no blank, no bracket -/
theorem ms_mask : ∀ (r : List Nat) (d : Nat) (b wb we : Bool) {d' : Nat} {b' we' : Bool}, mscan r d b wb we = some (d', b', false, we') → wb = false ∧ Toks (r.map (escF false)).flatten r := by
  intro r d b wb we d' b' we' h
  refine ⟨?_, toks_escs false r⟩
  cases wb with
  | false => rfl
  | true => exact absurd (ms_wb _ r (Nat.le_refl _) _ _ _ h) (by decide)
theorem escF_head (deep : Bool) (c : Nat) (h : deep = true ∨ (c ≠ 123)) : ∃ a r, escF deep c = a :: r ∧ a ≠ 123 ∧ a ≠ 34 ∧ (a ≠ 35 ∨ c = 35) := by
  unfold escF
  split
  · exact ⟨_, _, rfl, by decide, by decide, .inl (by decide)⟩
  split
  · exact ⟨_, _, rfl, by decide, by decide, .inl (by decide)⟩
  split
  · exact ⟨_, _, rfl, by decide, by decide, .inl (by decide)⟩
  split
  · exact ⟨_, _, rfl, by decide, by decide, .inl (by decide)⟩
  split
  · exact ⟨_, _, rfl, by decide, by decide, .inl (by decide)⟩
  split
  · exact ⟨_, _, rfl, by decide, by decide, .inl (by decide)⟩
  · rename_i hs
    have h1 : esc1 c = false := by cases hh : esc1 c <;> simp_all
    have h2 := esc1_not h1
    refine ⟨c, [], rfl, ?_, h2.2.2.2.2.2.2, ?_⟩
    · rcases h with h | h
      · subst h
        have : br2 c = false := by cases hh : br2 c <;> simp_all
        rintro rfl
        exact absurd this (by decide)
      · exact h
    · by_cases e : c = 35
      · exact .inr e
      · exact .inl e
theorem bg2_not {c : Nat} (h : bg2 c = false) : c ≠ 123 ∧ c ≠ 34 := by
  refine ⟨?_, ?_⟩ <;> (rintro rfl; exact absurd h (by decide))
theorem modeE_inv {hd : Bool} {o : Option (Nat × Bool × Bool × Bool)} :
    (modeE hd o = .none → ∃ d' wb' we', o = some (d', false, wb', we') ∧ hd = false) ∧
    (modeE hd o = .brace → ∃ b' wb' we', o = some (0, b', wb', we')) ∧
    (modeE hd o = .mask → ∃ d' b' we', o = some (d', b', false, we')) := by
  cases o with
  | none => exact ⟨fun h => (by cases h), fun h => (by cases h), fun h => (by cases h)⟩
  | some p =>
    obtain ⟨d, b, wb, we⟩ := p
    simp only [modeE]
    by_cases hd0 : 0 < d
    · rw [if_pos hd0]; exact ⟨fun h => (by cases h), fun h => (by cases h), fun h => (by cases h)⟩
    · have hz : d = 0 := by omega
      subst hz
      rw [if_neg hd0]
      refine ⟨fun h => ?_, fun h => ⟨_, _, _, rfl⟩, fun h => ?_⟩
      · cases b with
        | true =>
          rw [if_pos rfl] at h
          split at h <;> cases h
        | false =>
          rw [if_neg (by decide)] at h
          cases hd with
          | true => rw [if_pos rfl] at h; cases h
          | false => exact ⟨_, _, _, rfl, rfl⟩
      · cases wb with
        | false => exact ⟨_, _, _, rfl⟩
        | true =>
          cases b with
          | true => rw [if_pos rfl, if_neg (by cases we <;> decide)] at h; cases h
          | false =>
            rw [if_neg (by decide)] at h
            split at h <;> cases h
/-- the quote of a text is one element, and gives the text again; with is_hash no # stands ahead -/
theorem enc_quote (x : List Nat) (h : Bool) : Enc (quoteF x h) x ∧ (h = true → ∀ c q, quoteF x h = c :: q → c ≠ 35) := by
  cases x with
  | nil =>
    have e : quoteF [] h = 123 :: ([] ++ [125]) := rfl
    rw [e]
    refine ⟨.braced fun post => (by rw [List.nil_append, bscan_cons]; rfl), ?_⟩
    intro _ c q hc
    cases hc; decide
  | cons c0 x0 =>
    have hesc : ∀ deep : Bool, (deep = true ∨ (c0 ≠ 123)) → quoteF (c0 :: x0) h = (hashPre (c0 :: x0) h ++ (c0 :: x0).map (escF deep)).flatten → (Enc (quoteF (c0 :: x0) h) (c0 :: x0) ∧ (h = true → ∀ c q, quoteF (c0 :: x0) h = c :: q → c ≠ 35)) := by
      intro deep hdeep hq
      rw [hq]
      by_cases hh : (h && c0 == 35) = true
      · have e : hashPre (c0 :: x0) h = [[92]] := by simp only [hashPre, hh, if_true]
        rw [e]
        rw [Bool.and_eq_true, beq_iff_eq] at hh
        obtain ⟨_, h35⟩ := hh
        subst h35
        have e2 : escF deep 35 = [35] := by cases deep <;> decide
        have e3 : ([[92]] ++ (35 :: x0).map (escF deep)).flatten = 92 :: 35 :: (x0.map (escF deep)).flatten := by
          rw [List.map_cons, e2]; rfl
        rw [e3]
        refine ⟨.bare (.esc (dec_self (by decide)) (toks_escs deep x0)) (by decide) (by decide), ?_⟩
        intro _ c q hc
        cases hc; decide
      · have e : hashPre (c0 :: x0) h = [] := by simp only [hashPre, if_neg hh]
        rw [e, List.nil_append]
        have ht := toks_escs deep (c0 :: x0)
        obtain ⟨a, r, ha, h1, h2, h3⟩ := escF_head deep c0 hdeep
        have e3 : ((c0 :: x0).map (escF deep)).flatten = a :: (r ++ (x0.map (escF deep)).flatten) := by
          rw [List.map_cons, ha]; rfl
        rw [e3] at ht ⊢
        refine ⟨.bare ht h1 h2, ?_⟩
        intro htrue c q hc
        cases hc
        rcases h3 with h3 | h3
        · exact h3
        · subst h3; subst htrue; exact absurd rfl hh
    have hmode : modeF (c0 :: x0) h = modeE (h && (c0 == 35)) (mscan (c0 :: x0) 0 (bg2 c0) (bg2 c0 || (h && (c0 == 35))) false) := rfl
    have inv := @modeE_inv (h && (c0 == 35)) (mscan (c0 :: x0) 0 (bg2 c0) (bg2 c0 || (h && (c0 == 35))) false)
    rw [← hmode] at inv
    cases hm : modeF (c0 :: x0) h with
    | none =>
      obtain ⟨d', wb', we', ho, hhd⟩ := inv.1 hm
      have e : quoteF (c0 :: x0) h = c0 :: x0 := by rw [quoteF, hm]
      rw [e]
      have hp := ms_plain _ _ _ _ _ ho
      have hb := bg2_not hp.1
      refine ⟨.bare hp.2 hb.1 hb.2, ?_⟩
      intro htrue c q hc
      cases hc
      rintro rfl
      subst htrue
      exact absurd hhd (by decide)
    | brace =>
      obtain ⟨b', wb', we', ho⟩ := inv.2.1 hm
      have e : quoteF (c0 :: x0) h = 123 :: (c0 :: x0 ++ [125]) := by rw [quoteF, hm]
      rw [e]
      refine ⟨.braced (ms_brace _ _ (Nat.le_refl _) _ _ _ _ ho), ?_⟩
      intro _ c q hc
      cases hc; decide
    | mask =>
      obtain ⟨d', b', we', ho⟩ := inv.2.2 hm
      have hk := (ms_mask _ _ _ _ _ ho).1
      have hb : bg2 c0 = false := by cases hh : bg2 c0 <;> simp_all
      exact hesc false (.inr (bg2_not hb).1) (by rw [quoteF, hm]; rfl)
    | escape => exact hesc true (.inl rfl) (by rw [quoteF, hm]; rfl)
/-- a list's elements, each with its quote -/
noncomputable def esOf : List (List Nat) → List (List Nat × List Nat)
  | [] => []
  | x :: r => (quoteF x true, x) :: r.map fun y => (quoteF y false, y)
theorem esOf_snd (xs : List (List Nat)) : (esOf xs).map (fun e => tx e.2) = xs.map tx := by
  cases xs with
  | nil => rfl
  | cons x r =>
    simp only [esOf, List.map_cons, List.map_map]
    congr 1
theorem esOf_enc (xs : List (List Nat)) : ∀ e ∈ esOf xs, Enc e.1 e.2 := by
  cases xs with
  | nil => exact fun _ h => nomatch h
  | cons x r =>
    intro e he
    rcases List.mem_cons.mp he with rfl | he
    · exact (enc_quote x true).1
    · obtain ⟨y, _, rfl⟩ := List.mem_map.mp he
      exact (enc_quote y false).1
theorem esOf_len (xs : List (List Nat)) : (esOf xs).length = xs.length := by
  cases xs <;> simp [esOf]
theorem joinF_text (xs : List (List Nat)) : joinF xs = textOf (esOf xs) := by
  cases xs with
  | nil => rfl
  | cons x r =>
    simp only [joinF, qsF, joinL, esOf, textOf, tailOf, List.map_map]
    rfl
theorem joinF_len (xs : List (List Nat)) (k : Nat) (hx : ∀ x ∈ xs, x.length ≤ k) : (joinF xs).length ≤ xs.length * (2 * k + 3) := by
  cases xs with
  | nil => exact Nat.zero_le _
  | cons x r =>
    have h1 := quoteF_len x true
    have h2 := hx x List.mem_cons_self
    have h3 : ((r.map (quoteF · false)).map ([32] ++ ·)).flatten.length ≤ r.length * (2 * k + 3) := by
      rw [List.length_flatten, List.map_map, List.map_map]
      refine sum_map_le _ _ r fun y hy => ?_
      have h4 := quoteF_len y false
      have h5 := hx y (List.mem_cons_of_mem _ hy)
      simp only [Function.comp_apply, List.length_append, List.length_cons, List.length_nil]
      omega
    simp only [joinF, qsF, joinL, List.length_append, List.length_cons, Nat.add_mul]
    omega
end
-- part W10
section
open PySem PySem.W PyProof.Rows PySem.Calls PySem.Spec
theorem slice_ns_eq (x : Str) (j : Int) : Txt.slice x none (some j) = Txt.slice x (some 0) (some j) := by
  have e : PySem.Builtin.Str.strSliceIndices none (some j) 1 x.length = PySem.Builtin.Str.strSliceIndices (some 0) (some j) 1 x.length := by
    simp only [PySem.Builtin.Str.strSliceIndices]
    congr 1
  unfold Txt.slice
  rw [e]
section
variable {prog : Program} {w : World} {A : Around} {E : Value → Shared → Prop} {s : Shared} {Q : Value → Shared → Prop}
theorem slice_nl {x y : Str} {j : Int} {t uj : Tok} {value slice : PySem.Expr} {h₀ : Heap} {L : Addr} {m : Str → Option Value} {news : List (Addr × Obj)}
    (hF : Fr h₀ L s.heap m) (hN : News h₀ L s.heap news) (h : Sl x 0 j y)
    (hq : ∀ h' t' k, Fr h₀ L h' m → News h₀ L h' news → Q (.str y t') { s with heap := h', toks := k })
    (hs : subscripted slice false (.str x t) (.ref s.heap.objs.size) = operate [.ref s.heap.objs.size, .str x t] (getItem (.str x t) (.ref s.heap.objs.size)) := by with_unfolding_all rfl)
    (ht : ∀ r, letTemporaryGo value (.str x t) r = pure () := by intro _; with_unfolding_all rfl) :
    wpAny (model prog w) A (subscriptTail value slice (.str x t) (.ref s.heap.objs.size)) Q E { s with heap := s.heap.push { cls := .type "slice", data := .fields #[.none, .int j uj, .none] } } := by
  refine slice_strN_ns hF hN (fun h' t' k a b => ?_) hs ht h.small
  rw [slice_ns_eq, slice_eq h]
  exact hq h' t' k a b
end
theorem words19 : True := by
  w_top off
  (k_with "subscriptTail Name Slice str ref" => ((with_reducible show wpAny _ _ (subscriptTail _ (PySem.Expr.Slice none (some _) none _) _ _) _ _ _); (with_reducible rename Fr _ _ _ _ => F'); (with_reducible rename News _ _ _ _ => N'); (refine Mine.slice_nl (s := ⟨_, _, _, _, _⟩) F' N' (by with_reducible assumption) ?_); intro _ _ _ _ _; (try k_sweep)))
  (k_with "compareOp NotEq ref ref" => (k_here; (with_reducible show wpAny _ _ (compareOp CmpOp.NotEq (Value.ref _) (Value.ref _)) _ _ _); k_dflt (refine' Mine.ne_pair ?k1 ?k2 ?k3 ?k4 ?k5 ?k6 ?k7 ?k8 ?_; (case k1 => k_asm); (case k2 => k_mem); (case k4 => k_mem); (case k3 => exact rfl); (case k5 => exact rfl); (case k6 => first | rfl | omega); (case k7 => assumption); (case k8 => ktr_units))))
  (k_with "compareOp Eq ref ref" => (k_here; (with_reducible show wpAny _ _ (compareOp CmpOp.Eq (Value.ref _) (Value.ref _)) _ _ _); k_dflt (refine' Mine.eq_pair ?k1 ?k2 ?k3 ?k4 ?k5 ?k6 ?k7 ?k8 ?_; (case k1 => k_asm); (case k2 => k_mem); (case k4 => k_mem); (case k3 => exact rfl); (case k5 => exact rfl); (case k6 => first | rfl | omega); (case k7 => assumption); (case k8 => ktr_units))))
  trivial
theorem c_alone (w : World) (x : List Nat) (t : Tok) (hl : x.length ≤ 100) (hv : ∀ c ∈ x, c < 1114112) :
    Ctr w 166 20 [.str (tx x) t] (fun _ => True) (fun nx v => nx = [] ∧ v = .bool true) := by
  have he1 := enc_quote x true
  have he2 := (enc_quote x false).1
  have hl1 := quoteF_len x true
  have hl2 := quoteF_len x false
  have hlx : x.length ≤ 1000 := by omega
  have hln1 : (quoteF x true).length ≤ 1000 := by omega
  have hln2 : (32 :: 10 :: ((quoteF x false) ++ [9, 97])).length ≤ 1000 := by simp only [List.length_cons, List.length_append, List.length_nil]; omega
  obtain ⟨c, r, hcr, _⟩ := he1.1.head
  have h35 : c ≠ 35 := he1.2 rfl c r hcr
  have f35 := eq_ff h35
  rw [← lit_35] at f35
  have hsl : Sl (tx (quoteF x true)) 0 1 (tx [c]) := Sl.of (a := 0) (b := 1) (by omega) rfl rfl (by decide) (by rw [hcr]; simp) (by rw [hcr]; rfl)
  have h00 : (0 : Int) = ((0 : Nat) : Int) := rfl
  have h11 : (1 : Int) = ((1 : Nat) : Int) := rfl
  have hd1 : (quoteF x true).drop 0 = [] ++ ((quoteF x true) ++ []) := by simp
  have hb1 : ∀ c ∈ ([] : List Nat), blank c = true := fun _ h => nomatch h
  have hr1 : (quoteF x true).length = 0 + ([] : List Nat).length + (quoteF x true).length := by simp
  have hp1 : Post [] := .inl rfl
  have hd2 : (32 :: 10 :: ((quoteF x false) ++ [9, 97])).drop 1 = [10] ++ ((quoteF x false) ++ [9, 97]) := rfl
  have hb2 : ∀ c ∈ [10], blank c = true := by decide
  have hr2 : (quoteF x false).length + 2 = 1 + [10].length + (quoteF x false).length := by simp only [List.length_cons, List.length_nil]; omega
  have hp2 : Post [9, 97] := .inr ⟨9, [97], rfl, by decide⟩
  have he1' := he1.1
  have a1 : Str.ofString " \n" ++ tx (quoteF x false) = tx (32 :: 10 :: (quoteF x false)) := by
    rw [show Str.ofString " \n" = tx [32, 10] by decide +kernel, tx_app]; rfl
  have a2 : tx (32 :: 10 :: (quoteF x false)) ++ Str.ofString "\ta" = tx (32 :: 10 :: ((quoteF x false) ++ [9, 97])) := by
    rw [show Str.ofString "\ta" = tx [9, 97] by decide +kernel, tx_app]; rfl
  have z1 : (Str.ofString " \n").length + (tx (quoteF x false)).length ≤ 2 ^ 20 := by
    rw [show Str.ofString " \n" = tx [32, 10] by decide +kernel, tx_len, tx_len]; simp only [List.length_cons, List.length_nil]; omega
  have z2 : (tx (32 :: 10 :: (quoteF x false))).length + (Str.ofString "\ta").length ≤ 2 ^ 20 := by
    rw [show Str.ofString "\ta" = tx [9, 97] by decide +kernel, tx_len, tx_len]; simp only [List.length_cons, List.length_nil]; omega
  walk_at "mine start"
  walk_at "mine enter"
  k_steps
  walk_at "mine ret"
  rfl
end
-- part W11
section
open PySem PySem.W PyProof.Rows PySem.Calls PySem.Spec
open PyProof.Rows.LCg PyProof.Rows.LCt
theorem escF_ok {d : Bool} {c : Nat} (h : c < 1114112) : ∀ e ∈ escF d c, e < 1114112 := by
  intro e he
  unfold escF at he
  repeat' split at he
  all_goals (simp only [List.mem_cons, List.not_mem_nil, or_false] at he; omega)
theorem escs_ok {d : Bool} {x : List Nat} (h : ∀ c ∈ x, c < 1114112) : ∀ e ∈ (x.map (escF d)).flatten, e < 1114112 := by
  intro e he
  obtain ⟨l, hl, hel⟩ := List.mem_flatten.mp he
  obtain ⟨c, hc, rfl⟩ := List.mem_map.mp hl
  exact escF_ok (h c hc) e hel
theorem quoteF_ok {x : List Nat} {b : Bool} (h : ∀ c ∈ x, c < 1114112) : ∀ e ∈ quoteF x b, e < 1114112 := by
  intro e he
  unfold quoteF at he
  split at he
  · exact h e he
  · rcases List.mem_cons.mp he with rfl | he
    · decide
    rcases List.mem_append.mp he with he | he
    · exact h e he
    · rw [List.mem_singleton.mp he]; decide
  · rw [List.flatten_append] at he
    rcases List.mem_append.mp he with he | he
    · unfold hashPre at he
      repeat' split at he
      all_goals (simp at he; try omega)
    · exact escs_ok h e he
theorem joinF_ok {xs : List (List Nat)} (h : Oks xs) : ∀ e ∈ joinF xs, e < 1114112 := by
  cases xs with
  | nil => intro e he; exact nomatch he
  | cons x r =>
    intro e he
    simp only [joinF, qsF, joinL] at he
    rcases List.mem_append.mp he with he | he
    · exact quoteF_ok (h x List.mem_cons_self) e he
    · obtain ⟨l, hl, hel⟩ := List.mem_flatten.mp he
      obtain ⟨q, hq, rfl⟩ := List.mem_map.mp hl
      obtain ⟨y, hy, rfl⟩ := List.mem_map.mp hq
      rcases List.mem_append.mp hel with hel | hel
      · rw [List.mem_singleton.mp hel]; decide
      · exact quoteF_ok (h y (List.mem_cons_of_mem _ hy)) e hel
theorem oks1 {T : List Nat} (h : ∀ e ∈ T, e < 1114112) : Oks [T] := by
  intro y hy
  rw [List.mem_singleton.mp hy]; exact h
theorem oks3 {T : List Nat} (h : ∀ e ∈ T, e < 1114112) : Oks [[35], T, []] := by
  intro y hy
  rcases List.mem_cons.mp hy with rfl | hy
  · decide
  rcases List.mem_cons.mp hy with rfl | hy
  · exact h
  · rw [List.mem_singleton.mp hy]; decide
theorem joinF_len3 (T : List Nat) : (joinF [[35], T, []]).length ≤ 2 * T.length + 20 := by
  have h1 := quoteF_len [35] true
  have h2 := quoteF_len T false
  have h3 := quoteF_len [] false
  simp only [joinF, qsF, joinL, List.map_cons, List.map_nil, List.flatten_cons, List.flatten_nil, List.length_append, List.length_cons, List.length_nil] at h1 h2 h3 ⊢
  omega
theorem joinF_len1 (T : List Nat) : (joinF [T]).length ≤ 2 * T.length + 2 := by
  have h2 := quoteF_len T true
  simp only [joinF, qsF, joinL, List.map_nil, List.flatten_nil, List.length_append, List.length_nil]
  omega
theorem joinF_B (xs : List (List Nat)) (hn : xs.length ≤ 100) (hx : ∀ x ∈ xs, x.length ≤ 600) : (((qsF xs).map tx).map (·.length)).sum + ((qsF xs).map tx).length * (Str.ofString " ").length ≤ 2 ^ 20 := by
  have h1 : ∀ q ∈ qsF xs, q.length ≤ 1202 := by
    intro q hq
    obtain ⟨i, hi⟩ := List.getElem?_of_mem hq
    rw [qsF_get, Option.map_eq_some_iff] at hi
    obtain ⟨x, hxi, rfl⟩ := hi
    have := quoteF_len x (i == 0)
    have := hx x (List.mem_of_getElem? hxi)
    omega
  have h2 := sum_map_le List.length 1202 (qsF xs) h1
  have h3 := qsF_len xs
  have e : (((qsF xs).map tx).map (·.length)) = (qsF xs).map List.length := by
    rw [List.map_map]; exact List.map_congr_left fun q _ => tx_len q
  rw [e, lit_32, tx_len, List.length_map]
  simp only [List.length_cons, List.length_nil]
  omega
theorem c_split2 (w : World) (xs : List (List Nat)) (t : Tok) (hl : (joinF xs).length ≤ 1000) (hn : xs.length ≤ 100) :
    Ctr w 122 5 [.str (tx (joinF xs)) t] (fun _ => True) (fun nx v => ∃ a vs n, nx = [(a, listOf vs.toArray n)] ∧ v = .ref a ∧ StrsAre vs (xs.map tx)) := by
  refine (c_split w (joinF xs) (esOf xs) t hl (esOf_enc xs) (by rw [esOf_len]; exact hn) (joinF_text xs)).mono ?_
  rintro nx v ⟨a, vs, n, h1, h2, h3⟩
  rw [esOf_snd] at h3
  exact ⟨a, vs, n, h1, h2, h3⟩
theorem ne_self {prog : Program} {w : World} {A : Around} {E : VQ} {s : Shared} {x : Str} {t u : Tok} {Q : VQ} (h : Q (.bool false) s) : wpAny (model prog w) A (compareOp .NotEq (.str x t) (.str x u)) Q E s := by
  refine PyProof.Rows.ne_str ?_
  rw [show (x != x) = false by simp]
  exact h
noncomputable def StepV (h₀ : Heap) (L : Addr) (m : Str → Option Value) (s : Shared) (led : LedT) (P : Value → Prop) (y : Value) (s' : Shared) : Prop :=
  ∃ h' tk', s' = { s with heap := h', toks := tk' } ∧ Fr h₀ L h' m ∧ News h₀ L h' led ∧ P y
noncomputable def StepF (h₀ : Heap) (L : Addr) (m : Str → Option Value) (s : Shared) (led : LedT) (ok : Bool) (s' : Shared) : Prop :=
  ok = false ∧ ∃ h' tk', s' = { s with heap := h', toks := tk' } ∧ Fr h₀ L h' m ∧ News h₀ L h' led
theorem comp_none {prog : Program} {w : World} {A : Around} {h₀ : Heap} {L : Addr} {m : Str → Option Value} {env : Env} {ct elt : PySem.Expr} {x : Str} {scope : Scope} {cl : List (Str × Addr)} {s : Shared} {S : LedT → Prop} {its : Array Value} {news : LedT} {Fin : List Value → LedT → Prop}
    (step : ∀ (i : Nat) (v : Value) (I : Addr) (oI : Obj) (C : Addr) (oC : Obj) (D : Addr) (m₂ : Str → Option Value) (h : Heap) (tk : Nat) (E' : VQ), its[i]? = some v → NsObj oC m₂ → m₂ x = some v → Fr h₀ L h m → News h₀ L h ((I, oI) :: (C, oC) :: (D, lst []) :: news) →
      wpAny (model prog w) A (isTrue ct (compEnvC scope cl C env) (eval ct (compEnvC scope cl C env))) (StepF h₀ L m { s with heap := h, toks := tk } ((I, oI) :: (C, oC) :: (D, lst []) :: news)) E' { s with heap := h, toks := tk })
    (hS : S news) (fin : Fin [] news) : ∀ k i, CompRestT prog w A h₀ L m env ct elt x scope cl s S (fun i v => its[i]? = some v) Fin k i [] news
  | 0, _ => fin
  | k + 1, i => fun v I oI C oC D m₂ h tk E' hv hC hx F N off _ => wpAny_mono (step i v I oI C oC D m₂ h tk E' hv hC hx F N) (fun ok s' hs => by
      obtain ⟨rfl, h', tk', e, F', N'⟩ := hs
      simp only [Bool.false_eq_true, if_false]
      exact ⟨h', tk', news, e, F', N', off, hS, comp_none step hS fin k (i + 1)⟩) fun _ _ e => e
theorem words20 : True := by
  w_top off
  (k_with "mine kp" => first | k_mem | (repeat (first | with_reducible assumption | refine List.mem_cons_of_mem _ ?_)))
  (k_with "compareOp NotEq str str" => ((with_reducible show wpAny _ _ (compareOp CmpOp.NotEq (Value.str _ _) (Value.str _ _)) _ _ _); refine Mine.ne_self ?_))
  (k_with "mine oks" => first | with_reducible assumption | exact (fun _ h => nomatch h))
  (k_with "compareOp NotEq ref ref" => (k_here; (with_reducible show wpAny _ _ (compareOp CmpOp.NotEq (Value.ref _) (Value.ref _)) _ _ _); k_dflt (refine' Mine.ne_strs ?k1 ?k2 ?k3 ?k4 ?k5 ?k6 ?k7 ?_; (case k1 => k_asm); (case k2 => walk_at "mine kp"); (case k3 => walk_at "mine kp"); (case k4 => walk_at "mine strs"); (case k5 => walk_at "mine strs"); (case k6 => walk_at "mine oks"); (case k7 => ktr_units))))
  (k_with "compareOp Eq ref ref" => (k_here; (with_reducible show wpAny _ _ (compareOp CmpOp.Eq (Value.ref _) (Value.ref _)) _ _ _); k_dflt (refine' Mine.eq_strs ?k1 ?k2 ?k3 ?k4 ?k5 ?k6 ?k7 ?_; (case k1 => k_asm); (case k2 => walk_at "mine kp"); (case k3 => walk_at "mine kp"); (case k4 => walk_at "mine strs"); (case k5 => walk_at "mine strs"); (case k6 => walk_at "mine oks"); (case k7 => ktr_units))))
  (k_with "mine strs" => first | with_reducible assumption | exact Mine.strs1 _ _ | exact Mine.strs3 _ _ _ _ Mine.lit_35 Mine.lit_nil)
  (k_with "StepV" => refine Mine.stop_ ?_)
  (k_with "StepF" => refine Mine.stop_ ?_)
  (k_with "eval ListComp" => refine Mine.stop_ ?_)
  (k_with "call type:enumerate" => refine Mine.stop_ ?_)
  (k_with "CompSrcT" => refine Mine.stop_ ?_)
  (k_with "call ref" => (k_here; (with_reducible show wpAny _ _ (call (Value.ref 166) [Value.str (Mine.tx _) _]) _ _ _); k_dflt (refine' Ctr.use_val (Mine.c_alone _ _ _ ?p1 ?p2) ?k1 ?k2 ?k3 ?k4 ?k5 ?kK ?kd ?ku ?kp ?_); (case k1 => k_asm); (case k2 => k_asm); (case k3 => k_asm); (case k4 => k_asm); (case k5 => k_asm); (case kK => first | exact rfl | assumption); (case kd => first | (k_dflt exact Mine.room_ hdp rfl) | ktr_room); (case ku => first | (k_dflt exact Mine.units_ hun rfl) | ktr_units); (case p1 => with_reducible assumption); (case p2 => with_reducible assumption); (case kp => first | exact trivial | k_mem); intro h9 tk9 F9 N9; (try dsimp only); (try k_fold); (try k_sweep)))
  (k_with "call ref" => (k_here; (with_reducible show wpAny _ _ (call (Value.ref 122) [Value.str (Mine.tx (Mine.joinF _)) _]) _ _ _); k_dflt (refine' Ctr.use_lst (Mine.c_split2 _ _ _ ?p1 ?p2) ?k1 ?k2 ?k3 ?k4 ?k5 ?kK ?kd ?ku ?kp ?_); (case k1 => k_asm); (case k2 => k_asm); (case k3 => k_asm); (case k4 => k_asm); (case k5 => k_asm); (case kK => first | exact rfl | assumption); (case kd => first | (k_dflt exact Mine.room_ hdp rfl) | ktr_room); (case ku => first | (k_dflt exact Mine.units_ hun rfl) | ktr_units); (case p1 => with_reducible assumption); (case p2 => with_reducible assumption); (case kp => first | exact trivial | k_mem); intro a9 vs9 n9 h9 tk9 hS9 l9 F9 N9; (try k_lt l9); (try dsimp only); (try k_fold); (try k_sweep)))
  (k_with "call ref" => (k_here; (with_reducible show wpAny _ _ (call (Value.ref 151) [Value.ref _]) _ _ _); k_dflt (refine' Ctr.use_str (Mine.c_join _ _ _ _ _ ?p1 ?p2 ?p3) ?k1 ?k2 ?k3 ?k4 ?k5 ?kK ?kd ?ku ?kp ?_); (case k1 => k_asm); (case k2 => k_asm); (case k3 => k_asm); (case k4 => k_asm); (case k5 => k_asm); (case kK => first | exact rfl | assumption); (case kd => first | (k_dflt exact Mine.room_ hdp rfl) | ktr_room); (case ku => first | (k_dflt exact Mine.units_ hun rfl) | ktr_units); (case kp => walk_at "mine kp"); (case p1 => walk_at "mine strs"); (case p2 => with_reducible assumption); (case p3 => with_reducible assumption);  intro t9 h9 tk9 F9 N9; (try dsimp only); (try k_fold); (try k_sweep)))
  trivial
theorem c_come (w : World) (l : Addr) (vs : List Value) (nn : Nat) (xs : List (List Nat)) (hS : StrsAre vs (xs.map tx)) (hn : xs.length ≤ 10) (hx : ∀ x ∈ xs, x.length ≤ 10) (hv : Oks xs) :
    Ctr w 171 30 [.ref l] (fun news => (l, listOf vs.toArray nn) ∈ news) (fun nx v => nx = [] ∧ v = .bool true) := by
  have hT0 := joinF_len xs 10 hx
  have hTl : (joinF xs).length ≤ 230 := by
    have : xs.length * (2 * 10 + 3) ≤ 10 * (2 * 10 + 3) := Nat.mul_le_mul_right _ hn
    omega
  have hn100 : xs.length ≤ 100 := by omega
  have hx600 : ∀ x ∈ xs, x.length ≤ 600 := fun x h => Nat.le_trans (hx x h) (by decide)
  have h1n : [joinF xs].length ≤ 100 := by simp
  have h3n : [[35], joinF xs, []].length ≤ 100 := by simp
  have h1x : ∀ x ∈ [joinF xs], x.length ≤ 600 := by simp only [List.forall_mem_cons, List.not_mem_nil, false_implies, implies_true, and_true]; omega
  have h3x : ∀ x ∈ [[35], joinF xs, []], x.length ≤ 600 := by simp only [List.forall_mem_cons, List.not_mem_nil, false_implies, implies_true, and_true, List.length_cons, List.length_nil]; omega
  have hTl0 : (joinF xs).length ≤ 1000 := by omega
  have hTl1 : (joinF [joinF xs]).length ≤ 1000 := by have := joinF_len1 (joinF xs); omega
  have hTl3 : (joinF [[35], joinF xs, []]).length ≤ 1000 := by have := joinF_len3 (joinF xs); omega
  have hv1 := oks1 (joinF_ok hv)
  have hv3 := oks3 (joinF_ok hv)
  have hJ : Txt.join (Str.ofString " ") ((qsF xs).map tx) = tx (joinF xs) := by rw [lit_32, join_tx]; rfl
  have hB := joinF_B xs hn100 hx600
  have heq : (tx (joinF xs) == tx (joinF xs)) = true := by simp
  walk_at "mine start"
  have hpl : (l, listOf vs.toArray nn) ∈ news := hpre
  walk_at "mine enter"
  k_steps
  walk_at "mine look"
  refine ListComp_E kF (by with_unfolding_all rfl) (by decide) (by rfl) (by decide) (by rfl) (by rfl) (by decide) ?_
  k_steps
  unfold Stop
  have hvl := strsAre_len hS
  rw [List.length_map] at hvl
  have hsz : vs.length ≤ sizeLine := by rw [sizeLine_eq]; omega
  refine enum_call rfl kF kN hpl hsz (fun i ys => StrsAre ys (((qsF xs).take i).map tx)) .nil ?_ ?_
  · intro e it i v ys t1 C D oE oI oC m₂ h1 tk1 E1 hvi hP hNs hx1 hx2 F1 N1
    clear kF kN
    obtain ⟨y, ty, hy, rfl⟩ := strsAre_get hS hvi
    rw [List.getElem?_map, Option.map_eq_some_iff] at hy
    obtain ⟨x, hxi, rfl⟩ := hy
    have hxl : x.length ≤ 1000 := Nat.le_trans (hx x (List.mem_of_getElem? hxi)) (by decide)
    show wpAny _ _ _ (StepV _ _ _ _ _ _) _ _
    k_steps
    unfold Stop
    have htk : (qsF xs).take (i + 1) = (qsF xs).take i ++ [quoteF x ((i : Int) == 0)] := by
      have hb0 : ((i : Int) == 0) = (i == 0) := by rw [Bool.eq_iff_iff, beq_iff_eq, beq_iff_eq]; omega
      rw [hb0, List.take_add_one, qsF_get, hxi]; rfl
    refine ⟨_, _, rfl, F9, N9, ?_⟩
    show StrsAre _ (((qsF xs).take (i + 1)).map tx)
    rw [htk, List.map_append]
    exact strsAre_snoc hP
  · intro D ys h1 tk1 hP F1 N1 o1
    clear kF kN
    rw [hvl, ← qsF_len, List.take_length] at hP
    k_steps
    walk_at "mine look"
    replace kN := cb_drop (news' := _) (news := news) kN (fun p hp => by repeat (first | exact hp | refine List.mem_cons_of_mem _ ?_))
    refine ListComp_T (F₀ := kF) (by with_unfolding_all rfl) (by decide) (by rfl) (by decide) (by rfl) ?_
    k_steps
    unfold Stop
    refine CompSrcT.ledger (its := vs.toArray) (k := nn) rfl kF kN hpl (by rw [List.size_toArray]; exact hsz) ?_
    intro g
    refine comp_none ?_ (Or.inr ⟨_, hpl, rfl, _, rfl⟩) ?_ _ _
    · intro i v I oI C oC D2 m₂ h2 tk2 E2 hvi hNs hx1 F2 N2
      clear kF kN
      rw [List.getElem?_toArray] at hvi
      obtain ⟨y, ty, hy, rfl⟩ := strsAre_get hS hvi
      rw [List.getElem?_map, Option.map_eq_some_iff] at hy
      obtain ⟨x, hxi, rfl⟩ := hy
      have hxl : x.length ≤ 100 := Nat.le_trans (hx x (List.mem_of_getElem? hxi)) (by decide)
      have hxv : ∀ c ∈ x, c < 1114112 := hv x (List.mem_of_getElem? hxi)
      k_steps
      unfold Stop
      exact ⟨rfl, _, _, rfl, F9, N9⟩
    · intro D2 h2 tk2 F2 N2 o2
      clear kF kN
      k_steps
      walk_at "mine ret"
      rfl
end
-- part W12
section
open PySem PySem.W PyProof.Rows PySem.Calls PySem.Spec
open PyProof.Rows.LCg PyProof.Rows.LCt
/-- the law's own texts -/
noncomputable def ownF : List (List Nat) := [[35, 98], [], [97, 93, 34, 123, 125], [125, 9, 13, 12, 11, 10, 32, 35], [123, 36, 91, 32, 93, 125, 92, 92], [34, 92, 123], [97, 92], [123, 59], [92, 10, 125], [35, 93, 123]]
theorem own_strs (t0 t1 t2 t3 t4 t5 t6 t7 t8 t9 : Tok) : StrsAre [.str (Str.ofString "#b") t0, .str (Str.ofString "") t1, .str (Str.ofString "a]\"{}") t2, .str (Str.ofString "}\t\x0d\x0c\x0b\n #") t3, .str (Str.ofString "{$[ ]}\\\\") t4, .str (Str.ofString "\"\\{") t5, .str (Str.ofString "a\\") t6, .str (Str.ofString "{;") t7, .str (Str.ofString "\\\n}") t8, .str (Str.ofString "#]{") t9] (ownF.map tx) := by
  have e : ownF.map tx = [Str.ofString "#b", Str.ofString "", Str.ofString "a]\"{}", Str.ofString "}\t\x0d\x0c\x0b\n #", Str.ofString "{$[ ]}\\\\", Str.ofString "\"\\{", Str.ofString "a\\", Str.ofString "{;", Str.ofString "\\\n}", Str.ofString "#]{"] := by decide +kernel
  rw [e]
  exact .cons _ _ (.cons _ _ (.cons _ _ (.cons _ _ (.cons _ _ (.cons _ _ (.cons _ _ (.cons _ _ (.cons _ _ (.cons _ _ .nil)))))))))
theorem own_len : ownF.length ≤ 10 := by decide
theorem own_len' : ∀ x ∈ ownF, x.length ≤ 10 := by decide
theorem own_ok : Oks ownF := by unfold Oks; decide
theorem use_ints {G : Prop} {vs : List Value} {ns : List Int} (_h : IntsAre vs ns) (k : ∀ ws, ws = vs → G) : G := k vs rfl
/-- a drawn text -/
noncomputable def Drawn (v : Value) : Prop := ∃ x t, v = .str (tx x) t ∧ x.length ≤ 6 ∧ ∀ c ∈ x, c < 1114112
theorem drawn_strs : ∀ {ys : List Value}, (∀ y ∈ ys, Drawn y) → ∃ xs : List (List Nat), StrsAre ys (xs.map tx) ∧ xs.length = ys.length ∧ (∀ x ∈ xs, x.length ≤ 10) ∧ Oks xs
  | [], _ => ⟨[], .nil, rfl, (fun _ h => nomatch h), (fun _ h => nomatch h)⟩
  | y :: r, h => by
    obtain ⟨x, t, rfl, hl, hc⟩ := h y List.mem_cons_self
    obtain ⟨xs, h1, h2, h3, h4⟩ := drawn_strs fun z hz => h z (List.mem_cons_of_mem _ hz)
    refine ⟨x :: xs, .cons _ _ h1, by simp only [List.length_cons, h2], ?_, ?_⟩
    · intro z hz
      rcases List.mem_cons.mp hz with rfl | hz
      · omega
      · exact h3 z hz
    · intro z hz
      rcases List.mem_cons.mp hz with rfl | hz
      · exact hc
      · exact h4 z hz
theorem comp_vals {prog : Program} {w : World} {A : Around} {h₀ : Heap} {L : Addr} {m : Str → Option Value} {env : Env} {elt : PySem.Expr} {x : Str} {scope : Scope} {cl : List (Str × Addr)} {s : Shared} {S : LedT → Prop} {its : Array Value} {news : LedT} {Fin : List Value → LedT → Prop} {G : Value → Prop} {n : Nat}
    (step : ∀ (i : Nat) (v : Value) (ys : List Value) (I : Addr) (oI : Obj) (C : Addr) (oC : Obj) (D : Addr) (m₂ : Str → Option Value) (h : Heap) (tk : Nat) (E' : VQ), its[i]? = some v → NsObj oC m₂ → m₂ x = some v → Fr h₀ L h m → News h₀ L h ((I, oI) :: (C, oC) :: (D, lst ys) :: news) →
      wpAny (model prog w) A (eval elt (compEnvC scope cl C env)) (StepV h₀ L m { s with heap := h, toks := tk } ((I, oI) :: (C, oC) :: (D, lst ys) :: news) G) E' { s with heap := h, toks := tk })
    (hS : S news) (fin : ∀ ys, (∀ y ∈ ys, G y) → ys.length = n → Fin ys news) : ∀ k i ys, (∀ y ∈ ys, G y) → ys.length + k = n → CompRest prog w A h₀ L m env elt x scope cl s S (fun i v => its[i]? = some v) Fin k i ys news
  | 0, _, ys, hG, hl => fin ys hG hl
  | k + 1, i, ys, hG, hl => fun v I oI C oC D m₂ h tk E' hv hC hx F N off _ => wpAny_mono (step i v ys I oI C oC D m₂ h tk E' hv hC hx F N) (fun y s' hs => by
      obtain ⟨h', tk', e, F', N', hy⟩ := hs
      refine ⟨h', tk', news, e, F', N', off, hS, comp_vals step hS fin k (i + 1) (ys ++ [y]) ?_ ?_⟩
      · intro z hz
        rcases List.mem_append.mp hz with hz | hz
        · exact hG z hz
        · rw [List.mem_singleton.mp hz]; exact hy
      · rw [List.length_append, List.length_singleton]; omega) fun _ _ e => e
theorem words21 : True := by
  w_top off
  (k_with "StepV" => refine Mine.stop_ ?_)
  (k_with "eval ListComp" => refine Mine.stop_ ?_)
  (k_with "CompSrc" => refine Mine.stop_ ?_)
  (k_with "call type:list" => refine Mine.stop_ ?_)
  (k_with "call ref" => (k_here; (with_reducible show wpAny _ _ (call (Value.ref 171) [Value.ref _]) _ _ _); k_dflt (refine' Ctr.use_val (Mine.c_come _ _ _ _ _ ?p1 ?p2 ?p3 ?p4) ?k1 ?k2 ?k3 ?k4 ?k5 ?kK ?kd ?ku ?kp ?_); (case k1 => k_asm); (case k2 => k_asm); (case k3 => k_asm); (case k4 => k_asm); (case k5 => k_asm); (case kK => first | exact rfl | assumption); (case kd => first | (k_dflt exact Mine.room_ hdp rfl) | ktr_room); (case ku => first | (k_dflt exact Mine.units_ hun rfl) | ktr_units); (case kp => k_dflt k_mem); (case p1 => with_reducible assumption); (case p2 => with_reducible assumption); (case p3 => with_reducible assumption); (case p4 => with_reducible assumption);  intro h9 tk9 F9 N9; (try dsimp only); (try k_fold); (try k_sweep)))
  (k_with "call ref" => (k_here; (with_reducible show wpAny _ _ (call (Value.ref 159) [Value.int _ _]) _ _ _); k_dflt (refine' Ctr.use (Mine.c_text _ _ _) ?k1 ?k2 ?k3 ?k4 ?k5 ?kK ?kd ?ku ?kp ?_); (case k1 => k_asm); (case k2 => k_asm); (case k3 => k_asm); (case k4 => k_asm); (case k5 => k_asm); (case kK => first | exact rfl | assumption); (case kd => ktr_room); (case ku => ktr_units); (case kp => exact trivial); intro v9 nx9 h9 tk9 hR9 o9 F9 N9; (obtain ⟨e1, x9, t9, e2, hl9, hc9⟩ := hR9); subst e1; subst e2; (simp only [List.nil_append] at N9); clear o9; (try dsimp only); (try k_fold); (try k_sweep)))
  trivial
theorem law_holds : PySem.Challenge.rw_np0132_01.Holds := hd (by
  have p2 := own_len
  have p3 := own_len'
  have p4 := own_ok
  k_go0
  all_goals try k_fold
  k_steps
  walk_at "mine look"
  rename Frag.In _ _ => kX
  have p1 := own_strs 404 405 406 407 408 409 410 411 412 413
  refine list_copyKT kF kN (tupK (kX.keeps kF.keep) (by k_is)) ?_ (by rw [sizeLine_eq]; decide)
  intro D1 c1 h1 F1 N1 l1
  clear kF kN
  k_steps
  walk_at "mine look"
  refine ListComp_U (F₀ := kF) (by with_unfolding_all rfl) (by decide) (by rfl) (by decide) (by rfl) ?_
  k_steps
  walk_at "mine look"
  with_reducible rename IntsAre _ _ => hI9
  refine use_ints hI9 ?_
  intro ws ews
  subst ews
  have hl9 := hI9.length
  rw [List.length_take] at hl9
  have hl5 : ws.length ≤ 5 := by omega
  refine CompSrc.ledger (k := 0) (its := ws.toArray) rfl kF kN (by k_mem) (by rw [List.size_toArray, sizeLine_eq]; omega) ?_
  intro g
  refine comp_vals (G := Drawn) (n := ws.length) ?_ (Or.inr ⟨_, by k_mem, rfl, _, rfl⟩) ?_ _ _ [] (fun _ h => nomatch h) ?_
  · intro i v ys I oI C oC D2 m₂ h2 tk2 E2 hvi hNs hx1 F2 N2
    clear kF kN
    rw [List.getElem?_toArray] at hvi
    obtain ⟨n, t, rfl, _⟩ := hI9.at i v hvi
    k_steps
    unfold Stop
    exact ⟨_, _, rfl, F9, N9, x9, _, rfl, hl9, hc9⟩
  · intro ys hG hyl D2 h2 tk2 F2 N2 o2
    clear kF kN p1 p2 p3 p4
    obtain ⟨xs, p1, hxl, p3, p4⟩ := drawn_strs hG
    have p2 : xs.length ≤ 10 := by omega
    k_steps
  · rw [List.size_toArray, List.length_nil]; omega)
end
end Mine
set_option maxRecDepth 100000 in
set_option maxHeartbeats 8000000 in
theorem PySem.Challenge.cw_np0132_01_holds : PySem.Challenge.rw_np0132_01.Holds := by
  exact Mine.law_holds
