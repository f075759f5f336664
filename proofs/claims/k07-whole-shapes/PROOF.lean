import PyProof.Rows.All
import Wide.All
import OpenK.AllK
import Wide.FinOn
import KE.KStateDown
import HandS.ForMost
import HandS.Flow
import HandS.Star
import HandS.Deep
import HandS.TupLe
import HandS.TupAny
import HandS.TupMul
import HandS.IsInst
import HandS.Style
import HandS.Conv
import HandS.ListItems
import HandS.Small
import HandS.Wide
import HandS.WideMore
import HandS.Sort
import HandS.SortOrd
import HandS.SortRule
import HandS.Zip
import HandS.Defaults
import HandS.Head0
import HandS.Head1
import HandS.Head2
import HandS.HeadEnd
import HandS.HeadHook1
import HandS.HeadHook2
import KE.DataCmp
import KE.DataMinMax
import KE.DataFind
import KE.SortData
import PySem.Challenge.RW_tidebase_k07_whole_shapes
set_option Elab.async false
set_option linter.all false
set_option maxRecDepth 100000
set_option maxHeartbeats 0
namespace K7
open PySem PySem.Spec PyProof.Rows L2
def top (i : Nat) : Stmt := PySem.Challenge.pw_tidebase_k07_whole_shapes.main.body.getD i (.Pass ⟨0, 0, 0, 0⟩)
abbrev FnP (K : PySem.W.Frag) (x qual : Str) (st : Stmt) (f : Addr) (fd : FuncData) : Prop := FunD K x qual (defArgs st) (defBody st) (defScope st) [] [] f fd
theorem hu64 {A : Around} {k : Nat} (hr : Room k A) : A.units + 64 < cLine := hr.units
theorem hu65 {A : Around} {k : Nat} (hr : Room k A) : A.units + 65 < cLine := by have := hr.un; omega

/-- a def of the module that keeps its promise -/
structure Df (P : Program) (w : World) (K : PySem.W.Frag) (mg : Str → Option Value) (base : Heap) (x : Str) (k : Nat) (ps : List Str) (sp : Sp) : Prop where
  ex : ∃ (f : Addr) (fd : FuncData), FnOk P w K mg base CX0 k f fd ps sp ∧ mg x = some (.ref f) ∧ PySem.W.keepIn K (.ref f) = true ∧ Binds K fd ps []
/-- a method of the class at C that keeps its promise -/
structure Dm (P : Program) (w : World) (K : PySem.W.Frag) (mg : Str → Option Value) (base : Heap) (C : Addr) (m : Str) (k : Nat) (ps : List Str) (sp : Sp) : Prop where
  ex : ∃ (f : Addr) (fd : FuncData), FnOk P w K mg base CX0 k f fd ps sp ∧ Meth K C m f ∧ Binds K fd ps []
/-- where a def stands -/
structure At (K : PySem.W.Frag) (mg : Str → Option Value) (x : Str) (st : Stmt) : Prop where
  ex : ∃ (f : Addr) (fd : FuncData), FnP K x x st f fd ∧ mg x = some (.ref f)
structure AtM (K : PySem.W.Frag) (C : Addr) (m qual : Str) (st : Stmt) : Prop where
  ex : ∃ (f : Addr) (fd : FuncData), FnP K m qual st f fd ∧ Meth K C m f
section
variable {X : Cx} {k : Nat} {x m : Str} {C : Addr} {ps : List Str} {sp : Sp} {e o : Expr} {es : List Expr} {p pos apos : Pos} {t : TA} {ta : TE}
theorem pe_cd (D : Df X.prog X.w X.K X.mg X.base x k ps sp) (hr : Room k X.A) (ha : PA X (e :: es) t) (hg : Gl X x := by rfl)
    (hdb : (x == ("__debug__" : Str)) = false := by decide) (he : starEach (e :: es) X.env = (false, eval e X.env) :: starEach es X.env := by rfl) (hpl : (backTo pos (starEach es X.env)).any (·.1) = false := by rfl) :
    PE X (.Call (.Name x p) (e :: es) [] pos) (tCall sp [] E0 t) := by
  obtain ⟨f, fd, F, hm, hk, hb⟩ := D.ex
  exact pe_call F hr hg hm hk hb .nil pass0 ha hdb he hpl
theorem pe_md {pl : Sem Bool} (c : Cls X.K C) (D : Dm X.prog X.w X.K X.mg X.base C m k ps sp) (hr : Room k X.A) (ho : PE X o ta) (ha : PA X (e :: es) t)
    (hst : starEach (e :: es) X.env = (false, eval e X.env) :: starEach es X.env := by rfl) (hpl : (backTo pos (starEach es X.env)).any (·.1) = false := by rfl)
    (ht : eval (.Call (.Attribute o m apos) (e :: es) [] pos) X.env = (do
      let ov ← eval o X.env
      standAt apos.atName
      let (f, first) ← holding [ov] (getMethod ov m pl)
      callWith pos f first (backTo pos (starEach (e :: es) X.env)) (backToKw pos (keywordEach [] X.env))) := by rfl) :
    PE X (.Call (.Attribute o m apos) (e :: es) [] pos) (tMeth C m sp [] E0 ta t) := by
  obtain ⟨f, fd, F, hm, hb⟩ := D.ex
  exact pe_meth ho c hm F hr hb .nil pass0 ha hst hpl ht
theorem pe_md0 {pl : Sem Bool} (c : Cls X.K C) (D : Dm X.prog X.w X.K X.mg X.base C m k ps sp) (hr : Room k X.A) (ho : PE X o ta)
    (ht : eval (.Call (.Attribute o m apos) [] [] pos) X.env = (do
      let ov ← eval o X.env
      standAt apos.atName
      let (f, first) ← holding [ov] (getMethod ov m pl)
      callWith pos f first (backTo pos (starEach [] X.env)) (backToKw pos (keywordEach [] X.env))) := by rfl) :
    PE X (.Call (.Attribute o m apos) [] [] pos) (tMeth C m sp [] E0 ta tNil) := by
  obtain ⟨f, fd, F, hm, hb⟩ := D.ex
  exact pe_meth0 ho c hm F hr hb .nil pass0 ht
theorem pe_glI {i : Int} (h : ∃ tk, X.mg x = some (.int i tk)) (hg : Gl X x := by rfl) (hd : (x == ("__debug__" : Str)) = false := by decide) : PE X (.Name x pos) (tC (.int i)) := by
  obtain ⟨tk, h⟩ := h
  exact pe_glob hg h ⟨tk, rfl⟩ hd
end
/-- the rule for a def: its body's derivation and its reading -/
theorem At.df {P : Program} {w : World} {K : PySem.W.Frag} {mg : Str → Option Value} {base : Heap} {x : Str} {st : Stmt} {N ps : List Str} {k : Nat} {sp : Sp} (F : At K mg x st) (S : FnScope N ps (defScope st))
    (hb : ∀ (kV doc pm : Value) (an : Option Addr) (cdv ct : Value) (us : List Value), us.length = ps.length → bindArgs (PySem.W.fnOf x x (defArgs st) (defBody st) (defScope st) .none kV doc pm an cdv ct) ⟨us, []⟩ = pure (ps.zip us))
    (len : ∀ vs H Q E, sp vs H Q E → vs.length = ps.length)
    (hbody : ∀ (f : Addr) (cdv : Value) (A : Around) (outer : List Env) (s : Shared) (H : Hp) (vs : List V) (Q : VK) (E : XK), Room k (A.deeper (envOfC x (defScope st) s.heap.objs.size f cdv)) → sp vs H Q E →
      ∃ t, PSs (cxOf CX0 P w K mg base N x (defScope st) f cdv A outer s H E).nox (defBody st) t ∧ t { nx := fun _ H' => Q .non H', rt := Q } (start N vs) H) :
    Df P w K mg base x (k + 1) ps sp := by
  obtain ⟨f, fd, F, hm⟩ := F.ex
  refine ⟨f, fd, F.ok S len (fun cdv A outer s H vs Q E hr hs => ?_), hm, F.kp, F.bindsN hb⟩
  obtain ⟨t, h, q⟩ := hbody f cdv A outer s H vs Q E hr hs
  exact ⟨t, h.nox, q⟩
theorem AtM.df {P : Program} {w : World} {K : PySem.W.Frag} {mg : Str → Option Value} {base : Heap} {C : Addr} {m qual : Str} {st : Stmt} {N ps : List Str} {k : Nat} {sp : Sp} (F : AtM K C m qual st) (S : FnScope N ps (defScope st))
    (hb : ∀ (kV doc pm : Value) (an : Option Addr) (cdv ct : Value) (us : List Value), us.length = ps.length → bindArgs (PySem.W.fnOf m qual (defArgs st) (defBody st) (defScope st) .none kV doc pm an cdv ct) ⟨us, []⟩ = pure (ps.zip us))
    (len : ∀ vs H Q E, sp vs H Q E → vs.length = ps.length)
    (hbody : ∀ (f : Addr) (cdv : Value) (A : Around) (outer : List Env) (s : Shared) (H : Hp) (vs : List V) (Q : VK) (E : XK), Room k (A.deeper (envOfC qual (defScope st) s.heap.objs.size f cdv)) → sp vs H Q E →
      ∃ t, PSs (cxOf CX0 P w K mg base N qual (defScope st) f cdv A outer s H E).nox (defBody st) t ∧ t { nx := fun _ H' => Q .non H', rt := Q } (start N vs) H) :
    Dm P w K mg base C m (k + 1) ps sp := by
  obtain ⟨f, fd, F, hm⟩ := F.ex
  refine ⟨f, fd, F.ok S len (fun cdv A outer s H vs Q E hr hs => ?_), hm, F.bindsN hb⟩
  obtain ⟨t, h, q⟩ := hbody f cdv A outer s H vs Q E hr hs
  exact ⟨t, h.nox, q⟩

/-! ### heaps that grow -/
theorem _root_.L2.Same.new {H H' : Hp} {p : Addr} {o : HO} (e : Same H H') (h : H' p = Option.none) : Same H (upd H' p o) := fun a u ha => by
  have h1 := e a u ha
  rw [upd_ne (ne_of_none h1 h)]
  exact h1
/-- an object that is new since H may change -/
theorem _root_.L2.Same.mut {H H' : Hp} {p : Addr} {o : HO} (e : Same H H') (h : H p = Option.none) : Same H (upd H' p o) := fun a u ha => by
  rw [upd_ne (ne_of_none ha h)]
  exact e a u ha
theorem _root_.L2.Same.new1 {H : Hp} {p : Addr} {o : HO} (h : H p = Option.none) : Same H (upd H p o) := L2.Same.new (L2.Same.refl H) h
/-- all but what stands at the places of S stays -/
def But (S : List Addr) (H H' : Hp) : Prop := ∀ b o, b ∉ S → H b = some o → H' b = some o
theorem But.refl (S : List Addr) (H : Hp) : But S H H := fun _ _ _ h => h
theorem But.trans {S : List Addr} {H H1 H2 : Hp} (a : But S H H1) (b : But S H1 H2) : But S H H2 := fun c o n h => b c o n (a c o n h)
theorem But.of {S : List Addr} {H H' : Hp} (a : Same H H') : But S H H' := fun b o _ h => a b o h
theorem But.mono {S S' : List Addr} {H H' : Hp} (a : But S H H') (h : ∀ x, x ∈ S → x ∈ S') : But S' H H' := fun b o n => a b o fun m => n (h b m)
theorem But.upd {S : List Addr} {H H' : Hp} {p : Addr} {o : HO} (a : But S H H') (h : p ∈ S) : But S H (upd H' p o) := fun b u n e => by
  rw [upd_ne (fun q => n (by rw [q]; exact h))]
  exact a b u n e
theorem But.new {S : List Addr} {H H' : Hp} {p : Addr} {o : HO} (e : But S H H') (h : H' p = Option.none) : But S H (L2.upd H' p o) := fun a u n ha => by
  have h1 := e a u n ha
  rw [upd_ne (ne_of_none h1 h)]
  exact h1
theorem But.newM {S : List Addr} {H H' : Hp} {p : Addr} {o : HO} (e : But S H H') (h : H p = Option.none) : But S H (L2.upd H' p o) := fun a u n ha => by
  rw [upd_ne (ne_of_none ha h)]
  exact e a u n ha

/-! ### numbers -/
theorem sz_of {n : Nat} (h : n ≤ 100000) : n ≤ sizeLine := Nat.le_trans h (by decide)
theorem sz_lt {n : Nat} (h : n < 100000) : n < sizeLine := Nat.lt_of_lt_of_le h (by decide)

/-! ### slices -/
theorem cut_to {xs : List V} (k : Nat) : cutV xs none (some (k : Int)) = xs.take k := by
  unfold cutV
  rw [HT.sIx_none, HT.sIx_nat, List.drop_zero, Nat.sub_zero]
  by_cases h : k ≤ xs.length
  · rw [Nat.min_eq_left h]
  · rw [Nat.min_eq_right (by omega), List.take_of_length_le (Nat.le_refl _), List.take_of_length_le (by omega)]
theorem cut_from {xs : List V} (k : Nat) : cutV xs (some (k : Int)) none = xs.drop k := by
  unfold cutV
  rw [HT.sIx_none, HT.sIx_nat]
  by_cases h : k ≤ xs.length
  · rw [Nat.min_eq_left h, List.take_of_length_le (by rw [List.length_drop]; exact Nat.le_refl _)]
  · rw [Nat.min_eq_right (by omega), List.drop_of_length_le (Nat.le_refl _), List.drop_of_length_le (by omega), List.take_nil]
theorem cut_mid {xs : List V} (i j : Nat) (h : j ≤ xs.length) (hi : i ≤ j) : cutV xs (some (i : Int)) (some (j : Int)) = (xs.drop i).take (j - i) := by
  unfold cutV
  rw [HT.sIx_nat, HT.sIx_nat, Nat.min_eq_left h, Nat.min_eq_left (Nat.le_trans hi h)]
/-- a tuple's slice, the whole of it or a new one -/
theorem slA {K : PySem.W.Frag} {H : Hp} {a : Addr} {xs : List V} {lo hi : Option Int} {Q : VK} (h : H a = some (.tup xs)) (q : ∀ p H', Same H H' → H' p = some (.tup (cutV xs lo hi)) → Q (.ref p) H') : rSlA K (.ref a) lo hi H Q := by
  refine ⟨a, xs, rfl, SqT.of h, fun hw => q a H (Same.refl H) ?_, fun _ p hp => q p _ (L2.Same.new1 hp) upd_same⟩
  rw [h]
  unfold cutV
  rw [hw.1, hw.2, List.drop_zero, Nat.sub_zero, List.take_of_length_le (Nat.le_refl _)]
theorem slF {K : PySem.W.Frag} {H : Hp} {a : Addr} {xs : List V} {lo : Option Int} {σ : L2.St} {Q : VK} (h : H a = some (.tup xs)) (q : ∀ p H', Same H H' → H' p = some (.tup (cutV xs lo none)) → Q (.ref p) H') : tNoPart σ H (fun u H3 => rSlA K (.ref a) lo u H3 Q) := slA h q
/-- two tuples together -/
theorem catA {K : PySem.W.Frag} {H : Hp} {a b : Addr} {xs ys : List V} {Q : VK} (h : H a = some (.tup xs)) (h' : H b = some (.tup ys)) (hz : xs.length + ys.length ≤ 100000) (q : ∀ p H', Same H H' → H' p = some (.tup (xs ++ ys)) → Q (.ref p) H') : rCatA K (.ref a) (.ref b) H Q := by
  refine ⟨a, b, xs, ys, rfl, rfl, SqT.of h, SqT.of h', sz_of hz, fun e => q b H (Same.refl H) ?_, fun _ e => q a H (Same.refl H) ?_, fun _ _ p hp => q p _ (L2.Same.new1 hp) upd_same⟩
  · rw [e, List.nil_append]; exact h'
  · rw [e, List.append_nil]; exact h

/-! ### what the module's names stand for -/
structure Txt (K : PySem.W.Frag) (mg : Str → Option Value) (C : Addr) : Prop where
  cl : Cls K C
  nP : NoAttr K C "pages"
  mgC : mg "MemoryPages" = some (.ref C)
  len : mg "len" = none
  range : mg "range" = none
  sum : mg "sum" = none
  isinstance : mg "isinstance" = none
  int : mg "int" = none
  bool : mg "bool" = none
  tuple : mg "tuple" = none
  list : mg "list" = none
  dict : mg "dict" = none
  zip : mg "zip" = none
  sorted : mg "sorted" = none
  min : mg "min" = none
  abs : mg "abs" = none
  all : mg "all" = none
  c_PAGE_SIZE : ∃ t, mg "PAGE_SIZE" = some (.int 128 t)
  c_HEAD : ∃ t, mg "HEAD" = some (.int 12 t)
  c_BLANK : ∃ t, mg "BLANK" = some (.int 0 t)
  c_FRONT : ∃ t, mg "FRONT" = some (.int 1 t)
  c_LEAF : ∃ t, mg "LEAF" = some (.int 3 t)
  c_INNER : ∃ t, mg "INNER" = some (.int 4 t)
  c_MOST_PAGE : ∃ t, mg "MOST_PAGE" = some (.int 65535 t)
  c_MOST_KEY : ∃ t, mg "MOST_KEY" = some (.int 20 t)
  c_ROOM : ∃ t, mg "ROOM" = some (.int 116 t)
  c_FEW : ∃ t, mg "FEW" = some (.int 30 t)
  c_FRESH_AT : ∃ t, mg "FRESH_AT" = some (.int 12 t)
  c_FREE_AT : ∃ t, mg "FREE_AT" = some (.int 14 t)

/-! ### tuples of iv -/
def iv (ns : List Int) : List V := ns.map V.int
/-- v is a tuple of these iv -/
def IsI (H : Hp) (v : V) (ns : List Int) : Prop := ∃ a, v = .ref a ∧ H a = some (.tup (iv ns))
theorem IsI.same {H H' : Hp} {v : V} {ns : List Int} (h : IsI H v ns) (e : Same H H') : IsI H' v ns := by
  obtain ⟨a, rfl, h⟩ := h
  exact ⟨a, rfl, e _ _ h⟩
theorem iv_take (ns : List Int) (k : Nat) : (iv ns).take k = iv (ns.take k) := by unfold iv; rw [List.map_take]
theorem iv_drop (ns : List Int) (k : Nat) : (iv ns).drop k = iv (ns.drop k) := by unfold iv; rw [List.map_drop]
theorem iv_app (ns ms : List Int) : iv ns ++ iv ms = iv (ns ++ ms) := by unfold iv; rw [List.map_append]
theorem iv_len (ns : List Int) : (iv ns).length = ns.length := by unfold iv; rw [List.length_map]
theorem iv_get {ns : List Int} {i : Nat} {x : Int} (h : ns[i]? = some x) : (iv ns)[i]? = some (.int x) := by unfold iv; rw [List.getElem?_map, h]; rfl
end K7
/-! Plain data: entries, their order, pages as bytes, halves. -/
namespace K7

/-- an entry: a key, and a spot -/
abbrev Ent := List Int × Int × Int

/-! ### the order -/
def ltL : List Int → List Int → Bool
  | _, [] => false
  | [], _ :: _ => true
  | x :: xs, y :: ys => if x = y then ltL xs ys else decide (x < y)
def ltS (a b : Int × Int) : Bool := ltL [a.1, a.2] [b.1, b.2]
def ltE (a b : Ent) : Bool := if a.1 = b.1 then ltS a.2 b.2 else ltL a.1 b.1
def leE (a b : Ent) : Bool := !ltE b a
theorem ltL_irrefl : ∀ a : List Int, ltL a a = false
  | [] => rfl
  | x :: xs => by unfold ltL; rw [if_pos rfl]; exact ltL_irrefl xs
theorem ltL_tri : ∀ a b : List Int, ltL a b = false → ltL b a = false → a = b
  | [], [], _, _ => rfl
  | [], _ :: _, h, _ => by simp [ltL] at h
  | _ :: _, [], _, h => by simp [ltL] at h
  | x :: xs, y :: ys, h1, h2 => by
    unfold ltL at h1 h2
    by_cases e : x = y
    · subst e
      rw [if_pos rfl] at h1 h2
      rw [ltL_tri xs ys h1 h2]
    · rw [if_neg e] at h1
      rw [if_neg (fun q => e q.symm)] at h2
      have a1 := of_decide_eq_false h1
      have a2 := of_decide_eq_false h2
      omega
theorem ltL_trans : ∀ a b c : List Int, ltL a b = true → ltL b c = true → ltL a c = true
  | a, b, [], _, h => by simp [ltL] at h
  | a, [], _ :: _, h, _ => by simp [ltL] at h
  | [], _ :: _, _ :: _, _, _ => rfl
  | x :: xs, y :: ys, z :: zs, h1, h2 => by
    unfold ltL at h1 h2 ⊢
    by_cases e : x = y
    · subst e
      rw [if_pos rfl] at h1
      by_cases e2 : x = z
      · rw [if_pos e2] at h2 ⊢
        exact ltL_trans xs ys zs h1 h2
      · rw [if_neg e2] at h2 ⊢
        exact h2
    · rw [if_neg e] at h1
      by_cases e2 : y = z
      · subst e2
        rw [if_neg e]
        exact h1
      · rw [if_neg e2] at h2
        have a1 := of_decide_eq_true h1
        have a2 := of_decide_eq_true h2
        rw [if_neg (by omega)]
        exact decide_eq_true (by omega)
theorem ltE_irrefl (a : Ent) : ltE a a = false := by
  unfold ltE ltS
  rw [if_pos rfl]
  exact ltL_irrefl _
theorem ltE_tri (a b : Ent) (h1 : ltE a b = false) (h2 : ltE b a = false) : a = b := by
  unfold ltE at h1 h2
  by_cases e : a.1 = b.1
  · rw [if_pos e] at h1
    rw [if_pos e.symm] at h2
    have q := ltL_tri _ _ h1 h2
    injection q with q1 q2
    injection q2 with q2
    obtain ⟨a1, a2, a3⟩ := a
    obtain ⟨b1, b2, b3⟩ := b
    simp only at e q1 q2
    rw [e, q1, q2]
  · rw [if_neg e] at h1
    rw [if_neg (fun q => e q.symm)] at h2
    exact absurd (ltL_tri _ _ h1 h2) e
theorem ltE_trans (a b c : Ent) (h1 : ltE a b = true) (h2 : ltE b c = true) : ltE a c = true := by
  unfold ltE at h1 h2 ⊢
  by_cases e : a.1 = b.1
  · rw [if_pos e] at h1
    by_cases e2 : b.1 = c.1
    · rw [if_pos e2] at h2
      rw [if_pos (e.trans e2)]
      exact ltL_trans _ _ _ h1 h2
    · rw [if_neg e2] at h2
      rw [if_neg (fun q => e2 (e.symm.trans q)), e]
      exact h2
  · rw [if_neg e] at h1
    by_cases e2 : b.1 = c.1
    · rw [← e2, if_neg e]
      exact h1
    · rw [if_neg e2] at h2
      have q := ltL_trans _ _ _ h1 h2
      rw [if_neg (fun z => ?_)]
      · exact q
      · rw [z, ltL_irrefl] at q
        cases q
theorem leE_trans (a b c : Ent) (h1 : leE a b = true) (h2 : leE b c = true) : leE a c = true := by
  unfold leE at *
  rw [Bool.not_eq_true'] at *
  cases q : ltE c a with
  | false => rfl
  | true =>
    exfalso
    cases r : ltE a b with
    | true =>
      have z := ltE_trans _ _ _ q r
      rw [z] at h2
      cases h2
    | false =>
      have e := ltE_tri _ _ r h1
      subst e
      rw [q] at h2
      cases h2
theorem leE_total (a b : Ent) : (leE a b || leE b a) = true := by
  unfold leE
  cases q : ltE b a with
  | false => rfl
  | true =>
    cases r : ltE a b with
    | false => rfl
    | true =>
      have z := ltE_trans _ _ _ q r
      rw [ltE_irrefl] at z
      cases z
theorem leE_refl (a : Ent) : leE a a = true := by unfold leE; rw [ltE_irrefl]; rfl
theorem leE_anti (a b : Ent) (h1 : leE a b = true) (h2 : leE b a = true) : a = b := by
  unfold leE at *
  rw [Bool.not_eq_true'] at *
  exact ltE_tri _ _ h2 h1
theorem leE_of_not {a b : Ent} (h : leE a b = false) : leE b a = true := by
  have t := leE_total a b
  rw [h, Bool.false_or] at t
  exact t
/-- by keys -/
def leK (a b : List Int) : Bool := !ltL b a
theorem leE_key {a b : Ent} (h : leE a b = true) : leK a.1 b.1 = true := by
  unfold leE ltE at h
  unfold leK
  by_cases e : b.1 = a.1
  · rw [e, ltL_irrefl]; rfl
  · rw [if_neg e] at h
    exact h
theorem leK_refl (a : List Int) : leK a a = true := by unfold leK; rw [ltL_irrefl]; rfl

/-! ### bytes -/
def b2 (x : Int) : List Int := [x / 256 % 256, x % 256]
def numOf (l : List Int) : Int := l.foldl (fun a b => a * 256 + b) 0
/-- data put into a page from a place on -/
def wb (pg : List Int) (at_ : Nat) (d : List Int) : List Int := pg.take at_ ++ (d ++ pg.drop (at_ + d.length))
def byteB (x : Int) : Prop := 0 ≤ x ∧ x ≤ 255
theorem b2_byte {x : Int} (h : 0 ≤ x) : ∀ b ∈ b2 x, byteB b := by
  intro b hb
  unfold b2 at hb
  unfold byteB
  rcases List.mem_cons.mp hb with e | hb
  · rw [e]; omega
  · rw [List.mem_singleton.mp hb]; omega
theorem numOf_b2 {x : Int} (h0 : 0 ≤ x) (h1 : x ≤ 65535) : numOf (b2 x) = x := by
  show ((0 * 256 + x / 256 % 256) * 256 + x % 256) = x
  omega
/-- the bytes of an entry -/
def entB (e : Ent) : List Int := (e.1.length : Int) :: (e.1 ++ (b2 e.2.1 ++ [e.2.2]))
def esz (e : Ent) : Nat := e.1.length + 4
def lsz (es : List Ent) : Nat := (es.map esz).sum
def isz (ws : List Ent) (n : Nat) : Nat := lsz ws + 2 * n
/-- an entry that can stand in a page -/
structure GE (e : Ent) : Prop where
  k1 : 1 ≤ e.1.length
  k20 : e.1.length ≤ 20
  kb : ∀ b ∈ e.1, byteB b
  p1 : 1 ≤ e.2.1
  p2 : e.2.1 ≤ 65535
  s : byteB e.2.2
theorem entB_len (e : Ent) : (entB e).length = esz e := by
  unfold entB esz b2
  simp
theorem GE.bytes {e : Ent} (h : GE e) : ∀ b ∈ entB e, byteB b := by
  intro b hb
  unfold entB at hb
  rcases List.mem_cons.mp hb with q | hb
  · rw [q]
    have := h.k20
    exact ⟨by omega, by omega⟩
  · rcases List.mem_append.mp hb with q | hb
    · exact h.kb b q
    · rcases List.mem_append.mp hb with q | hb
      · exact b2_byte (by have := h.p1; omega) b q
      · rw [List.mem_singleton.mp hb]
        exact h.s
theorem esz_le {e : Ent} (h : GE e) : esz e ≤ 24 := by have := h.k20; unfold esz; omega
theorem esz_ge {e : Ent} (h : GE e) : 5 ≤ esz e := by have := h.k1; unfold esz; omega
theorem lsz_cons (e : Ent) (es : List Ent) : lsz (e :: es) = esz e + lsz es := by unfold lsz; rw [List.map_cons, List.sum_cons]
theorem lsz_app (es fs : List Ent) : lsz (es ++ fs) = lsz es + lsz fs := by unfold lsz; rw [List.map_append, List.sum_append]
theorem lsz_nil : lsz [] = 0 := rfl

/-! ### pages -/
def zs (n : Nat) : List Int := List.replicate n 0
/-- the head of a page: kind, number of items, next page -/
def hd (k n nx : Int) : List Int := [0, 0, 0, 0, 0, 0, k, n] ++ (b2 nx ++ [0, 128])
def body (d : List Int) : List Int := d ++ zs (116 - d.length)
def leafB (es : List Ent) : List Int := (es.map entB).flatten
def pairB (p : Ent × Nat) : List Int := entB p.1 ++ b2 (p.2 : Int)
def innerB (ws : List Ent) (cs : List Nat) : List Int := b2 ((cs.headD 0 : Nat) : Int) ++ ((ws.zip cs.tail).map pairB).flatten
def leafPg (es : List Ent) (nx : Nat) : List Int := hd 3 es.length nx ++ body (leafB es)
def innerPg (ws : List Ent) (cs : List Nat) : List Int := hd 4 ws.length 0 ++ body (innerB ws cs)
def blankPg (k : Int) : List Int := hd k 0 0 ++ body []
def freePg (nx : Nat) : List Int := hd 0 0 nx ++ body []
def frontPg (fresh free : Nat) : List Int := hd 1 0 0 ++ body (b2 fresh ++ b2 free)
theorem hd_len (k n nx : Int) : (hd k n nx).length = 12 := rfl
theorem zs_len (n : Nat) : (zs n).length = n := List.length_replicate
theorem body_len {d : List Int} (h : d.length ≤ 116) : (body d).length = 116 := by
  unfold body
  rw [List.length_append, zs_len]
  omega
theorem leafB_len (es : List Ent) : (leafB es).length = lsz es := by
  unfold leafB
  induction es with
  | nil => rfl
  | cons e es ih => rw [List.map_cons, List.flatten_cons, List.length_append, ih, entB_len, lsz_cons]
theorem pg_len {k n nx : Int} {d : List Int} (h : d.length ≤ 116) : (hd k n nx ++ body d).length = 128 := by
  rw [List.length_append, hd_len, body_len h]
theorem hd_bytes {k n nx : Int} (hk : byteB k) (hn : byteB n) (hx : 0 ≤ nx) : ∀ b ∈ hd k n nx, byteB b := by
  intro b hb
  have z : byteB 0 := ⟨by decide, by decide⟩
  have y : byteB 128 := ⟨by decide, by decide⟩
  unfold hd at hb
  rcases List.mem_append.mp hb with q | hb
  · simp only [List.mem_cons, List.mem_nil_iff, or_false] at q
    rcases q with q | q | q | q | q | q | q | q <;> rw [q] <;> assumption
  · rcases List.mem_append.mp hb with q | hb
    · exact b2_byte hx b q
    · simp only [List.mem_cons, List.mem_nil_iff, or_false] at hb
      rcases hb with q | q <;> rw [q] <;> assumption
theorem body_bytes {d : List Int} (h : ∀ b ∈ d, byteB b) : ∀ b ∈ body d, byteB b := by
  intro b hb
  unfold body at hb
  rcases List.mem_append.mp hb with q | q
  · exact h b q
  · rw [(List.mem_replicate.mp q).2]
    exact ⟨by decide, by decide⟩
theorem pg_bytes {k n nx : Int} {d : List Int} (hk : byteB k) (hn : byteB n) (hx : 0 ≤ nx) (h : ∀ b ∈ d, byteB b) : ∀ b ∈ hd k n nx ++ body d, byteB b := by
  intro b hb
  rcases List.mem_append.mp hb with q | q
  · exact hd_bytes hk hn hx b q
  · exact body_bytes h b q
theorem leafB_bytes {es : List Ent} (h : ∀ e ∈ es, GE e) : ∀ b ∈ leafB es, byteB b := by
  intro b hb
  unfold leafB at hb
  obtain ⟨l, hl, hb⟩ := List.mem_flatten.mp hb
  obtain ⟨e, he, rfl⟩ := List.mem_map.mp hl
  exact (h e he).bytes b hb
theorem len_of_lsz {es : List Ent} (h : ∀ e ∈ es, GE e) : 5 * es.length ≤ lsz es := by
  induction es with
  | nil => exact Nat.le_refl 0
  | cons e es ih =>
    have h1 := ih fun x hx => h x (List.mem_cons_of_mem _ hx)
    have h2 := esz_ge (h e List.mem_cons_self)
    rw [lsz_cons, List.length_cons]
    omega
theorem lsz_len {es : List Ent} (h : ∀ e ∈ es, GE e) : lsz es ≤ 24 * es.length := by
  induction es with
  | nil => exact Nat.le_refl 0
  | cons e es ih =>
    have h1 := ih fun x hx => h x (List.mem_cons_of_mem _ hx)
    have h2 := esz_le (h e List.mem_cons_self)
    rw [lsz_cons, List.length_cons]
    omega
/-- a page is 128 bytes -/
structure Pg (p : List Int) : Prop where
  len : p.length = 128
  bytes : ∀ b ∈ p, byteB b
theorem leafPg_ok {es : List Ent} {nx : Nat} (h : ∀ e ∈ es, GE e) (hz : lsz es ≤ 116) : Pg (leafPg es nx) := by
  have hl := len_of_lsz h
  exact ⟨pg_len (by rw [leafB_len]; exact hz), pg_bytes ⟨by decide, by decide⟩ ⟨by omega, by omega⟩ (by omega) (leafB_bytes h)⟩
theorem innerB_len : ∀ (ws : List Ent) (cs : List Nat), cs.length = ws.length + 1 → (innerB ws cs).length = isz ws cs.length := by
  intro ws cs h
  unfold innerB isz
  rw [List.length_append]
  have e : ∀ (ws : List Ent) (ds : List Nat), ds.length = ws.length → ((ws.zip ds).map pairB).flatten.length = lsz ws + 2 * ws.length := by
    intro ws
    induction ws with
    | nil => intro ds _; rfl
    | cons w ws ih =>
      intro ds hd
      cases ds with
      | nil => simp at hd
      | cons d ds =>
        rw [List.zip_cons_cons, List.map_cons, List.flatten_cons, List.length_append, ih ds (by simpa using hd), lsz_cons, List.length_cons]
        unfold pairB
        rw [List.length_append, entB_len]
        show esz w + 2 + _ = _
        omega
  rw [e ws cs.tail (by rw [List.length_tail, h]; omega)]
  show 2 + _ = _
  omega
theorem innerPg_ok {ws : List Ent} {cs : List Nat} (h : ∀ e ∈ ws, GE e) (hl : cs.length = ws.length + 1) (hz : isz ws cs.length ≤ 116) : Pg (innerPg ws cs) := by
  have hn := len_of_lsz h
  have hz' := hz
  unfold isz at hz'
  refine ⟨pg_len (by rw [innerB_len _ _ hl]; exact hz), pg_bytes ⟨by decide, by decide⟩ ⟨by omega, by omega⟩ (by decide) ?_⟩
  intro b hb
  unfold innerB at hb
  rcases List.mem_append.mp hb with q | q
  · exact b2_byte (by omega) b q
  · obtain ⟨l, hl, hb⟩ := List.mem_flatten.mp q
    obtain ⟨p, hp, rfl⟩ := List.mem_map.mp hl
    unfold pairB at hb
    rcases List.mem_append.mp hb with q | q
    · exact (h p.1 (List.of_mem_zip hp).1).bytes b q
    · exact b2_byte (by omega) b q
theorem blankPg_ok {k : Int} (h : byteB k) : Pg (blankPg k) := ⟨pg_len (by decide), pg_bytes h ⟨by decide, by decide⟩ (by decide) (fun _ h => by cases h)⟩
theorem freePg_ok {nx : Nat} : Pg (freePg nx) := ⟨pg_len (by decide), pg_bytes ⟨by decide, by decide⟩ ⟨by decide, by decide⟩ (by omega) (fun _ h => by cases h)⟩
theorem frontPg_ok {a b : Nat} : Pg (frontPg a b) := ⟨pg_len (by show 4 ≤ 116; decide), pg_bytes ⟨by decide, by decide⟩ ⟨by decide, by decide⟩ (by decide) (fun x h => by
  rcases List.mem_append.mp h with q | q
  · exact b2_byte (by omega) x q
  · exact b2_byte (by omega) x q)⟩
end K7
namespace K7
open PySem PySem.Spec PyProof.Rows L2

/-! ### entries as data -/
def pI (ns : List Int) : PyData := .tuple (ns.map .int)
def enc (e : Ent) : PyData := .tuple [pI e.1, .tuple [.int e.2.1, .int e.2.2]]
theorem pv_int (a b : Int) : PyData.eqv (.int a) (.int b) = decide (a = b) := by
  rw [PyData.eqv]
  by_cases h : a = b
  · rw [h, decide_eq_true rfl]; simp
  · rw [decide_eq_false h]; simpa using h
theorem pv_ints : ∀ ns ms : List Int, PyData.eqvAll (ns.map .int) (ms.map .int) = decide (ns = ms)
  | [], [] => by simp [PyData.eqvAll]
  | [], _ :: _ => by simp [PyData.eqvAll]
  | _ :: _, [] => by simp [PyData.eqvAll]
  | n :: ns, m :: ms => by
    rw [List.map_cons, List.map_cons, PySem.W.eqv_all_cons, pv_int, pv_ints ns ms]
    by_cases h : n = m
    · by_cases h2 : ns = ms
      · rw [h, h2]; simp
      · rw [h]; simp [h2]
    · simp [h]
theorem eqv_pI (ns ms : List Int) : PyData.eqv (pI ns) (pI ms) = decide (ns = ms) := by
  unfold pI
  rw [PyData.eqv]
  exact pv_ints ns ms
theorem eqv_enc (a b : Ent) : PyData.eqv (enc a) (enc b) = decide (a = b) := by
  unfold enc
  have e1 : PyData.eqv (.tuple [.int a.2.1, .int a.2.2]) (.tuple [.int b.2.1, .int b.2.2]) = decide (a.2 = b.2) := by
    have h := pv_ints [a.2.1, a.2.2] [b.2.1, b.2.2]
    rw [PyData.eqv]
    refine h.trans (decide_eq_decide.mpr ⟨fun q => ?_, fun q => by rw [q]⟩)
    injection q with q1 q2
    injection q2 with q2
    exact Prod.ext q1 q2
  rw [PyData.eqv, PySem.W.eqv_all_cons, PySem.W.eqv_all_cons, eqv_pI, e1, PyData.eqvAll, Bool.and_true]
  by_cases h : a.1 = b.1
  · by_cases h2 : a.2 = b.2
    · rw [decide_eq_true h, decide_eq_true h2, decide_eq_true (Prod.ext h h2)]; rfl
    · rw [decide_eq_false h2, Bool.and_false, decide_eq_false (fun q => h2 (by rw [q]))]
  · rw [decide_eq_false h, Bool.false_and, decide_eq_false (fun q => h (by rw [q]))]
theorem alike_ints : ∀ ns ms : List Int, PySem.W.alikeAll (ns.map .int) (ms.map .int) = true
  | [], _ => by simp [PySem.W.alikeAll]
  | _ :: _, [] => by simp [PySem.W.alikeAll]
  | n :: ns, m :: ms => by
    rw [List.map_cons, List.map_cons, PySem.W.alikeAll, alike_ints ns ms]
    simp [PySem.W.alike]
theorem alike_pI (ns ms : List Int) : PySem.W.alike (pI ns) (pI ms) = true := by
  unfold pI
  rw [PySem.W.alike]
  exact alike_ints ns ms
theorem alike_enc (a b : Ent) : PySem.W.alike (enc a) (enc b) = true := by
  unfold enc
  rw [PySem.W.alike, PySem.W.alikeAll, PySem.W.alikeAll, alike_pI]
  have h := alike_ints [a.2.1, a.2.2] [b.2.1, b.2.2]
  have e : PySem.W.alike (.tuple [.int a.2.1, .int a.2.2]) (.tuple [.int b.2.1, .int b.2.2]) = true := by
    rw [PySem.W.alike]
    exact h
  rw [e, PySem.W.alikeAll]
  rfl
theorem lt_ints : ∀ ns ms : List Int, PyProof.Rows.lexLt itemOrd (PySem.W.keyToksAll (ns.map .int)) (PySem.W.keyToksAll (ms.map .int)) = ltL ns ms
  | [], [] => by
    rw [List.map_nil]
    exact lex_irrefl _
  | [], m :: ms => by
    rw [List.map_cons, PySem.W.toks_all_cons]
    simp only [List.map_nil, PySem.W.keyToksAll]
    rw [lex_diff (O := itemOrd) (by simp)]
    rfl
  | n :: ns, [] => by
    rw [List.map_cons, PySem.W.toks_all_cons]
    simp only [List.map_nil, PySem.W.keyToksAll]
    rw [lex_diff (O := itemOrd) (by simp)]
    rfl
  | n :: ns, m :: ms => by
    rw [List.map_cons, List.map_cons]
    unfold ltL
    by_cases h : n = m
    · rw [if_pos h, PySem.W.dataLt_all_yes (by simp [PySem.W.alike]) (by rw [pv_int, decide_eq_true h])]
      exact lt_ints ns ms
    · rw [if_neg h, PySem.W.dataLt_all_no (by simp [PySem.W.alike]) (by rw [pv_int, decide_eq_false h])]
      exact PySem.W.dataLt_int _ _
theorem lt_pI (ns ms : List Int) : PySem.W.dataLt (pI ns) (pI ms) = ltL ns ms := by
  unfold pI PySem.W.dataLt
  rw [PySem.W.keyToks, PySem.W.keyToks]
  exact lt_ints ns ms
theorem lt_enc (a b : Ent) : PySem.W.dataLt (enc a) (enc b) = ltE a b := by
  have e2 : PySem.W.alike (.tuple [.int a.2.1, .int a.2.2]) (.tuple [.int b.2.1, .int b.2.2]) = true := by
    rw [PySem.W.alike]
    exact alike_ints [a.2.1, a.2.2] [b.2.1, b.2.2]
  have e3 : PySem.W.dataLt (.tuple [.int a.2.1, .int a.2.2]) (.tuple [.int b.2.1, .int b.2.2]) = ltS a.2 b.2 := by
    unfold PySem.W.dataLt ltS
    rw [PySem.W.keyToks, PySem.W.keyToks]
    exact lt_ints [a.2.1, a.2.2] [b.2.1, b.2.2]
  have e4 : PyData.eqv (.tuple [.int a.2.1, .int a.2.2]) (.tuple [.int b.2.1, .int b.2.2]) = decide ([a.2.1, a.2.2] = [b.2.1, b.2.2]) := by
    rw [PyData.eqv]
    exact pv_ints [a.2.1, a.2.2] [b.2.1, b.2.2]
  show PyProof.Rows.lexLt itemOrd (PySem.W.keyToks (enc a)) (PySem.W.keyToks (enc b)) = _
  unfold enc
  rw [PySem.W.keyToks, PySem.W.keyToks]
  unfold ltE
  by_cases h : a.1 = b.1
  · rw [if_pos h, PySem.W.dataLt_all_yes (alike_pI _ _) (by rw [eqv_pI, decide_eq_true h])]
    by_cases h2 : [a.2.1, a.2.2] = [b.2.1, b.2.2]
    · rw [PySem.W.dataLt_all_yes e2 (by rw [e4, decide_eq_true h2])]
      unfold ltS
      rw [h2, ltL_irrefl]
      exact lex_irrefl _
    · rw [PySem.W.dataLt_all_no e2 (by rw [e4, decide_eq_false h2])]
      exact e3
  · rw [if_neg h, PySem.W.dataLt_all_no (alike_pI _ _) (by rw [eqv_pI, decide_eq_false h])]
    exact lt_pI _ _

theorem depth_ints : ∀ ns : List Int, PyData.depthAll (ns.map .int) = 0
  | [] => by simp [PyData.depthAll]
  | n :: ns => by
    rw [List.map_cons, PyData.depthAll, depth_ints ns, PyData.depth]
    rfl
theorem depth_pI (ns : List Int) : (pI ns).depth = 1 := by
  unfold pI
  rw [PyData.depth, depth_ints]
theorem depth_enc (e : Ent) : (enc e).depth = 2 := by
  unfold enc
  have h := depth_ints [e.2.1, e.2.2]
  have h2 : (PyData.tuple [.int e.2.1, .int e.2.2]).depth = 1 := by
    rw [PyData.depth]
    exact congrArg (· + 1) h
  rw [PyData.depth, PyData.depthAll, PyData.depthAll, PyData.depthAll, depth_pI, h2]
  rfl
theorem plain_ints : ∀ ns : List Int, PyData.plainAll (ns.map .int) = true
  | [] => by simp [PyData.plainAll]
  | n :: ns => by
    rw [List.map_cons, PyData.plainAll, plain_ints ns, PyData.plain]
    rfl
theorem plain_pI (ns : List Int) : (pI ns).plain = true := by
  unfold pI
  rw [PyData.plain]
  exact plain_ints ns
theorem plain_enc (e : Ent) : (enc e).plain = true := by
  unfold enc
  have h2 : (PyData.tuple [.int e.2.1, .int e.2.2]).plain = true := by
    rw [PyData.plain]
    exact plain_ints [e.2.1, e.2.2]
  rw [PyData.plain, PyData.plainAll, PyData.plainAll, PyData.plainAll, plain_pI, h2]
  rfl
theorem depth_encs : ∀ es : List Ent, PyData.depthAll (es.map enc) ≤ 2
  | [] => by simp [PyData.depthAll]
  | e :: es => by
    rw [List.map_cons, PyData.depthAll, depth_enc]
    have := depth_encs es
    omega
theorem plain_encs : ∀ es : List Ent, PyData.plainAll (es.map enc) = true
  | [] => by simp [PyData.plainAll]
  | e :: es => by rw [List.map_cons, PyData.plainAll, plain_enc, plain_encs es]; rfl

/-! ### entries in the heap -/
def IsE (H : Hp) (v : V) (e : Ent) : Prop := ∃ t k s, v = .ref t ∧ H t = some (.tup [.ref k, .ref s]) ∧ H k = some (.tup (iv e.1)) ∧ H s = some (.tup [.int e.2.1, .int e.2.2])
theorem IsE.same {H H' : Hp} {v : V} {e : Ent} (h : IsE H v e) (q : Same H H') : IsE H' v e := by
  obtain ⟨t, k, s, rfl, h1, h2, h3⟩ := h
  exact ⟨t, k, s, rfl, q _ _ h1, q _ _ h2, q _ _ h3⟩
/-- tuples stay -/
def Tups (H H' : Hp) : Prop := ∀ a xs, H a = some (.tup xs) → H' a = some (.tup xs)
theorem Tups.of {H H' : Hp} (h : Same H H') : Tups H H' := fun a xs e => h a _ e
theorem Tups.refl (H : Hp) : Tups H H := fun _ _ h => h
theorem Tups.trans {H H1 H2 : Hp} (a : Tups H H1) (b : Tups H1 H2) : Tups H H2 := fun c o h => b c o (a c o h)
theorem Tups.upd {H H' : Hp} {p : Addr} {o u : HO} (h : Tups H H') (hp : H p = some u) (hu : ∀ xs, u ≠ .tup xs) : Tups H (L2.upd H' p o) := fun a xs e => by
  rw [upd_ne (ne_of e hp (fun q => hu xs q.symm))]
  exact h a xs e
theorem IsI.tups {H H' : Hp} {v : V} {ns : List Int} (h : IsI H v ns) (e : Tups H H') : IsI H' v ns := by
  obtain ⟨a, rfl, h⟩ := h
  exact ⟨a, rfl, e _ _ h⟩
theorem IsE.tups {H H' : Hp} {v : V} {e : Ent} (h : IsE H v e) (q : Tups H H') : IsE H' v e := by
  obtain ⟨t, k, s, rfl, h1, h2, h3⟩ := h
  exact ⟨t, k, s, rfl, q _ _ h1, q _ _ h2, q _ _ h3⟩
abbrev IsEs (H : Hp) (vs : List V) (es : List Ent) : Prop := Paired (IsE H) vs es
theorem IsEs.tups {H H' : Hp} {vs : List V} {es : List Ent} (h : IsEs H vs es) (q : Tups H H') : IsEs H' vs es := Paired.mapP h fun _ _ z => z.tups q
theorem IsEs.same {H H' : Hp} {vs : List V} {es : List Ent} (h : IsEs H vs es) (q : Same H H') : IsEs H' vs es := h.tups (.of q)
theorem IsEs.length {H : Hp} {vs : List V} {es : List Ent} (h : IsEs H vs es) : vs.length = es.length := Paired.length h
theorem Paired.get {α β : Type} {R : α → β → Prop} : ∀ {xs : List α} {ys : List β} {i : Nat} {y : β}, Paired R xs ys → ys[i]? = some y → ∃ x, xs[i]? = some x ∧ R x y
  | _, _, _, _, .nil, h => by simp at h
  | _, _, 0, _, .cons r _, h => by simp at h; subst h; exact ⟨_, rfl, r⟩
  | _, _, i + 1, y, .cons _ t, h => by
    obtain ⟨x, h1, h2⟩ := Paired.get (i := i) (y := y) t (by simpa using h)
    exact ⟨x, by simpa using h1, h2⟩
theorem Paired.get' {α β : Type} {R : α → β → Prop} : ∀ {xs : List α} {ys : List β} {i : Nat} {x : α}, Paired R xs ys → xs[i]? = some x → ∃ y, ys[i]? = some y ∧ R x y
  | _, _, _, _, .nil, h => by simp at h
  | _, _, 0, _, .cons r _, h => by simp at h; subst h; exact ⟨_, rfl, r⟩
  | _, _, i + 1, y, .cons _ t, h => by
    obtain ⟨x, h1, h2⟩ := Paired.get' (i := i) (x := y) t (by simpa using h)
    exact ⟨x, by simpa using h1, h2⟩
theorem Paired.append {α β : Type} {R : α → β → Prop} : ∀ {xs xs' : List α} {ys ys' : List β}, Paired R xs ys → Paired R xs' ys' → Paired R (xs ++ xs') (ys ++ ys')
  | _, _, _, _, .nil, s => s
  | _, _, _, _, .cons r t, s => .cons r (Paired.append t s)
theorem Paired.take {α β : Type} {R : α → β → Prop} : ∀ {xs : List α} {ys : List β} (n : Nat), Paired R xs ys → Paired R (xs.take n) (ys.take n)
  | _, _, 0, _ => .nil
  | _, _, _ + 1, .nil => .nil
  | _, _, n + 1, .cons r t => .cons r (Paired.take n t)
theorem Paired.drop {α β : Type} {R : α → β → Prop} : ∀ {xs : List α} {ys : List β} (n : Nat), Paired R xs ys → Paired R (xs.drop n) (ys.drop n)
  | _, _, 0, r => r
  | _, _, _ + 1, .nil => .nil
  | _, _, n + 1, .cons _ t => Paired.drop n t
theorem Paired.eraseIdx {α β : Type} {R : α → β → Prop} : ∀ {xs : List α} {ys : List β} (n : Nat), Paired R xs ys → Paired R (xs.eraseIdx n) (ys.eraseIdx n)
  | _, _, _, .nil => .nil
  | _, _, 0, .cons _ t => t
  | _, _, n + 1, .cons r t => .cons r (Paired.eraseIdx n t)
/-- v is a list of these entries -/
def IsEL (H : Hp) (v : V) (es : List Ent) : Prop := ∃ a vs, v = .ref a ∧ H a = some (.lst vs) ∧ IsEs H vs es
theorem IsEL.same {H H' : Hp} {v : V} {es : List Ent} (h : IsEL H v es) (q : Same H H') : IsEL H' v es := by
  obtain ⟨a, vs, rfl, h1, h2⟩ := h
  exact ⟨a, vs, rfl, q _ _ h1, h2.same q⟩
section
variable {K : PySem.W.Frag} {H : Hp} {v : V}
theorem dp_ints : ∀ ns : List Int, DpAll K H (iv ns) (ns.map .int)
  | [] => .nil
  | n :: ns => .cons (.int n) (dp_ints ns)
theorem IsI.dp {ns : List Int} (h : IsI H v ns) : Dp K H v (pI ns) := by
  obtain ⟨a, rfl, h⟩ := h
  exact .tup (SqT.of h) (dp_ints ns)
theorem IsE.dp {e : Ent} (h : IsE H v e) : Dp K H v (enc e) := by
  obtain ⟨t, k, s, rfl, h1, h2, h3⟩ := h
  exact .tup (SqT.of h1) (.cons (.tup (SqT.of h2) (dp_ints _)) (.cons (.tup (SqT.of h3) (.cons (.int _) (.cons (.int _) .nil))) .nil))
theorem IsEs.dp {es : List Ent} : ∀ {vs : List V}, IsEs H vs es → DpAll K H vs (es.map enc) := by
  induction es with
  | nil => intro vs h; cases h; exact .nil
  | cons e es ih => intro vs h; cases h with | cons r t => exact .cons r.dp (ih t)
end

/-! ### rules -/
section
variable {X : Cx}
def rLeE : R2 := fun x y H Q => ∃ a b : Ent, IsE H x a ∧ IsE H y b ∧ Q (.bl (leE a b)) H
theorem op_leE (hu : X.A.units + 64 < cLine) : OpR X (compareOp .LtE) rLeE := by
  intro pins s σ H x y v u Q I rx ry h
  obtain ⟨a, b, ha, hb, q⟩ := h
  obtain ⟨as, r1⟩ := Dp.reads I (enc a) x v ha.dp rx
  obtain ⟨bs, r2⟩ := Dp.reads I (enc b) y u hb.dp ry
  refine PySem.W.le_data r1 r2 (alike_enc a b) (by unfold enc; exact fun z => nomatch z) (by rw [depth_enc, depth_enc]; show _ + 2 < _; omega) ⟨.bl _, H, I, rfl, ?_⟩
  rw [lt_enc]
  exact q
def rLeI : R2 := fun x y H Q => ∃ a b : List Int, IsI H x a ∧ IsI H y b ∧ Q (.bl (leK a b)) H
theorem op_leI (hu : X.A.units + 64 < cLine) : OpR X (compareOp .LtE) rLeI := by
  intro pins s σ H x y v u Q I rx ry h
  obtain ⟨a, b, ha, hb, q⟩ := h
  obtain ⟨as, r1⟩ := Dp.reads I (pI a) x v ha.dp rx
  obtain ⟨bs, r2⟩ := Dp.reads I (pI b) y u hb.dp ry
  refine PySem.W.le_data r1 r2 (alike_pI a b) (by unfold pI; exact fun z => nomatch z) (by rw [depth_pI, depth_pI]; show _ + 1 < _; omega) ⟨.bl _, H, I, rfl, ?_⟩
  rw [lt_pI]
  exact q
def rGeI : R2 := fun x y H Q => ∃ a b : List Int, IsI H x a ∧ IsI H y b ∧ Q (.bl (leK b a)) H
theorem op_geI (hu : X.A.units + 64 < cLine) : OpR X (compareOp .GtE) rGeI := by
  intro pins s σ H x y v u Q I rx ry h
  obtain ⟨a, b, ha, hb, q⟩ := h
  obtain ⟨as, r1⟩ := Dp.reads I (pI a) x v ha.dp rx
  obtain ⟨bs, r2⟩ := Dp.reads I (pI b) y u hb.dp ry
  refine PySem.W.ge_data r1 r2 (alike_pI a b) (by unfold pI; exact fun z => nomatch z) (by rw [depth_pI, depth_pI]; show _ + 1 < _; omega) ⟨.bl _, H, I, rfl, ?_⟩
  rw [lt_pI]
  exact q
theorem ip_fdiv : PIp X .FloorDiv (fun x y H Q => ∃ i j, x = .int i ∧ y = .int j ∧ 0 < j ∧ j < 1073741824 ∧ Q (.int (i / j)) H) := by
  intro pins s σ H x y v u Q I r1 r2 h
  obtain ⟨i, j, rfl, rfl, h0, h1, q⟩ := h
  obtain ⟨t, rfl⟩ := r1
  obtain ⟨t', rfl⟩ := r2
  refine ifloordiv_int (by omega) ?_ (.inl (PyProof.noPylong_small (by omega)))
  rw [Int.fdiv_eq_ediv_of_nonneg i (by omega)]
  exact ⟨.int _, H, I.tok _, ⟨_, rfl⟩, q⟩
/-- the sorted entries -/
def srt (es : List Ent) : List Ent := es.mergeSort leE
def rSortedE : List V → Hp → VK → Prop := fun vs H Q => ∃ (a : Addr) (xs : List V) (es : List Ent), vs = [V.ref a] ∧ H a = some (.lst xs) ∧ IsEs H xs es ∧
  ∀ p ys H', H p = none → Same H H' → H' p = some (.lst ys) → IsEs H' ys (srt es) → Q (.ref p) H'
theorem each_of {H : Hp} : ∀ {xs : List V} {us : List Value} {es : List Ent}, Vals xs us → IsEs H xs es → PySem.W.EachIs (fun u e => ∃ t, u = Value.ref t ∧ IsE H (.ref t) e) us es
  | _, _, _, .nil, h => by cases h; exact .nil
  | _, _, _, .cons r t, h => by
    cases h with
    | cons z zs =>
      refine .cons ?_ (each_of t zs)
      obtain ⟨a, k, s, rfl, h1⟩ := id z
      exact ⟨a, r, z⟩
theorem of_each {H : Hp} : ∀ {us : List Value} {es : List Ent}, PySem.W.EachIs (fun u e => ∃ t, u = Value.ref t ∧ IsE H (.ref t) e) us es → ∃ ys, Vals ys us ∧ IsEs H ys es
  | _, _, .nil => ⟨[], .nil, .nil⟩
  | _, _, .cons ⟨t, e, z⟩ r => by
    obtain ⟨ys, h1, h2⟩ := of_each r
    exact ⟨.ref t :: ys, .cons e h1, .cons z h2⟩
theorem cr_sortedE (hu : X.A.units + 64 < cLine) : CallR X (.builtin "sorted") rSortedE := by
  intro pins s σ H vs us Q I r h
  obtain ⟨a, xs, es, rfl, hs, he, q⟩ := h
  obtain ⟨its, rv, hl, hz⟩ := I.list (SqL.of hs)
  rw [Vals.ref1 r]
  have hlen : es.length ≤ sizeLine := by rw [← he.length]; exact hz
  have E1 := each_of rv he
  refine PySem.W.sorted_data (enc := enc) (R := fun u e => ∃ t, u = Value.ref t ∧ IsE H (.ref t) e) hl.isList E1 (E1.mono fun u e ⟨t, e1, z⟩ => Dp.reads I (enc e) (.ref t) u z.dp e1) (fun d hd d' hd' => ?_)
    (.inl fun d hd => ?_) hlen (fun b _ => by rw [depth_enc]; omega) fun out h1 h2 => ?_
  · obtain ⟨x, _, rfl⟩ := List.mem_map.mp hd
    obtain ⟨y, _, rfl⟩ := List.mem_map.mp hd'
    exact alike_enc x y
  · obtain ⟨x, _, rfl⟩ := List.mem_map.mp hd
    exact ⟨_, _, rfl⟩
  · obtain ⟨ys, h3, h4⟩ := of_each h2
    obtain ⟨ep, he'⟩ := PyProof.Rows.sortedAll_at s.heap its out.toArray
    have e : es.mergeSort (PySem.W.dataLe false enc) = srt es := by
      have e1 : PySem.W.dataLe false enc = leE := by
        rw [PySem.W.dataLe_eq]
        funext a b
        show (!PySem.W.dataLt (enc b) (enc a)) = _
        rw [lt_enc]
        rfl
      rw [e1]
      rfl
    rw [e] at h4
    have hn : H (s.heap.objs.size + 1) = none := I.hok.fresh (Nat.le_succ _)
    refine ⟨.ref _, upd H (s.heap.objs.size + 1) (.lst ys), I.laid (t' := s.toks) (fun _ _ => PyProof.Rows.sortedAll_old) (Nat.le_succ _) ⟨by rw [h3.length, h1]; exact hlen, out, ep, h3, he'⟩, rfl, q _ ys _ hn (L2.Same.new1 hn) upd_same (h4.same (L2.Same.new1 hn))⟩
def rRemE : V → List V → Hp → VK → Prop := fun x vs H Q => ∃ (l : Addr) (xs : List V) (y : V) (es : List Ent) (e : Ent), x = V.ref l ∧ vs = [y] ∧ H l = some (.lst xs) ∧ IsEs H xs es ∧ IsE H y e ∧ e ∈ es ∧
  ∀ j, es[j]? = some e → Q .non (upd H l (.lst (xs.eraseIdx j)))
theorem mt_removeD (hu : X.A.units + 65 < cLine) : MtR X "list.remove" rRemE := by
  intro pins s σ H x xs v us Q I rx rxs h
  obtain ⟨l, ys, y, es, e, rfl, rfl, hl, hes, he, hin, q⟩ := h
  cases rx
  cases rxs with
  | cons ry rt =>
    rename_i uy ut
    cases rt
    obtain ⟨z, its, n, r, hlen, e0⟩ := I.lstM hl
    obtain ⟨as, r1⟩ := Dp.readsAll I (es.map enc) ys its hes.dp r
    obtain ⟨bs, r2⟩ := Dp.reads I (enc e) y uy he.dp ry
    have hj : ∃ j, PySem.SeqAt.dataPlace (es.map enc) (enc e) = some j := by
      cases q : PySem.SeqAt.dataPlace (es.map enc) (enc e) with
      | some j => exact ⟨j, rfl⟩
      | none =>
        have h1 := List.findIdx?_eq_none_iff.mp q (enc e) (List.mem_map.mpr ⟨e, hin, rfl⟩)
        rw [eqv_enc, decide_eq_true rfl] at h1
        cases h1
    obtain ⟨j, hj⟩ := hj
    have hje : es[j]? = some e := by
      obtain ⟨h1, h2, h3⟩ := List.findIdx?_eq_some_iff_getElem.mp hj
      rw [List.length_map] at h1
      rw [List.getElem_map, eqv_enc] at h2
      rw [List.getElem?_eq_getElem h1]
      exact congrArg some (of_decide_eq_true h2)
    have pl : s.heap.IsList l its.toArray := ⟨_, e0, rfl, n, rfl⟩
    refine PySem.SeqAt.remove_list_data (j := j) pl (by simpa using r1) r2 (plain_encs es) (plain_enc e) (by rw [depth_enc]; have := depth_encs es; omega) hj (by rw [List.size_toArray, ← hlen]; exact z) ?_
    refine ⟨.non, _, I.lset (its' := its.eraseIdx j) hl e0 ?_ (r.eraseIdx j) ?_, rfl, q j hje⟩
    · show its.toArray.eraseIdxIfInBounds j = (its.eraseIdx j).toArray
      rw [List.eraseIdxIfInBounds_toArray]
    · have := List.length_eraseIdx_le (l := ys) (i := j)
      omega
end
end K7
namespace K7
open PySem PySem.Spec PyProof.Rows L2
def encP (p : Int × Int) : PyData := pI [p.1, p.2]
theorem encP_inj {p q : Int × Int} (h : encP p = encP q) : p = q := by
  have e := eqv_pI [p.1, p.2] [q.1, q.2]
  have e2 : PyData.eqv (encP p) (encP q) = true := by
    rw [h]
    have := eqv_pI [q.1, q.2] [q.1, q.2]
    rw [decide_eq_true rfl] at this
    exact this
  rw [show PyData.eqv (pI [p.1, p.2]) (pI [q.1, q.2]) = true from e2] at e
  have e3 := of_decide_eq_true e.symm
  injection e3 with a b
  injection b with b
  exact Prod.ext a b
/-- v is this pair of ints -/
def IsP (H : Hp) (v : V) (p : Int × Int) : Prop := ∃ t, v = .ref t ∧ H t = some (.tup [.int p.1, .int p.2])
theorem IsP.dp {K : PySem.W.Frag} {H : Hp} {v : V} {p : Int × Int} (h : IsP H v p) : Dp K H v (encP p) := by
  obtain ⟨t, rfl, h⟩ := h
  exact .tup (SqT.of h) (dp_ints [p.1, p.2])
theorem IsPs.dp {K : PySem.W.Frag} {H : Hp} {ps : List (Int × Int)} : ∀ {vs : List V}, Paired (IsP H) vs ps → DpAll K H vs (ps.map encP) := by
  induction ps with
  | nil => intro vs h; cases h; exact .nil
  | cons e es ih => intro vs h; cases h with | cons r t => exact .cons r.dp (ih t)
def minP (p : Int × Int) (ps : List (Int × Int)) : Int × Int := ps.foldl (fun a y => if ltS y a then y else a) p
theorem minD_encP : ∀ (ps : List (Int × Int)) (p : Int × Int), PySem.W.minD (encP p) (ps.map encP) = encP (minP p ps)
  | [], _ => rfl
  | q :: ps, p => by
    have ih := minD_encP ps (if ltS q p then q else p)
    unfold PySem.W.minD at ih ⊢
    unfold minP at ih ⊢
    rw [List.map_cons, List.foldl_cons, List.foldl_cons]
    have e : (if PySem.W.dataLt (encP q) (encP p) = true then encP q else encP p) = encP (if ltS q p = true then q else p) := by
      have e1 : PySem.W.dataLt (encP q) (encP p) = ltS q p := lt_pI _ _
      rw [e1]
      cases ltS q p <;> rfl
    rw [e]
    exact ih
theorem minP_mem : ∀ (ps : List (Int × Int)) (p : Int × Int), minP p ps ∈ p :: ps
  | [], _ => List.mem_cons_self
  | q :: ps, p => by
    have ih := minP_mem ps (if ltS q p then q else p)
    unfold minP at ih ⊢
    rw [List.foldl_cons]
    rcases List.mem_cons.mp ih with e | m
    · rw [e]
      cases ltS q p
      · exact List.mem_cons_self
      · exact List.mem_cons_of_mem _ List.mem_cons_self
    · exact List.mem_cons_of_mem _ (List.mem_cons_of_mem _ m)
theorem ltS_of {a b : Int × Int} : ltS a b = true ↔ a.1 < b.1 ∨ (a.1 = b.1 ∧ a.2 < b.2) := by
  unfold ltS ltL ltL
  by_cases h : a.1 = b.1
  · rw [if_pos h]
    by_cases h2 : a.2 = b.2
    · rw [if_pos h2]
      simp [ltL, h, h2]
    · rw [if_neg h2, decide_eq_true_eq]
      omega
  · rw [if_neg h, decide_eq_true_eq]
    omega
theorem minP_least : ∀ (ps : List (Int × Int)) (p : Int × Int), ∀ q ∈ p :: ps, ltS q (minP p ps) = false
  | [], p, q, hq => by
    rw [List.mem_singleton.mp hq]
    exact ltL_irrefl _
  | r :: ps, p, q, hq => by
    have ih := minP_least ps (if ltS r p then r else p)
    have e : minP p (r :: ps) = minP (if ltS r p then r else p) ps := by unfold minP; rw [List.foldl_cons]
    rw [e]
    have tr : ∀ x y : Int × Int, ltS y (minP (if ltS r p then r else p) ps) = false → ltS x y = false → ltS x (minP (if ltS r p then r else p) ps) = false := by
      intro x y h1 h2
      rw [Bool.eq_false_iff] at *
      rw [ne_eq, ltS_of] at *
      omega
    have h0 := ih _ List.mem_cons_self
    rcases List.mem_cons.mp hq with e1 | m
    · rw [e1]
      refine tr p _ h0 ?_
      cases c : ltS r p
      · exact ltL_irrefl _
      · rw [if_pos rfl]
        rw [ltS_of] at c
        rw [Bool.eq_false_iff, ne_eq, ltS_of]
        omega
    · rcases List.mem_cons.mp m with e1 | m
      · rw [e1]
        refine tr r _ h0 ?_
        cases c : ltS r p
        · exact c
        · rw [if_pos rfl]
          exact ltL_irrefl _
      · exact ih q (List.mem_cons_of_mem _ m)
section
variable {X : Cx}
def rMinP : List V → Hp → VK → Prop := fun vs H Q => ∃ (a : Addr) (xs : List V) (ps : List (Int × Int)), vs = [V.ref a] ∧ H a = some (.lst xs) ∧ Paired (IsP H) xs ps ∧ ps ≠ [] ∧
  ∀ v p, IsP H v p → p ∈ ps → (∀ q ∈ ps, ltS q p = false) → Q v H
theorem cr_minP (hc : X.calm = true) (hu : X.A.units + 64 < cLine) : CallR X (.builtin "min") rMinP := by
  intro pins s σ H vs us Q I r h
  obtain ⟨a, xs, ps, rfl, hs, hp, hne, q⟩ := h
  obtain ⟨its, rv, hl, hz⟩ := I.list (SqL.of hs)
  rw [Vals.ref1 r]
  cases ps with
  | nil => exact absurd rfl hne
  | cons p ps =>
    obtain ⟨as, r1⟩ := Dp.readsAll I ((p :: ps).map encP) xs its (IsPs.dp hp) rv
    have r1' : ReadsAll s.heap its.toArray.toList (encP p :: ps.map encP) as := by simpa using r1
    refine PySem.W.min_list_data (I.ok.hd hc) hl.isList r1' ⟨fun x hx y hy => ?_, fun x hx => ?_⟩ ?_ fun i v h' tk bs hv hr hk => ?_
    · obtain ⟨x', _, rfl⟩ := List.mem_map.mp (show x ∈ (p :: ps).map encP from hx)
      obtain ⟨y', _, rfl⟩ := List.mem_map.mp (show y ∈ (p :: ps).map encP from hy)
      exact alike_pI _ _
    · obtain ⟨x', _, rfl⟩ := List.mem_map.mp (show x ∈ (p :: ps).map encP from hx)
      exact fun z => nomatch z
    · have e : ∀ qs : List (Int × Int), PyData.depthAll (qs.map encP) ≤ 1 := by
        intro qs
        induction qs with
        | nil => simp [PyData.depthAll]
        | cons q qs ih =>
          rw [List.map_cons, PyData.depthAll]
          have : (encP q).depth = 1 := depth_pI _
          omega
      have := e (p :: ps)
      have e2 : PyData.depthAll (encP p :: ps.map encP) ≤ 1 := this
      omega
    · rw [minD_encP] at hr
      have hv' : its[i]? = some v := by
        rw [← hv]
        simp
      obtain ⟨x, hx, rx⟩ : ∃ x, xs[i]? = some x ∧ RelV x v := Paired.get rv hv'
      obtain ⟨p', hp', z⟩ := Paired.get' hp hx
      obtain ⟨bs2, r2⟩ := Dp.reads I (encP p') x v z.dp rx
      have r3 := PySem.W.reads_keeps hk r2
      have e := encP_inj (PySem.SeqAt.plain_unique _ _ _ _ _ (plain_pI _) r3 hr)
      refine ⟨x, H, I.kept (t' := tk) hk, rx, q x p' z ?_ ?_⟩
      · exact List.mem_of_getElem? hp'
      · rw [e]
        exact minP_least ps p
end
/-! ### t * k -/
theorem tuple_mul1 (l : Addr) (items : Array Value) (n : Nat) (dd : Option Addr) (sl : Array (Option Value)) (u : Tok) :
    Meets (Builtin.«tuple.__mul__» ⟨[.ref l, .int 1 u], []⟩) (fun _ R s => s.heap.get? l = some { cls := .type "tuple", dict := dd, data := .seq items n, slots := sl } ∧ R (.ok (.ret (Value.ref l))) s) :=
  .of_wp fun prog w A R s h => by
    obtain ⟨hp, g, d, tk, os⟩ := s
    obtain ⟨hl, h⟩ := h
    have f1 := AutoSeq1.idx_int
    have c1 : (items.isEmpty || (1 : Int) == 1) = true := by simp
    wp_walk using wpAny_loadPart' hl
    exact ⟨_, rfl, h⟩
theorem tuple_mul0 (l : Addr) (items : Array Value) (n : Nat) (dd : Option Addr) (sl : Array (Option Value)) (u : Tok) (c1 : items.isEmpty = false) :
    Meets (Builtin.«tuple.__mul__» ⟨[.ref l, .int 0 u], []⟩) (fun _ R s => s.heap.get? l = some { cls := .type "tuple", dict := dd, data := .seq items n, slots := sl } ∧ R (.ok (.ret (Value.ref s.heap.objs.size))) { s with heap := s.heap.push { cls := Value.type "tuple", data := Data.seq #[] } }) :=
  .of_wp fun prog w A R s h => by
    obtain ⟨hp, g, d, tk, os⟩ := s
    obtain ⟨hl, h⟩ := h
    have f1 := AutoSeq1.idx_int
    have c2 : (items.isEmpty || (0 : Int) == 1) = false := by rw [c1]; rfl
    wp_walk using wpAny_loadPart' hl
    repeat (first
      | (refine wpAny_ite_false (decide_eq_false (by rw [c2]; exact Bool.false_ne_true)) ?_; wp_walk using wpAny_loadPart' hl))
    exact ⟨_, rfl, h⟩

section
variable {X : Cx}
/-- t * k, 0 <= k -/
def rRepA : R2 := fun x y H Q => ∃ (l : Addr) (k : Nat) (xs : List V), x = .ref l ∧ y = .int (k : Int) ∧ H l = some (.tup xs) ∧ xs ≠ [] ∧ k ≤ 1000 ∧ xs.length ≤ 1000 ∧
  ∀ p H', Same H H' → H' p = some (.tup (List.replicate k xs).flatten) → Q (.ref p) H'
theorem op_repA : OpR X (binaryOp .Mult) rRepA := by
  intro pins s σ H x y v u Q I rx ry h
  obtain ⟨l, k, xs, rfl, rfl, hT, hne, h2, hz, q⟩ := h
  by_cases hk : 2 ≤ k
  · exact op_repT pins s σ H _ _ v u Q I rx ry ⟨l, (k : Int), xs, rfl, rfl, SqT.of hT, hne, by omega, by omega, hz, fun p hp => q p _ (L2.Same.new1 hp) (by rw [upd_same, Int.toNat_natCast])⟩
  · cases rx
    obtain ⟨t, rfl⟩ := ry
    obtain ⟨its, r, ⟨⟨cls, dd, data, sl⟩, ho, hc, n, hd⟩, hs⟩ := I.tuple (SqT.of hT)
    simp only at hc hd
    subst hc hd
    have hle : its.length = xs.length := r.length.symm
    have hn : its ≠ [] := fun e => hne (by
      rw [e] at hle
      exact List.eq_nil_of_length_eq_zero hle.symm)
    have hi : its.toArray.isEmpty = false := by
      cases its with
      | nil => exact absurd rfl hn
      | cons a b => rfl
    rcases (show k = 0 ∨ k = 1 by omega) with e | e
    · subst e
      refine wpAny_binaryOp_repeat_ref (T := "tuple") (U := "int") (by decide) ⟨_, ho, rfl⟩ (fun s' => typeIs_int s' _ t) noFill_tuple_mul F.fills_int_mul F.slot_int_rmul repeat_tuple F.slot_int_index.lookup
        (call_meets F.slot_int_rmul (typeIs_int s _ t) F.entry_int_rmul (F.args_int_rmul_2 _ _) (int_rmul_tuple _ t l its.toArray n dd sl)
          ⟨ho, rfl, ⟨_, ho, rfl⟩, call_meets F.slot_tuple_mul ⟨_, ho, rfl⟩ F.entry_tuple_mul (F.args_tuple_mul_2 _ _) (tuple_mul0 l its.toArray n dd sl t hi) ⟨ho, ?_⟩⟩)
      have hf := I.hok.fresh (Nat.le_refl s.heap.objs.size)
      refine ⟨.ref s.heap.objs.size, _, I.laid (t' := s.toks) (o := .tup []) (fun b ob q => Heap.get?_push_of_some _ q) (Nat.le_refl _) ?_, rfl, q _ _ (L2.Same.new1 hf) (by rw [upd_same]; rfl)⟩
      exact ⟨Nat.zero_le _, [], .nil, IsTup.new _ _⟩
    · subst e
      refine wpAny_binaryOp_repeat_ref (T := "tuple") (U := "int") (by decide) ⟨_, ho, rfl⟩ (fun s' => typeIs_int s' _ t) noFill_tuple_mul F.fills_int_mul F.slot_int_rmul repeat_tuple F.slot_int_index.lookup
        (call_meets F.slot_int_rmul (typeIs_int s _ t) F.entry_int_rmul (F.args_int_rmul_2 _ _) (int_rmul_tuple _ t l its.toArray n dd sl)
          ⟨ho, rfl, ⟨_, ho, rfl⟩, call_meets F.slot_tuple_mul ⟨_, ho, rfl⟩ F.entry_tuple_mul (F.args_tuple_mul_2 _ _) (tuple_mul1 l its.toArray n dd sl t) ⟨ho, ?_⟩⟩)
      exact ⟨.ref l, H, I, rfl, q l H (Same.refl H) (by rw [hT]; simp)⟩
end
end K7
namespace K7
/-! ### data put into pages -/
theorem wb_num (k n nx m : Int) (d : List Int) : wb (hd k n nx ++ body d) 7 [m] = hd k m nx ++ body d := rfl
theorem wb_next (k n nx : Int) (m : Int) (d : List Int) : wb (hd k n nx ++ body d) 8 (b2 m) = hd k n m ++ body d := rfl
theorem wb_step {k n nx : Int} {d x : List Int} (h : d.length + x.length ≤ 116) : wb (hd k n nx ++ body d) (12 + d.length) x = hd k n nx ++ body (d ++ x) := by
  unfold wb body
  have e1 : (hd k n nx ++ (d ++ zs (116 - d.length))).take (12 + d.length) = hd k n nx ++ d := by
    rw [← List.append_assoc, List.take_left' (by rw [List.length_append, hd_len])]
  have e2 : (hd k n nx ++ (d ++ zs (116 - d.length))).drop (12 + d.length + x.length) = zs (116 - (d ++ x).length) := by
    rw [← List.append_assoc, List.drop_append, List.drop_of_length_le (by rw [List.length_append, hd_len]; omega), List.nil_append, List.length_append, hd_len, List.length_append]
    unfold zs
    rw [List.drop_replicate]
    congr 1
    omega
  rw [e1, e2, List.append_assoc, List.append_assoc]
theorem b2_len (x : Int) : (b2 x).length = 2 := rfl
theorem leafB_app (a b : List Ent) : leafB (a ++ b) = leafB a ++ leafB b := by unfold leafB; rw [List.map_append, List.flatten_append]
theorem leafB_one (e : Ent) : leafB [e] = entB e := by unfold leafB; simp
theorem take_snoc {α : Type} {l : List α} {i : Nat} {x : α} (h : l[i]? = some x) : l.take (i + 1) = l.take i ++ [x] := by
  rw [List.take_add_one, h]; rfl
theorem split_at {α : Type} {l : List α} {i : Nat} {x : α} (h : l[i]? = some x) : l = l.take i ++ x :: l.drop (i + 1) := by
  obtain ⟨hi, e⟩ := List.getElem?_eq_some_iff.mp h
  rw [← e, List.getElem_cons_drop, List.take_append_drop]
theorem lsz_one (e : Ent) : lsz [e] = esz e := by unfold lsz; simp
theorem lsz_take {es : List Ent} {i : Nat} {e : Ent} (h : es[i]? = some e) : lsz (es.take (i + 1)) = lsz (es.take i) + esz e := by rw [take_snoc h, lsz_app, lsz_one]
theorem lsz_take_le (es : List Ent) (i : Nat) : lsz (es.take i) ≤ lsz es := by
  have h := lsz_app (es.take i) (es.drop i)
  rw [List.take_append_drop] at h
  omega
theorem lsz_drop_le (es : List Ent) (i : Nat) : lsz (es.drop i) ≤ lsz es := by
  have h := lsz_app (es.take i) (es.drop i)
  rw [List.take_append_drop] at h
  omega
/-- where the i-th entry stands in a leaf -/
theorem leaf_split {es : List Ent} {nx : Nat} {i : Nat} {e : Ent} (h : es[i]? = some e) :
    ∃ A B, leafPg es nx = A ++ (entB e ++ B) ∧ A.length = 12 + lsz (es.take i) := by
  refine ⟨hd 3 es.length nx ++ leafB (es.take i), leafB (es.drop (i + 1)) ++ zs (116 - (leafB es).length), ?_, by rw [List.length_append, hd_len, leafB_len]⟩
  unfold leafPg body
  have e1 : leafB es = leafB (es.take i) ++ (entB e ++ leafB (es.drop (i + 1))) := by
    have h2 := congrArg leafB (split_at h)
    rw [leafB_app, show e :: es.drop (i + 1) = [e] ++ es.drop (i + 1) from rfl, leafB_app, leafB_one] at h2
    exact h2
  have e2 : ∀ z, leafB es ++ z = leafB (es.take i) ++ (entB e ++ (leafB (es.drop (i + 1)) ++ z)) := by
    intro z
    conv => lhs; rw [e1]
    simp only [List.append_assoc]
  rw [e2, List.append_assoc]
def pairsB (ps : List (Ent × Nat)) : List Int := (ps.map pairB).flatten
theorem pairsB_app (a b : List (Ent × Nat)) : pairsB (a ++ b) = pairsB a ++ pairsB b := by unfold pairsB; rw [List.map_append, List.flatten_append]
theorem pairsB_one (e : Ent × Nat) : pairsB [e] = pairB e := by unfold pairsB; simp
def psz (ps : List (Ent × Nat)) : Nat := (ps.map fun p => esz p.1 + 2).sum
theorem psz_app (a b : List (Ent × Nat)) : psz (a ++ b) = psz a + psz b := by unfold psz; rw [List.map_append, List.sum_append]
theorem psz_one (p : Ent × Nat) : psz [p] = esz p.1 + 2 := by unfold psz; simp
theorem psz_take {ps : List (Ent × Nat)} {i : Nat} {p : Ent × Nat} (h : ps[i]? = some p) : psz (ps.take (i + 1)) = psz (ps.take i) + (esz p.1 + 2) := by rw [take_snoc h, psz_app, psz_one]
theorem psz_take_le (ps : List (Ent × Nat)) (i : Nat) : psz (ps.take i) ≤ psz ps := by
  have h := psz_app (ps.take i) (ps.drop i)
  rw [List.take_append_drop] at h
  omega
theorem pairB_len (p : Ent × Nat) : (pairB p).length = esz p.1 + 2 := by unfold pairB; rw [List.length_append, entB_len, b2_len]
theorem pairsB_len (ps : List (Ent × Nat)) : (pairsB ps).length = psz ps := by
  induction ps with
  | nil => rfl
  | cons p ps ih =>
    rw [show p :: ps = [p] ++ ps from rfl, pairsB_app, psz_app, List.length_append, ih, pairsB_one, psz_one, pairB_len]
theorem psz_zip : ∀ (ws : List Ent) (ds : List Nat), ds.length = ws.length → psz (ws.zip ds) = lsz ws + 2 * ws.length
  | [], _, _ => rfl
  | w :: ws, [], h => by simp at h
  | w :: ws, d :: ds, h => by
    rw [List.zip_cons_cons, show (w, d) :: ws.zip ds = [(w, d)] ++ ws.zip ds from rfl, psz_app, psz_one, psz_zip ws ds (by simpa using h), lsz_cons, List.length_cons]
    show esz w + 2 + _ = _
    omega
theorem inner_split {ws : List Ent} {c : Nat} {ds : List Nat} {i : Nat} {e : Ent} {d : Nat} (h : (ws.zip ds)[i]? = some (e, d)) :
    ∃ A B, innerPg ws (c :: ds) = A ++ (entB e ++ (b2 (d : Int) ++ B)) ∧ A.length = 14 + psz ((ws.zip ds).take i) := by
  refine ⟨hd 4 ws.length 0 ++ (b2 (c : Int) ++ pairsB ((ws.zip ds).take i)), pairsB ((ws.zip ds).drop (i + 1)) ++ zs (116 - (innerB ws (c :: ds)).length), ?_, by rw [List.length_append, hd_len, List.length_append, b2_len, pairsB_len]; omega⟩
  unfold innerPg body
  have e1 : innerB ws (c :: ds) = b2 (c : Int) ++ (pairsB ((ws.zip ds).take i) ++ (entB e ++ (b2 (d : Int) ++ pairsB ((ws.zip ds).drop (i + 1))))) := by
    have h2 := congrArg pairsB (split_at h)
    rw [pairsB_app, show (e, d) :: (ws.zip ds).drop (i + 1) = [(e, d)] ++ (ws.zip ds).drop (i + 1) from rfl, pairsB_app, pairsB_one] at h2
    show b2 (c : Int) ++ pairsB (ws.zip ds) = _
    rw [h2]
    show _ ++ (_ ++ ((entB e ++ b2 (d : Int)) ++ _)) = _
    simp only [List.append_assoc]
  have e2 : ∀ z, innerB ws (c :: ds) ++ z = b2 (c : Int) ++ (pairsB ((ws.zip ds).take i) ++ (entB e ++ (b2 (d : Int) ++ (pairsB ((ws.zip ds).drop (i + 1)) ++ z)))) := by
    intro z
    conv => lhs; rw [e1]
    simp only [List.append_assoc]
  rw [e2]
  simp only [List.append_assoc]
theorem leafPg_kind (es : List Ent) (nx : Nat) : (leafPg es nx)[6]? = some 3 := rfl
theorem innerPg_kind (ws : List Ent) (cs : List Nat) : (innerPg ws cs)[6]? = some 4 := rfl
theorem leafPg_num (es : List Ent) (nx : Nat) : (leafPg es nx)[7]? = some (es.length : Int) := rfl
theorem innerPg_num (ws : List Ent) (cs : List Nat) : (innerPg ws cs)[7]? = some (ws.length : Int) := rfl
theorem leafPg_next (es : List Ent) {nx : Nat} (h : nx ≤ 65535) : numOf (((leafPg es nx).drop 8).take 2) = (nx : Int) := numOf_b2 (x := (nx : Int)) (by omega) (by omega)
theorem innerPg_first (ws : List Ent) (c : Nat) (ds : List Nat) (h : c ≤ 65535) : numOf (((innerPg ws (c :: ds)).drop 12).take 2) = (c : Int) := numOf_b2 (x := (c : Int)) (by omega) (by omega)

/-! ### halves -/
def dist (sz : List Int) (m : Nat) : Int := if sz.sum - 2 * (sz.take m).sum < 0 then -(sz.sum - 2 * (sz.take m).sum) else sz.sum - 2 * (sz.take m).sum
/-- the best of 1 .. m -/
def halfTo (sz : List Int) : Nat → Nat
  | 0 => 1
  | m + 1 => if dist sz (m + 2) < dist sz (halfTo sz m) then m + 2 else halfTo sz m
def half (sz : List Int) : Nat := halfTo sz (sz.length - 2)
theorem halfTo_in (sz : List Int) : ∀ m, 1 ≤ halfTo sz m ∧ halfTo sz m ≤ m + 1
  | 0 => ⟨Nat.le_refl _, Nat.le_refl _⟩
  | m + 1 => by
    have ih := halfTo_in sz m
    unfold halfTo
    split
    · omega
    · omega
theorem halfTo_best (sz : List Int) : ∀ m j, 1 ≤ j → j ≤ m + 1 → dist sz (halfTo sz m) ≤ dist sz j ∧ (j < halfTo sz m → dist sz (halfTo sz m) < dist sz j)
  | 0, j, h1, h2 => by
    have e : j = 1 := by omega
    subst e
    exact ⟨Int.le_refl _, fun h => absurd h (Nat.lt_irrefl _)⟩
  | m + 1, j, h1, h2 => by
    have hin := halfTo_in sz m
    unfold halfTo
    split
    · rename_i hc
      by_cases e : j = m + 2
      · subst e
        exact ⟨Int.le_refl _, fun h => absurd h (Nat.lt_irrefl _)⟩
      · have ih := halfTo_best sz m j h1 (by omega)
        exact ⟨by omega, fun _ => by omega⟩
    · rename_i hc
      by_cases e : j = m + 2
      · subst e
        exact ⟨by omega, fun h => by omega⟩
      · exact halfTo_best sz m j h1 (by omega)
theorem half_in {sz : List Int} (h : 2 ≤ sz.length) : 1 ≤ half sz ∧ half sz < sz.length := by
  have := halfTo_in sz (sz.length - 2)
  unfold half
  omega
theorem half_best {sz : List Int} (h : 2 ≤ sz.length) {j : Nat} (h1 : 1 ≤ j) (h2 : j < sz.length) : dist sz (half sz) ≤ dist sz j ∧ (j < half sz → dist sz (half sz) < dist sz j) :=
  halfTo_best sz (sz.length - 2) j h1 (by omega)
theorem half_uniq {sz : List Int} (h : 2 ≤ sz.length) {m : Nat} (h1 : 1 ≤ m) (h2 : m < sz.length) (b : ∀ j, 1 ≤ j → j < sz.length → dist sz m ≤ dist sz j ∧ (j < m → dist sz m < dist sz j)) : m = half sz := by
  have a := half_in h
  have c := half_best h h1 h2
  have d := b (half sz) a.1 a.2
  rcases Nat.lt_trichotomy m (half sz) with q | q | q
  · have := c.2 q
    omega
  · exact q
  · have := d.2 q
    omega
theorem sum_nonneg {sz : List Int} (h : ∀ x ∈ sz, 0 ≤ x) : 0 ≤ sz.sum := by
  induction sz with
  | nil => exact Int.le_refl _
  | cons x xs ih =>
    rw [List.sum_cons]
    have := ih fun y hy => h y (List.mem_cons_of_mem _ hy)
    have := h x List.mem_cons_self
    omega
theorem sum_take_succ {sz : List Int} {i : Nat} (h : i < sz.length) : (sz.take (i + 1)).sum = (sz.take i).sum + sz[i] := by
  rw [take_snoc (List.getElem?_eq_getElem h), List.sum_append]
  simp
/-- some place parts the sizes almost evenly -/
theorem even_at {sz : List Int} {M : Int} (hM0 : 0 ≤ M) (hM : ∀ x ∈ sz, 0 ≤ x ∧ x ≤ M) (hS : M < sz.sum) : ∃ j, 1 ≤ j ∧ j < sz.length ∧ dist sz j ≤ M := by
  have key : ∀ n, n ≤ sz.length → sz.sum - 2 * (sz.take n).sum < 0 → ∃ j, 1 ≤ j ∧ j ≤ n ∧ (0 ≤ sz.sum - 2 * (sz.take (j - 1)).sum) ∧ sz.sum - 2 * (sz.take j).sum < 0 := by
    intro n
    induction n with
    | zero =>
      intro _ h
      have h0 := sum_nonneg fun x hx => (hM x hx).1
      simp at h
      omega
    | succ n ih =>
      intro hn h
      by_cases q : sz.sum - 2 * (sz.take n).sum < 0
      · obtain ⟨j, a, b, c⟩ := ih (by omega) q
        exact ⟨j, a, by omega, c⟩
      · exact ⟨n + 1, by omega, Nat.le_refl _, by simpa using (by omega : 0 ≤ sz.sum - 2 * (sz.take n).sum), h⟩
  have hfull : sz.sum - 2 * (sz.take sz.length).sum < 0 := by
    rw [List.take_length]
    have h0 := sum_nonneg fun x hx => (hM x hx).1
    by_cases e : sz = []
    · subst e
      simp at hS
      omega
    · obtain ⟨x, hx⟩ := List.exists_mem_of_ne_nil sz e
      have := hM x hx
      omega
  obtain ⟨j, j1, j2, j3, j4⟩ := key sz.length (Nat.le_refl _) hfull
  have hj : j - 1 < sz.length := by omega
  have es := sum_take_succ hj
  rw [show j - 1 + 1 = j by omega] at es
  have hx := hM _ (List.getElem_mem hj)
  -- f (j-1) >= 0, f j < 0, and they differ by at most 2 M
  by_cases c : sz.sum - 2 * (sz.take (j - 1)).sum ≤ M
  · by_cases z : j = 1
    · subst z
      simp at c
      omega
    · refine ⟨j - 1, by omega, by omega, ?_⟩
      unfold dist
      rw [if_neg (by omega)]
      exact c
  · have hd : dist sz j ≤ M := by
      unfold dist
      rw [if_pos j4]
      omega
    by_cases z : j = sz.length
    · subst z
      rw [List.take_length] at j4 es
      exfalso
      omega
    · exact ⟨j, j1, by omega, hd⟩
/-- both parts are small -/
theorem half_small {sz : List Int} {M : Int} (hM0 : 0 ≤ M) (h2 : 2 ≤ sz.length) (hM : ∀ x ∈ sz, 0 ≤ x ∧ x ≤ M) (hS : M < sz.sum) : 2 * (sz.take (half sz)).sum ≤ sz.sum + M ∧ 2 * (sz.sum - (sz.take (half sz)).sum) ≤ sz.sum + M := by
  obtain ⟨j, j1, j2, j3⟩ := even_at hM0 hM hS
  have b := (half_best h2 j1 j2).1
  have d : dist sz (half sz) ≤ M := Int.le_trans b j3
  unfold dist at d
  split at d
  · omega
  · omega
end K7
namespace K7
open PySem PySem.Spec PyProof.Rows L2
/-- what a def makes: a value that R tells, all that stood stays -/
def Ret (H : Hp) (R : V → Hp → Prop) (Q : VK) : Prop := ∀ v H', Same H H' → R v H' → Q v H'
theorem Ret.go {H H1 : Hp} {R : V → Hp → Prop} {Q : VK} (k : Ret H R Q) (e : Same H H1) : Ret H1 R Q := fun v H' e' r => k v H' (e.trans e') r
section
variable {P : Program} {w : World} {K : PySem.W.Frag} {mg : Str → Option Value} {base : Heap} {C : Addr}

/-! ### is_number, check_number -/
def inB (x lo hi : Int) : Bool := decide (lo ≤ x) && decide (x ≤ hi)
theorem inB_true {x lo hi : Int} (h1 : lo ≤ x) (h2 : x ≤ hi) : inB x lo hi = true := by unfold inB; rw [decide_eq_true h1, decide_eq_true h2]; rfl
def spNum : Sp := fun vs H Q _ => ∃ x lo hi : Int, vs = [.int x, .int lo, .int hi] ∧ Q (.bl (inB x lo hi)) H
abbrev s_is_number : Stmt := top 7
abbrev N_is_number : List Str := ["thing", "least", "most"]
theorem sc_is_number : FnScope N_is_number ["thing", "least", "most"] (defScope s_is_number) := ⟨rfl, rfl, rfl, by decide +kernel, rfl, by decide +kernel, by decide +kernel⟩
theorem ok_is_number (F : At K mg "is_number" s_is_number) (T : Txt K mg C) : Df P w K mg base "is_number" 1 ["thing", "least", "most"] spNum := by
  refine F.df sc_is_number (fun _ _ _ _ _ _ us hl => match us, hl with | [_, _, _], _ => rfl) (fun vs H Q E h => ?_) (fun f cdv A outer s H vs Q E hr h => ?_)
  · obtain ⟨x, lo, hi, rfl, _⟩ := h; rfl
  · obtain ⟨x, lo, hi, rfl, k⟩ := h
    refine ⟨_, (pss_one (ps_ret (pe_and (pe_callB call_isi (by rfl) T.isinstance (by decide +kernel) (pa_cons (pv 0) (pa_cons (pe_bltn (v := .ty "int") rfl T.int (by decide +kernel) rfl) pa_nil))) (pe_and (pe_not (pe_callB call_isi (by rfl) T.isinstance (by decide +kernel) (pa_cons (pv 0) (pa_cons (pe_bltn (v := .ty "bool") rfl T.bool (by decide +kernel) rfl) pa_nil)))) (pe_one (pe_chain op_le op_le (pv 1) (pv 0) (pv 2))))))), ?_⟩
    refine ⟨_, rfl, _, _, .type "int", .type "int", true, rfl, .ty _, .base (.int _), kit_ty (by decide +kernel), true, rfl, iteT ?_⟩
    refine ⟨_, rfl, _, _, .type "int", .type "bool", false, rfl, .ty _, .base (.int _), kit_ty (by decide +kernel), false, rfl, true, rfl, iteT ?_⟩
    refine ⟨_, rfl, _, rfl, _, _, rfl, rfl, _, rfl, ?_⟩
    unfold inB at k
    by_cases h1 : lo ≤ x
    · rw [decide_eq_true h1] at k ⊢
      refine iteT ⟨_, rfl, _, _, rfl, rfl, ?_⟩
      rw [Bool.true_and] at k
      exact k
    · rw [decide_eq_false h1] at k ⊢
      exact iteF k
def spChkNum : Sp := fun vs H Q _ => ∃ x lo hi : Int, vs = [.int x, .int lo, .int hi] ∧ lo ≤ x ∧ x ≤ hi ∧ Q .non H
abbrev s_check_number : Stmt := top 8
abbrev N_check_number : List Str := ["thing", "least", "most"]
theorem sc_check_number : FnScope N_check_number ["thing", "least", "most"] (defScope s_check_number) := ⟨rfl, rfl, rfl, by decide +kernel, rfl, by decide +kernel, by decide +kernel⟩
theorem ok_check_number (F : At K mg "check_number" s_check_number) (T : Txt K mg C) (D_is_number : Df P w K mg base "is_number" 1 ["thing", "least", "most"] spNum) : Df P w K mg base "check_number" 2 ["thing", "least", "most"] spChkNum := by
  refine F.df sc_check_number (fun _ _ _ _ _ _ us hl => match us, hl with | [_, _, _], _ => rfl) (fun vs H Q E h => ?_) (fun f cdv A outer s H vs Q E hr h => ?_)
  · obtain ⟨x, lo, hi, rfl, _⟩ := h; rfl
  · obtain ⟨x, lo, hi, rfl, h1, h2, k⟩ := h
    refine ⟨_, (pss_one (ps_if (pt_not (pt_val (pe_cd D_is_number (hr.mono (by omega)) (pa_cons (pv 0) (pa_cons (pv 1) (pa_cons (pv 2) pa_nil))))))
  (pss_one ps_never)
  pss_nil)), ?_⟩
    refine ⟨_, rfl, _, rfl, _, rfl, x, lo, hi, rfl, _, rfl, ?_⟩
    rw [inB_true h1 h2]
    exact iteF k
/-! ### are_bytes -/
def spBytes : Sp := fun vs H Q _ => ∃ v ns, vs = [v] ∧ IsI H v ns ∧ ns.length ≤ 1000 ∧ (∀ b ∈ ns, byteB b) ∧ ∀ H', Same H H' → Q (.bl true) H'
abbrev s_are_bytes : Stmt := top 9
abbrev N_are_bytes : List Str := ["thing", "one"]
theorem sc_are_bytes : FnScope N_are_bytes ["thing"] (defScope s_are_bytes) := ⟨rfl, rfl, rfl, by decide +kernel, rfl, by decide +kernel, by decide +kernel⟩
theorem ok_are_bytes (F : At K mg "are_bytes" s_are_bytes) (T : Txt K mg C) (D_is_number : Df P w K mg base "is_number" 1 ["thing", "least", "most"] spNum) : Df P w K mg base "are_bytes" 2 ["thing"] spBytes := by
  refine F.df sc_are_bytes (fun _ _ _ _ _ _ us hl => match us, hl with | [_], _ => rfl) (fun vs H Q E h => ?_) (fun f cdv A outer s H vs Q E hr h => ?_)
  · obtain ⟨v, ns, rfl, _⟩ := h; rfl
  · obtain ⟨v, ns, rfl, ⟨a, rfl, ha⟩, hl, hb, k⟩ := h
    refine ⟨_, (pss_one (ps_ret (pe_and (pe_callB call_isi (by rfl) T.isinstance (by decide +kernel) (pa_cons (pv 0) (pa_cons (pe_bltn (v := .ty "tuple") rfl T.tuple (by decide +kernel) rfl) pa_nil))) (pe_one (pe_callB (cr_all rfl) (by rfl) T.all (by decide +kernel) (pa_cons (pe_lc (own := [("one", 1)]) (g := gName 1) (tt := tYes) rfl sc_are_bytes.nd (pi_tup (pv 0)) (blkOk_by (own := [("one", 1)]) (N := N_are_bytes) (sc := defScope s_are_bytes) (by decide +kernel)) (fun _ _ _ _ _ => pg_name (i := 1) sc_are_bytes.nd rfl (Or.inl rfl)) (fun _ _ _ _ _ => pts_nil) (fun _ _ _ _ _ => (pe_cd D_is_number (hr.mono (by omega)) (pa_cons (pv 1) (pa_cons pe_int (pa_cons pe_int pa_nil)))))) pa_nil)))))), ?_⟩
    refine ⟨_, rfl, _, _, .type "tuple", .type "tuple", true, rfl, .ty _, .base (.tup ha), kit_ty (by decide +kernel), true, rfl, iteT ?_⟩
    refine ⟨_, rfl, a, rfl, ⟨_, SqT.of ha⟩, fun D hD => lc_tup (xs := iv ns) (fun i H' => Same H H' ∧ H' D = some (.lst (List.replicate i (.bl true))) ∧ i ≤ ns.length) ⟨L2.Same.new1 hD, upd_same, Nat.zero_le _⟩ (fun i H' _ z => SqT.of (z.1 _ _ ha)) ?_ ?_⟩
    · intro i x H' hx ⟨z1, z2, z3⟩
      unfold iv at hx
      rw [List.getElem?_map] at hx
      obtain ⟨b, hb1, rfl⟩ := Option.map_eq_some_iff.mp hx
      have hbb := hb b (List.mem_of_getElem? hb1)
      have hi := (List.getElem?_eq_some_iff.mp hb1).1
      refine ⟨rfl, ?_⟩
      refine ⟨_, rfl, b, 0, 255, rfl, _, z2, sz_lt (by rw [List.length_replicate]; omega), L2.Same.mut z1 hD, ?_, hi⟩
      rw [upd_same, inB_true hbb.1 hbb.2, List.replicate_succ']
    · intro H' ⟨z1, z2, z3⟩
      rw [iv_len] at z2
      refine ⟨D, List.replicate ns.length true, rfl, SqL.of (by rw [z2, List.map_replicate]), ?_⟩
      have e : (List.replicate ns.length true).all id = true := by simp
      rw [e]
      exact k _ z1
/-! ### bytes_of, number_of -/
def spB2 : Sp := fun vs H Q _ => ∃ x : Int, vs = [.int x, .int 2] ∧ 0 ≤ x ∧ Ret H (fun v H' => IsI H' v (b2 x)) Q
abbrev s_bytes_of : Stmt := top 10
abbrev N_bytes_of : List Str := ["number", "width", "found", "turn"]
theorem sc_bytes_of : FnScope N_bytes_of ["number", "width"] (defScope s_bytes_of) := ⟨rfl, rfl, rfl, by decide +kernel, rfl, by decide +kernel, by decide +kernel⟩
def dg (x : Int) : Nat → List Int
  | 0 => []
  | i + 1 => dg x i ++ [x / 256 ^ i % 256]
theorem dg_len (x : Int) : ∀ i, (dg x i).length = i
  | 0 => rfl
  | i + 1 => by unfold dg; rw [List.length_append, dg_len x i]; rfl
theorem ok_bytes_of (F : At K mg "bytes_of" s_bytes_of) (T : Txt K mg C) : Df P w K mg base "bytes_of" 1 ["number", "width"] spB2 := by
  refine F.df sc_bytes_of (fun _ _ _ _ _ _ us hl => match us, hl with | [_, _], _ => rfl) (fun vs H Q E h => ?_) (fun f cdv A outer s H vs Q E hr h => ?_)
  · obtain ⟨x, rfl, _⟩ := h; rfl
  · obtain ⟨x, rfl, h0, k⟩ := h
    refine ⟨_, (pss_cons (ps_set (i := 2) sc_bytes_of.nd rfl (Or.inl rfl) (pe_lst pa_nil))
  (pss_cons (ps_for PassesOwn.never rfl (pi_range1 rfl T.range (pa_cons (pv 1) pa_nil)) (pg_name (i := 3) sc_bytes_of.nd rfl (Or.inl rfl))
  (pss_cons (ps_expr (pe_bm PySem.F.plainAttrs_list PySem.F.slot_list_append PySem.F.type_list_append mt_append (pv 2) (pa_cons (pe_op op_mod (pv 0) pe_int) pa_nil)))
  (pss_one (ps_aug (i := 0) sc_bytes_of.nd rfl (Or.inl rfl) pe_int ip_fdiv))))
  (pss_one (ps_ret (pe_callTy call_tuple_of (by rfl) T.tuple (by decide +kernel) (pa_cons (pe_revL (pv 2)) pa_nil)))))), ?_⟩
    refine ⟨Nat.zero_le _, fun p hp => ?_⟩
    refine ⟨_, rfl, 2, rfl, by decide, by decide, for_range (lo := 0) (n := 2) (fun i σ H' => ∃ t, σ = [some (.int (x / 256 ^ i)), some (.int 2), some (.ref p), t] ∧ Same H H' ∧ H' p = some (.lst (iv (dg x i))))
      ⟨none, by rw [show (256 : Int) ^ 0 = 1 from rfl, Int.ediv_one]; rfl, L2.Same.new1 hp, upd_same⟩ ?_ ?_⟩
    · rintro i σ H' hi ⟨t, rfl, z1, z2⟩
      refine ⟨_, rfl, .inl ⟨rfl, _, SqL.of z2⟩, _, rfl, _, _, rfl, rfl, (by show (0 : Int) < 256; decide), p, _, _, rfl, rfl, z2, sz_lt (by rw [iv_len, dg_len]; omega), ?_⟩
      refine ⟨_, rfl, _, _, rfl, rfl, (by decide), (by decide), ?_⟩
      refine ⟨some (.int (0 + (i : Int))), ?_, L2.Same.mut z1 hp, ?_⟩
      · show [some (V.int (x / 256 ^ i / 256)), _, _, _] = _
        rw [Int.ediv_ediv_of_nonneg (Int.le_of_lt (Int.pow_pos (by decide))), ← Int.pow_succ]
      · rw [upd_same]
        show _ = some (HO.lst (iv (dg x i ++ [x / 256 ^ i % 256])))
        rw [← iv_app]
        rfl
    · rintro σ H' ⟨t, rfl, z1, z2⟩
      refine ⟨_, rfl, p, _, rfl, SqL.of z2, fun q hq => ⟨q, _, rfl, .inl ⟨SqL.of upd_same, fun l hl => k _ _ ((L2.Same.new z1 hq).new hl) ⟨l, rfl, ?_⟩⟩⟩⟩
      rw [upd_same]
      have e1 : x / 256 ^ 1 = x / 256 := by rw [Int.pow_succ, Int.pow_zero, Int.one_mul]
      have e0 : x / 256 ^ 0 = x := by rw [Int.pow_zero, Int.ediv_one]
      have e : dg x 2 = [x % 256, x / 256 % 256] := by
        show [x / 256 ^ 0 % 256, x / 256 ^ 1 % 256] = _
        rw [e0, e1]
      rw [e]
      rfl
def spNumOf : Sp := fun vs H Q _ => ∃ v ns, vs = [v] ∧ IsI H v ns ∧ Q (.int (numOf ns)) H
abbrev s_number_of : Stmt := top 11
abbrev N_number_of : List Str := ["data", "found", "one"]
theorem sc_number_of : FnScope N_number_of ["data"] (defScope s_number_of) := ⟨rfl, rfl, rfl, by decide +kernel, rfl, by decide +kernel, by decide +kernel⟩
theorem numOf_snoc (l : List Int) (x : Int) : numOf (l ++ [x]) = numOf l * 256 + x := by unfold numOf; rw [List.foldl_append]; rfl
theorem ok_number_of (F : At K mg "number_of" s_number_of) (T : Txt K mg C) : Df P w K mg base "number_of" 1 ["data"] spNumOf := by
  refine F.df sc_number_of (fun _ _ _ _ _ _ us hl => match us, hl with | [_], _ => rfl) (fun vs H Q E h => ?_) (fun f cdv A outer s H vs Q E hr h => ?_)
  · obtain ⟨v, ns, rfl, _⟩ := h; rfl
  · obtain ⟨v, ns, rfl, ⟨a, rfl, ha⟩, k⟩ := h
    refine ⟨_, (pss_cons (ps_set (i := 1) sc_number_of.nd rfl (Or.inl rfl) pe_int)
  (pss_cons (ps_for PassesOwn.never rfl (pi_tup (pv 0)) (pg_name (i := 2) sc_number_of.nd rfl (Or.inl rfl))
  (pss_one (ps_set (i := 1) sc_number_of.nd rfl (Or.inl rfl) (pe_op op_add (pe_op op_mul (pv 1) pe_int) (pv 2)))))
  (pss_one (ps_ret (pv 1))))), ?_⟩
    refine ⟨_, rfl, a, rfl, ⟨_, SqT.of ha⟩, for_tup (xs := iv ns) (fun i σ H' => ∃ t, σ = [some (.ref a), some (.int (numOf (ns.take i))), t] ∧ H' = H) ⟨none, rfl, rfl⟩ (fun i σ H' _ ⟨_, _, e⟩ => by rw [e]; exact SqT.of ha) ?_ ?_⟩
    · rintro i y σ H' hi ⟨t, rfl, rfl⟩
      unfold iv at hi
      rw [List.getElem?_map] at hi
      obtain ⟨b, hb1, rfl⟩ := Option.map_eq_some_iff.mp hi
      refine ⟨_, rfl, _, _, rfl, rfl, .inr ⟨by decide, by decide⟩, _, rfl, _, _, rfl, rfl, ?_⟩
      refine ⟨some (.int b), ?_, rfl⟩
      rw [List.take_add_one, hb1]
      show _ = [_, some (V.int (numOf (ns.take i ++ [b]))), _]
      rw [numOf_snoc]
      rfl
    · rintro σ H' ⟨t, rfl, rfl⟩
      rw [iv_len, List.take_length]
      exact ⟨_, rfl, k⟩
end
end K7
namespace K7
open PySem PySem.Spec PyProof.Rows L2
section
variable {P : Program} {w : World} {K : PySem.W.Frag} {mg : Str → Option Value} {base : Heap} {C : Addr}
/-! ### slots: pages as tuples -/
def spIsPage : Sp := fun vs H Q _ => ∃ v ns, vs = [v] ∧ IsI H v ns ∧ Pg ns ∧ ∀ H', Same H H' → Q (.bl true) H'
abbrev s_is_page : Stmt := top 20
abbrev N_is_page : List Str := ["thing"]
theorem sc_is_page : FnScope N_is_page ["thing"] (defScope s_is_page) := ⟨rfl, rfl, rfl, by decide +kernel, rfl, by decide +kernel, by decide +kernel⟩
theorem ok_is_page (F : At K mg "is_page" s_is_page) (T : Txt K mg C) (D_are_bytes : Df P w K mg base "are_bytes" 2 ["thing"] spBytes) : Df P w K mg base "is_page" 3 ["thing"] spIsPage := by
  refine F.df sc_is_page (fun _ _ _ _ _ _ us hl => match us, hl with | [_], _ => rfl) (fun vs H Q E h => ?_) (fun f cdv A outer s H vs Q E hr h => ?_)
  · obtain ⟨v, ns, rfl, _⟩ := h; rfl
  · obtain ⟨v, ns, rfl, hv, hp, k⟩ := h
    refine ⟨_, (pss_one (ps_ret (pe_and (pe_cd D_are_bytes (hr.mono (by omega)) (pa_cons (pv 0) pa_nil)) (pe_one (pe_cmpR op_eq (pe_callB call_len (by rfl) T.len (by decide +kernel) (pa_cons (pv 0) pa_nil)) (pe_glI T.c_PAGE_SIZE) (nomark _)))))), ?_⟩
    refine ⟨_, rfl, v, ns, rfl, hv, by rw [hp.len]; decide, hp.bytes, fun H1 e1 => ⟨true, rfl, iteT ?_⟩⟩
    obtain ⟨a, rfl, ha⟩ := hv
    refine ⟨_, rfl, _, 128, rfl, .inr ⟨_, SqT.of (e1 _ _ ha), by rw [iv_len, hp.len]⟩, rfl, ?_⟩
    exact k _ e1
def spChkPage : Sp := fun vs H Q _ => ∃ v ns, vs = [v] ∧ IsI H v ns ∧ Pg ns ∧ ∀ H', Same H H' → Q .non H'
abbrev s_check_page : Stmt := top 21
abbrev N_check_page : List Str := ["page"]
theorem sc_check_page : FnScope N_check_page ["page"] (defScope s_check_page) := ⟨rfl, rfl, rfl, by decide +kernel, rfl, by decide +kernel, by decide +kernel⟩
theorem ok_check_page (F : At K mg "check_page" s_check_page) (T : Txt K mg C) (D_is_page : Df P w K mg base "is_page" 3 ["thing"] spIsPage) : Df P w K mg base "check_page" 4 ["page"] spChkPage := by
  refine F.df sc_check_page (fun _ _ _ _ _ _ us hl => match us, hl with | [_], _ => rfl) (fun vs H Q E h => ?_) (fun f cdv A outer s H vs Q E hr h => ?_)
  · obtain ⟨v, ns, rfl, _⟩ := h; rfl
  · obtain ⟨v, ns, rfl, hv, hp, k⟩ := h
    refine ⟨_, (pss_one (ps_if (pt_not (pt_val (pe_cd D_is_page (hr.mono (by omega)) (pa_cons (pv 0) pa_nil))))
  (pss_one ps_never)
  pss_nil)), ?_⟩
    exact ⟨_, rfl, v, ns, rfl, hv, hp, fun H1 e1 => ⟨true, rfl, iteF (k _ e1)⟩⟩
theorem isI_new {H : Hp} {p : Addr} {ns : List Int} {xs : List V} (h : xs = iv ns) : IsI (upd H p (.tup xs)) (.ref p) ns := ⟨p, rfl, by rw [upd_same, h]⟩
def spWb : Sp := fun vs H Q _ => ∃ v ns at_ d ds, vs = [v, .int ((at_ : Nat) : Int), d] ∧ IsI H v ns ∧ IsI H d ds ∧ ns.length ≤ 1000 ∧ ds.length ≤ 1000 ∧ Ret H (fun v H' => IsI H' v (wb ns at_ ds)) Q
abbrev s_with_bytes : Stmt := top 22
abbrev N_with_bytes : List Str := ["page", "at", "data"]
theorem sc_with_bytes : FnScope N_with_bytes ["page", "at", "data"] (defScope s_with_bytes) := ⟨rfl, rfl, rfl, by decide +kernel, rfl, by decide +kernel, by decide +kernel⟩
theorem ok_with_bytes (F : At K mg "with_bytes" s_with_bytes) (T : Txt K mg C)  : Df P w K mg base "with_bytes" 1 ["page", "at", "data"] spWb := by
  refine F.df sc_with_bytes (fun _ _ _ _ _ _ us hl => match us, hl with | [_, _, _], _ => rfl) (fun vs H Q E h => ?_) (fun f cdv A outer s H vs Q E hr h => ?_)
  · obtain ⟨v, ns, at_, d, ds, rfl, _⟩ := h; rfl
  · obtain ⟨v, ns, at_, d, ds, rfl, ⟨a, rfl, ha⟩, ⟨b, rfl, hb⟩, l1, l2, k⟩ := h
    refine ⟨_, (pss_one (ps_ret (pe_tup (StX.pa_star (pe_slice sl_tupA (pv 0) po_none (po_some (pv 1))) (StX.pa_star (pv 2) (StX.pa_star (pe_slice sl_tupA (pv 0) (po_some (pe_op op_add (pv 1) (pe_callB call_len (by rfl) T.len (by decide +kernel) (pa_cons (pv 2) pa_nil)))) po_none) pa_nil)))))), ?_⟩
    refine ⟨_, rfl, _, rfl, _, rfl, slA ha fun p H1 e1 h1 => ?_⟩
    refine ⟨p, _, rfl, .inl (SqT.of h1), ?_⟩
    refine ⟨_, rfl, b, _, rfl, .inl (SqT.of (e1 _ _ hb)), ?_⟩
    refine ⟨_, rfl, _, rfl, _, rfl, _, ds.length, rfl, .inr ⟨_, SqT.of (e1 _ _ hb), (iv_len ds).symm⟩, _, _, rfl, rfl, _, rfl, slF (e1 _ _ ha) fun q H2 e2 h2 => ?_⟩
    refine ⟨q, _, rfl, .inl (SqT.of h2), ?_⟩
    have e3 : cutV (iv ns) (some ((at_ : Int) + (ds.length : Int))) none = iv (ns.drop (at_ + ds.length)) := by
      rw [show (at_ : Int) + (ds.length : Int) = ((at_ + ds.length : Nat) : Int) by omega, cut_from, iv_drop]
    have e4 : cutV (iv ns) none (some (at_ : Int)) ++ (iv ds ++ (cutV (iv ns) (some ((at_ : Int) + (ds.length : Int))) none ++ [])) = iv (wb ns at_ ds) := by
      rw [e3, List.append_nil, cut_to, iv_take, iv_app, iv_app]
      rfl
    refine ⟨?_, fun r hr => ?_⟩
    · have e5 := congrArg List.length e4
      rw [iv_len] at e5
      refine Nat.le_trans (Nat.le_of_eq e5) (sz_of ?_)
      unfold wb
      rw [List.length_append, List.length_append, List.length_take, List.length_drop]
      omega
    · exact k _ _ ((e1.trans e2).new hr) (isI_new e4)
def spBlank : Sp := fun vs H Q _ => ∃ x : Int, vs = [.int x] ∧ 0 ≤ x ∧ x ≤ 4 ∧ Ret H (fun v H' => IsI H' v (blankPg x)) Q
abbrev s_blank_page : Stmt := top 23
abbrev N_blank_page : List Str := ["kind", "page"]
theorem sc_blank_page : FnScope N_blank_page ["kind"] (defScope s_blank_page) := ⟨rfl, rfl, rfl, by decide +kernel, rfl, by decide +kernel, by decide +kernel⟩
theorem blank_eq (x : Int) : wb (wb (List.replicate 128 0) 6 [x]) 10 (b2 128) = blankPg x := rfl
theorem ok_blank_page (F : At K mg "blank_page" s_blank_page) (T : Txt K mg C) (D_check_number : Df P w K mg base "check_number" 2 ["thing", "least", "most"] spChkNum) (D_with_bytes : Df P w K mg base "with_bytes" 1 ["page", "at", "data"] spWb) (D_bytes_of : Df P w K mg base "bytes_of" 1 ["number", "width"] spB2) : Df P w K mg base "blank_page" 3 ["kind"] spBlank := by
  refine F.df sc_blank_page (fun _ _ _ _ _ _ us hl => match us, hl with | [_], _ => rfl) (fun vs H Q E h => ?_) (fun f cdv A outer s H vs Q E hr h => ?_)
  · obtain ⟨x, rfl, _⟩ := h; rfl
  · obtain ⟨x, rfl, h0, h1, k⟩ := h
    refine ⟨_, (pss_cons (ps_expr (pe_cd D_check_number (hr.mono (by omega)) (pa_cons (pv 0) (pa_cons (pe_glI T.c_BLANK) (pa_cons (pe_glI T.c_INNER) pa_nil)))))
  (pss_cons (ps_set (i := 1) sc_blank_page.nd rfl (Or.inl rfl) (pe_op op_repA (pe_tup (pa_cons pe_int pa_nil)) (pe_glI T.c_PAGE_SIZE)))
  (pss_one (ps_ret (pe_cd D_with_bytes (hr.mono (by omega)) (pa_cons (pe_cd D_with_bytes (hr.mono (by omega)) (pa_cons (pv 1) (pa_cons pe_int (pa_cons (pe_tup (pa_cons (pv 0) pa_nil)) pa_nil)))) (pa_cons pe_int (pa_cons (pe_cd D_bytes_of (hr.mono (by omega)) (pa_cons (pe_glI T.c_PAGE_SIZE) (pa_cons pe_int pa_nil))) pa_nil)))))))), ?_⟩
    refine ⟨_, rfl, x, 0, 4, rfl, h0, h1, ?_⟩
    refine ⟨by decide, fun p hp => ?_⟩
    refine ⟨p, 128, _, rfl, rfl, upd_same, (by exact fun z => nomatch z), by decide, by decide, fun q H1 e1 hq => ?_⟩
    have e0 : Same H H1 := (L2.Same.new1 hp).trans e1
    have hq' : IsI H1 (.ref q) (List.replicate 128 0) := ⟨q, rfl, by rw [hq]; rfl⟩
    refine ⟨_, rfl, _, rfl, (by show 1 ≤ sizeLine; decide), fun r hr' => ?_⟩
    refine ⟨.ref q, List.replicate 128 0, 6, .ref r, [x], rfl, hq'.same (L2.Same.new1 hr'), isI_new rfl, by decide, (by show 1 ≤ 1000; decide), fun v H2 e2 h2 => ?_⟩
    refine ⟨128, rfl, by decide, fun u H3 e3 h3 => ?_⟩
    refine ⟨v, _, 10, u, b2 128, rfl, h2.same e3, h3, (by show 128 ≤ 1000; decide), by decide, fun t H4 e4 h4 => ?_⟩
    rw [blank_eq] at h4
    exact k _ _ ((((e0.new hr').trans e2).trans e3).trans e4) h4
def spKind : Sp := fun vs H Q _ => ∃ v ns x, vs = [v] ∧ IsI H v ns ∧ ns[6]? = some x ∧ Q (.int x) H
abbrev s_kind_of : Stmt := top 24
abbrev N_kind_of : List Str := ["page"]
theorem sc_kind_of : FnScope N_kind_of ["page"] (defScope s_kind_of) := ⟨rfl, rfl, rfl, by decide +kernel, rfl, by decide +kernel, by decide +kernel⟩
theorem ok_kind_of (F : At K mg "kind_of" s_kind_of) (T : Txt K mg C)  : Df P w K mg base "kind_of" 1 ["page"] spKind := by
  refine F.df sc_kind_of (fun _ _ _ _ _ _ us hl => match us, hl with | [_], _ => rfl) (fun vs H Q E h => ?_) (fun f cdv A outer s H vs Q E hr h => ?_)
  · obtain ⟨v, ns, x, rfl, _⟩ := h; rfl
  · obtain ⟨v, ns, x, rfl, ⟨a, rfl, ha⟩, hx, k⟩ := h
    refine ⟨_, (pss_one (ps_ret (pe_ix ix_tup (pv 0) pe_int (fun _ _ => rfl)))), ?_⟩
    exact ⟨_, rfl, a, _, 6, _, rfl, rfl, SqT.of ha, atI_nat (j := 6) (iv_get hx), k⟩
def spNext : Sp := fun vs H Q _ => ∃ v ns, vs = [v] ∧ IsI H v ns ∧ 10 ≤ ns.length ∧ ∀ H', Same H H' → Q (.int (numOf ((ns.drop 8).take 2))) H'
abbrev s_next_of : Stmt := top 25
abbrev N_next_of : List Str := ["page"]
theorem sc_next_of : FnScope N_next_of ["page"] (defScope s_next_of) := ⟨rfl, rfl, rfl, by decide +kernel, rfl, by decide +kernel, by decide +kernel⟩
theorem ok_next_of (F : At K mg "next_of" s_next_of) (T : Txt K mg C) (D_number_of : Df P w K mg base "number_of" 1 ["data"] spNumOf) : Df P w K mg base "next_of" 2 ["page"] spNext := by
  refine F.df sc_next_of (fun _ _ _ _ _ _ us hl => match us, hl with | [_], _ => rfl) (fun vs H Q E h => ?_) (fun f cdv A outer s H vs Q E hr h => ?_)
  · obtain ⟨v, ns, rfl, _⟩ := h; rfl
  · obtain ⟨v, ns, rfl, ⟨a, rfl, ha⟩, hl, k⟩ := h
    refine ⟨_, (pss_one (ps_ret (pe_cd D_number_of (hr.mono (by omega)) (pa_cons (pe_slice sl_tupA (pv 0) (po_some pe_int) (po_some pe_int)) pa_nil)))), ?_⟩
    refine ⟨_, rfl, _, rfl, _, rfl, slA ha fun p H1 e1 h1 => ?_⟩
    rw [show (8 : Int) = ((8 : Nat) : Int) from rfl, show (10 : Int) = ((10 : Nat) : Int) from rfl, cut_mid 8 10 (by rw [iv_len]; exact hl) (by decide), iv_drop, iv_take] at h1
    exact ⟨.ref p, _, rfl, ⟨p, rfl, h1⟩, k _ e1⟩
def spWithNext : Sp := fun vs H Q _ => ∃ v ns n, vs = [v, .int n] ∧ 0 ≤ n ∧ n ≤ 65535 ∧ IsI H v ns ∧ ns.length ≤ 1000 ∧ Ret H (fun v H' => IsI H' v (wb ns 8 (b2 n))) Q
abbrev s_with_next : Stmt := top 26
abbrev N_with_next : List Str := ["page", "number"]
theorem sc_with_next : FnScope N_with_next ["page", "number"] (defScope s_with_next) := ⟨rfl, rfl, rfl, by decide +kernel, rfl, by decide +kernel, by decide +kernel⟩
theorem ok_with_next (F : At K mg "with_next" s_with_next) (T : Txt K mg C) (D_check_number : Df P w K mg base "check_number" 2 ["thing", "least", "most"] spChkNum) (D_with_bytes : Df P w K mg base "with_bytes" 1 ["page", "at", "data"] spWb) (D_bytes_of : Df P w K mg base "bytes_of" 1 ["number", "width"] spB2) : Df P w K mg base "with_next" 3 ["page", "number"] spWithNext := by
  refine F.df sc_with_next (fun _ _ _ _ _ _ us hl => match us, hl with | [_, _], _ => rfl) (fun vs H Q E h => ?_) (fun f cdv A outer s H vs Q E hr h => ?_)
  · obtain ⟨v, ns, n, rfl, _⟩ := h; rfl
  · obtain ⟨v, ns, n, rfl, h0, h1, hv, hl, k⟩ := h
    refine ⟨_, (pss_cons (ps_expr (pe_cd D_check_number (hr.mono (by omega)) (pa_cons (pv 1) (pa_cons pe_int (pa_cons (pe_glI T.c_MOST_PAGE) pa_nil)))))
  (pss_one (ps_ret (pe_cd D_with_bytes (hr.mono (by omega)) (pa_cons (pv 0) (pa_cons pe_int (pa_cons (pe_cd D_bytes_of (hr.mono (by omega)) (pa_cons (pv 1) (pa_cons pe_int pa_nil))) pa_nil))))))), ?_⟩
    refine ⟨_, rfl, _, 0, 65535, rfl, h0, h1, ?_⟩
    refine ⟨_, rfl, _, rfl, _, rfl, h0, fun u H1 e1 z1 => ?_⟩
    exact ⟨_, _, 8, u, _, rfl, hv.same e1, z1, hl, by show 2 ≤ 1000; decide, k.go e1⟩
end
end K7
namespace K7
open PySem PySem.Spec PyProof.Rows L2
theorem ifT {c : Prop} [Decidable c] {A B : Prop} (hc : c) (h : A) : if decide c = true then A else B := by
  rw [decide_eq_true hc]
  exact iteT h
theorem ifF {c : Prop} [Decidable c] {A B : Prop} (hc : ¬ c) (h : B) : if decide c = true then A else B := by
  rw [decide_eq_false hc]
  exact iteF h
section
variable {P : Program} {w : World} {K : PySem.W.Frag} {mg : Str → Option Value} {base : Heap} {C : Addr}
/-! ### keys, spots, entries -/
def spIsKey : Sp := fun vs H Q _ => ∃ v ns, vs = [v] ∧ IsI H v ns ∧ 1 ≤ ns.length ∧ ns.length ≤ 20 ∧ (∀ b ∈ ns, byteB b) ∧ ∀ H', Same H H' → Q (.bl true) H'
abbrev s_is_key : Stmt := top 31
abbrev N_is_key : List Str := ["thing"]
theorem sc_is_key : FnScope N_is_key ["thing"] (defScope s_is_key) := ⟨rfl, rfl, rfl, by decide +kernel, rfl, by decide +kernel, by decide +kernel⟩
theorem ok_is_key (F : At K mg "is_key" s_is_key) (T : Txt K mg C) (D_are_bytes : Df P w K mg base "are_bytes" 2 ["thing"] spBytes) : Df P w K mg base "is_key" 3 ["thing"] spIsKey := by
  refine F.df sc_is_key (fun _ _ _ _ _ _ us hl => match us, hl with | [_], _ => rfl) (fun vs H Q E h => ?_) (fun f cdv A outer s H vs Q E hr h => ?_)
  · obtain ⟨v, ns, rfl, _⟩ := h; rfl
  · obtain ⟨v, ns, rfl, hv, h1, h2, hb, k⟩ := h
    refine ⟨_, (pss_one (ps_ret (pe_and (pe_cd D_are_bytes (hr.mono (by omega)) (pa_cons (pv 0) pa_nil)) (pe_one (pe_chain op_le op_le pe_int (pe_callB call_len (by rfl) T.len (by decide +kernel) (pa_cons (pv 0) pa_nil)) (pe_glI T.c_MOST_KEY)))))), ?_⟩
    refine ⟨_, rfl, v, ns, rfl, hv, by omega, hb, fun H1 e1 => ⟨true, rfl, iteT ?_⟩⟩
    obtain ⟨a, rfl, ha⟩ := hv
    refine ⟨_, rfl, _, ns.length, rfl, .inr ⟨_, SqT.of (e1 _ _ ha), (iv_len ns).symm⟩, _, _, rfl, rfl, _, rfl, ifT (by omega) ⟨_, _, rfl, rfl, ?_⟩⟩
    show Q (V.bl (decide ((ns.length : Int) ≤ 20))) H1
    rw [decide_eq_true (show (ns.length : Int) ≤ 20 by omega)]
    exact k _ e1
def spChkKey : Sp := fun vs H Q _ => ∃ v ns, vs = [v] ∧ IsI H v ns ∧ 1 ≤ ns.length ∧ ns.length ≤ 20 ∧ (∀ b ∈ ns, byteB b) ∧ ∀ H', Same H H' → Q .non H'
abbrev s_check_key : Stmt := top 32
abbrev N_check_key : List Str := ["key"]
theorem sc_check_key : FnScope N_check_key ["key"] (defScope s_check_key) := ⟨rfl, rfl, rfl, by decide +kernel, rfl, by decide +kernel, by decide +kernel⟩
theorem ok_check_key (F : At K mg "check_key" s_check_key) (T : Txt K mg C) (D_is_key : Df P w K mg base "is_key" 3 ["thing"] spIsKey) : Df P w K mg base "check_key" 4 ["key"] spChkKey := by
  refine F.df sc_check_key (fun _ _ _ _ _ _ us hl => match us, hl with | [_], _ => rfl) (fun vs H Q E h => ?_) (fun f cdv A outer s H vs Q E hr h => ?_)
  · obtain ⟨v, ns, rfl, _⟩ := h; rfl
  · obtain ⟨v, ns, rfl, hv, h1, h2, hb, k⟩ := h
    refine ⟨_, (pss_one (ps_if (pt_not (pt_val (pe_cd D_is_key (hr.mono (by omega)) (pa_cons (pv 0) pa_nil))))
  (pss_one ps_never)
  pss_nil)), ?_⟩
    exact ⟨_, rfl, v, ns, rfl, hv, h1, h2, hb, fun H1 e1 => ⟨true, rfl, iteF (k _ e1)⟩⟩
def spIsSpot : Sp := fun vs H Q _ => ∃ v p s, vs = [v] ∧ IsI H v [p, s] ∧ 1 ≤ p ∧ p ≤ 65535 ∧ byteB s ∧ Q (.bl true) H
abbrev s_is_spot : Stmt := top 33
abbrev N_is_spot : List Str := ["thing"]
theorem sc_is_spot : FnScope N_is_spot ["thing"] (defScope s_is_spot) := ⟨rfl, rfl, rfl, by decide +kernel, rfl, by decide +kernel, by decide +kernel⟩
theorem ok_is_spot (F : At K mg "is_spot" s_is_spot) (T : Txt K mg C) (D_is_number : Df P w K mg base "is_number" 1 ["thing", "least", "most"] spNum) : Df P w K mg base "is_spot" 2 ["thing"] spIsSpot := by
  refine F.df sc_is_spot (fun _ _ _ _ _ _ us hl => match us, hl with | [_], _ => rfl) (fun vs H Q E h => ?_) (fun f cdv A outer s H vs Q E hr h => ?_)
  · obtain ⟨v, p, s, rfl, _⟩ := h; rfl
  · obtain ⟨v, p, s, rfl, ⟨a, rfl, ha⟩, h1, h2, hb, k⟩ := h
    refine ⟨_, (pss_cons (ps_if (PW.pt (pw_or (pt_not (pt_val (pe_callB call_isi (by rfl) T.isinstance (by decide +kernel) (pa_cons (pv 0) (pa_cons (pe_bltn (v := .ty "tuple") rfl T.tuple (by decide +kernel) rfl) pa_nil))))) (pw_or1 (pt_cmpR op_ne (pe_callB call_len (by rfl) T.len (by decide +kernel) (pa_cons (pv 0) pa_nil)) pe_int (nomark _)))))
  (pss_one (ps_ret pe_bl))
  pss_nil)
  (pss_one (ps_ret (pe_and (pe_cd D_is_number (hr.mono (by omega)) (pa_cons (pe_ix ix_tup (pv 0) pe_int (fun _ _ => rfl)) (pa_cons pe_int (pa_cons (pe_glI T.c_MOST_PAGE) pa_nil)))) (pe_one (pe_cd D_is_number (hr.mono (by omega)) (pa_cons (pe_ix ix_tup (pv 0) pe_int (fun _ _ => rfl)) (pa_cons pe_int (pa_cons pe_int pa_nil))))))))), ?_⟩
    refine ⟨_, rfl, _, _, .type "tuple", .type "tuple", true, rfl, .ty _, .base (.tup ha), kit_ty (by decide +kernel), true, rfl, iteF ?_⟩
    refine ⟨_, rfl, _, 2, rfl, .inr ⟨_, SqT.of ha, rfl⟩, rfl, _, rfl, iteF ?_⟩
    refine ⟨_, rfl, a, _, 0, _, rfl, rfl, SqT.of ha, atI_nat (j := 0) rfl, p, 1, 65535, rfl, _, rfl, ?_⟩
    rw [inB_true h1 h2]
    refine iteT ⟨_, rfl, a, _, 1, _, rfl, rfl, SqT.of ha, atI_nat (j := 1) rfl, s, 0, 255, rfl, ?_⟩
    rw [inB_true hb.1 hb.2]
    exact k
def spChkEntry : Sp := fun vs H Q _ => ∃ v u, ∃ e : Ent, vs = [v, u] ∧ IsI H v e.1 ∧ IsI H u [e.2.1, e.2.2] ∧ GE e ∧ ∀ H', Same H H' → Q .non H'
abbrev s_check_entry : Stmt := top 34
abbrev N_check_entry : List Str := ["key", "spot"]
theorem sc_check_entry : FnScope N_check_entry ["key", "spot"] (defScope s_check_entry) := ⟨rfl, rfl, rfl, by decide +kernel, rfl, by decide +kernel, by decide +kernel⟩
theorem ok_check_entry (F : At K mg "check_entry" s_check_entry) (T : Txt K mg C) (D_check_key : Df P w K mg base "check_key" 4 ["key"] spChkKey) (D_is_spot : Df P w K mg base "is_spot" 2 ["thing"] spIsSpot) : Df P w K mg base "check_entry" 5 ["key", "spot"] spChkEntry := by
  refine F.df sc_check_entry (fun _ _ _ _ _ _ us hl => match us, hl with | [_, _], _ => rfl) (fun vs H Q E h => ?_) (fun f cdv A outer s H vs Q E hr h => ?_)
  · obtain ⟨v, u, e, rfl, _⟩ := h; rfl
  · obtain ⟨v, u, e, rfl, hv, hu, ge, k⟩ := h
    refine ⟨_, (pss_cons (ps_expr (pe_cd D_check_key (hr.mono (by omega)) (pa_cons (pv 0) pa_nil)))
  (pss_one (ps_if (pt_not (pt_val (pe_cd D_is_spot (hr.mono (by omega)) (pa_cons (pv 1) pa_nil))))
  (pss_one ps_never)
  pss_nil))), ?_⟩
    refine ⟨_, rfl, v, _, rfl, hv, ge.k1, ge.k20, ge.kb, fun H1 e1 => ?_⟩
    exact ⟨_, rfl, u, _, _, rfl, hu.same e1, ge.p1, ge.p2, ge.s, true, rfl, iteF (k _ e1)⟩
def spEntB : Sp := fun vs H Q _ => ∃ v, ∃ e : Ent, vs = [v] ∧ IsE H v e ∧ GE e ∧ Ret H (fun v H' => IsI H' v (entB e)) Q
abbrev s_entry_bytes : Stmt := top 35
abbrev N_entry_bytes : List Str := ["entry", "key", "spot"]
theorem sc_entry_bytes : FnScope N_entry_bytes ["entry"] (defScope s_entry_bytes) := ⟨rfl, rfl, rfl, by decide +kernel, rfl, by decide +kernel, by decide +kernel⟩
theorem ok_entry_bytes (F : At K mg "entry_bytes" s_entry_bytes) (T : Txt K mg C) (D_bytes_of : Df P w K mg base "bytes_of" 1 ["number", "width"] spB2) : Df P w K mg base "entry_bytes" 2 ["entry"] spEntB := by
  refine F.df sc_entry_bytes (fun _ _ _ _ _ _ us hl => match us, hl with | [_], _ => rfl) (fun vs H Q E h => ?_) (fun f cdv A outer s H vs Q E hr h => ?_)
  · obtain ⟨v, e, rfl, _⟩ := h; rfl
  · obtain ⟨v, e, rfl, ⟨t, kk, sp, rfl, ht, hk, hs⟩, ge, k⟩ := h
    refine ⟨_, (pss_cons (ps_asg (pv 0) (pg_tup (by rfl) (pgs_cons (pg_name (i := 1) sc_entry_bytes.nd rfl (Or.inl rfl)) (pgs_cons (pg_name (i := 2) sc_entry_bytes.nd rfl (Or.inl rfl)) pgs_nil))))
  (pss_one (ps_ret (pe_tup (pa_cons (pe_callB call_len (by rfl) T.len (by decide +kernel) (pa_cons (pv 1) pa_nil)) (StX.pa_star (pv 1) (StX.pa_star (pe_cd D_bytes_of (hr.mono (by omega)) (pa_cons (pe_ix ix_tup (pv 2) pe_int (fun _ _ => rfl)) (pa_cons pe_int pa_nil))) (pa_cons (pe_ix ix_tup (pv 2) pe_int (fun _ _ => rfl)) pa_nil)))))))), ?_⟩
    refine ⟨_, rfl, t, _, rfl, SqT.of ht, rfl, _, _, rfl, _, _, rfl, rfl, ?_⟩
    refine ⟨_, rfl, _, e.1.length, rfl, .inr ⟨_, SqT.of hk, (iv_len _).symm⟩, ?_⟩
    refine ⟨_, rfl, kk, _, rfl, .inl (SqT.of hk), ?_⟩
    refine ⟨_, rfl, sp, _, 0, _, rfl, rfl, SqT.of hs, atI_nat (j := 0) rfl, e.2.1, rfl, (by have := ge.p1; omega), fun u H1 e1 z1 => ?_⟩
    obtain ⟨q, rfl, hq⟩ := z1
    refine ⟨q, _, rfl, .inl (SqT.of hq), ?_⟩
    refine ⟨_, rfl, sp, _, 1, _, rfl, rfl, SqT.of (e1 _ _ hs), atI_nat (j := 1) rfl, ?_⟩
    have e4 : V.int (e.1.length : Int) :: (iv e.1 ++ (iv (b2 e.2.1) ++ [V.int e.2.2])) = iv (entB e) := by
      show _ = iv ((e.1.length : Int) :: (e.1 ++ (b2 e.2.1 ++ [e.2.2])))
      unfold iv
      rw [List.map_cons, List.map_append, List.map_append]
      rfl
    refine ⟨?_, fun r hr => k _ _ (e1.new hr) (isI_new e4)⟩
    have e5 := congrArg List.length e4
    rw [iv_len, entB_len] at e5
    exact Nat.le_trans (Nat.le_of_eq e5) (sz_of (by have := esz_le ge; omega))
def spEsz : Sp := fun vs H Q _ => ∃ v, ∃ e : Ent, vs = [v] ∧ IsE H v e ∧ Q (.int (esz e : Nat)) H
abbrev s_entry_size : Stmt := top 36
abbrev N_entry_size : List Str := ["entry"]
theorem sc_entry_size : FnScope N_entry_size ["entry"] (defScope s_entry_size) := ⟨rfl, rfl, rfl, by decide +kernel, rfl, by decide +kernel, by decide +kernel⟩
theorem ok_entry_size (F : At K mg "entry_size" s_entry_size) (T : Txt K mg C)  : Df P w K mg base "entry_size" 1 ["entry"] spEsz := by
  refine F.df sc_entry_size (fun _ _ _ _ _ _ us hl => match us, hl with | [_], _ => rfl) (fun vs H Q E h => ?_) (fun f cdv A outer s H vs Q E hr h => ?_)
  · obtain ⟨v, e, rfl, _⟩ := h; rfl
  · obtain ⟨v, e, rfl, ⟨t, kk, sp, rfl, ht, hk, hs⟩, k⟩ := h
    refine ⟨_, (pss_one (ps_ret (pe_op op_add (pe_callB call_len (by rfl) T.len (by decide +kernel) (pa_cons (pe_ix ix_tup (pv 0) pe_int (fun _ _ => rfl)) pa_nil)) pe_int))), ?_⟩
    refine ⟨_, rfl, t, _, 0, _, rfl, rfl, SqT.of ht, atI_nat (j := 0) rfl, _, e.1.length, rfl, .inr ⟨_, SqT.of hk, (iv_len _).symm⟩, _, _, rfl, rfl, ?_⟩
    exact k
/-- the sizes of entries, as a list of ints -/
def szs (es : List Ent) : List Int := es.map fun e => (esz e : Int)
theorem szs_sum (es : List Ent) : (szs es).sum = (lsz es : Int) := by
  induction es with
  | nil => rfl
  | cons e es ih =>
    rw [lsz_cons]
    show ((esz e : Int) :: szs es).sum = _
    rw [List.sum_cons, ih]
    omega
theorem szs_take (es : List Ent) (i : Nat) : (szs es).take i = szs (es.take i) := by unfold szs; rw [List.map_take]
def spLsz : Sp := fun vs H Q _ => ∃ v, ∃ es : List Ent, vs = [v] ∧ IsEL H v es ∧ es.length ≤ 1000 ∧ ∀ H', Same H H' → Q (.int (lsz es : Nat)) H'
abbrev s_leaf_size : Stmt := top 37
abbrev N_leaf_size : List Str := ["entries", "entry"]
theorem sc_leaf_size : FnScope N_leaf_size ["entries"] (defScope s_leaf_size) := ⟨rfl, rfl, rfl, by decide +kernel, rfl, by decide +kernel, by decide +kernel⟩
theorem ok_leaf_size (F : At K mg "leaf_size" s_leaf_size) (T : Txt K mg C) (D_entry_size : Df P w K mg base "entry_size" 1 ["entry"] spEsz) : Df P w K mg base "leaf_size" 2 ["entries"] spLsz := by
  refine F.df sc_leaf_size (fun _ _ _ _ _ _ us hl => match us, hl with | [_], _ => rfl) (fun vs H Q E h => ?_) (fun f cdv A outer s H vs Q E hr h => ?_)
  · obtain ⟨v, es, rfl, _⟩ := h; rfl
  · obtain ⟨v, es, rfl, ⟨a, xs, rfl, ha, hes⟩, hl, k⟩ := h
    refine ⟨_, (pss_one (ps_ret (pe_callB (cr_sum rfl) (by rfl) T.sum (by decide +kernel) (pa_cons (pe_lc (own := [("entry", 1)]) (g := gName 1) (tt := tYes) rfl sc_leaf_size.nd (pi_list (pv 0)) (blkOk_by (own := [("entry", 1)]) (N := N_leaf_size) (sc := defScope s_leaf_size) (by decide +kernel)) (fun _ _ _ _ _ => pg_name (i := 1) sc_leaf_size.nd rfl (Or.inl rfl)) (fun _ _ _ _ _ => pts_nil) (fun _ _ _ _ _ => (pe_cd D_entry_size (hr.mono (by omega)) (pa_cons (pv 1) pa_nil)))) pa_nil)))), ?_⟩
    refine ⟨_, rfl, a, rfl, ⟨_, SqL.of ha⟩, fun D hD => lc_list (xs := xs) (fun i H' => Same H H' ∧ H' D = some (.lst (iv (szs (es.take i)))) ∧ i ≤ xs.length) ⟨L2.Same.new1 hD, upd_same, Nat.zero_le _⟩ (fun i H' _ z => SqL.of (z.1 _ _ ha)) ?_ ?_⟩
    · intro i x H' hx ⟨z1, z2, z3⟩
      obtain ⟨e, he, ze⟩ := Paired.get' hes hx
      have hi := (List.getElem?_eq_some_iff.mp hx).1
      refine ⟨rfl, ?_⟩
      refine ⟨_, rfl, x, e, rfl, ze.same z1, _, z2, sz_lt ?_, L2.Same.mut z1 hD, ?_, hi⟩
      · rw [iv_len]
        unfold szs
        rw [List.length_map, List.length_take]
        omega
      · rw [upd_same, take_snoc he]
        unfold szs
        rw [List.map_append, ← iv_app]
        rfl
    · intro H' ⟨z1, z2, z3⟩
      rw [hes.length, List.take_length] at z2
      refine ⟨D, szs es, rfl, SqL.of z2, ?_⟩
      rw [szs_sum]
      exact k _ z1
def spIsz : Sp := fun vs H Q _ => ∃ v a xs, ∃ es : List Ent, vs = [v, .ref a] ∧ IsEL H v es ∧ H a = some (.lst xs) ∧ es.length ≤ 1000 ∧ ∀ H', Same H H' → Q (.int (isz es xs.length : Nat)) H'
abbrev s_inner_size : Stmt := top 38
abbrev N_inner_size : List Str := ["walls", "children"]
theorem sc_inner_size : FnScope N_inner_size ["walls", "children"] (defScope s_inner_size) := ⟨rfl, rfl, rfl, by decide +kernel, rfl, by decide +kernel, by decide +kernel⟩
theorem ok_inner_size (F : At K mg "inner_size" s_inner_size) (T : Txt K mg C) (D_leaf_size : Df P w K mg base "leaf_size" 2 ["entries"] spLsz) : Df P w K mg base "inner_size" 3 ["walls", "children"] spIsz := by
  refine F.df sc_inner_size (fun _ _ _ _ _ _ us hl => match us, hl with | [_, _], _ => rfl) (fun vs H Q E h => ?_) (fun f cdv A outer s H vs Q E hr h => ?_)
  · obtain ⟨v, a, xs, es, rfl, _⟩ := h; rfl
  · obtain ⟨v, a, xs, es, rfl, hes, ha, hl, k⟩ := h
    refine ⟨_, (pss_one (ps_ret (pe_op op_add (pe_cd D_leaf_size (hr.mono (by omega)) (pa_cons (pv 0) pa_nil)) (pe_op op_mul pe_int (pe_callB call_len (by rfl) T.len (by decide +kernel) (pa_cons (pv 1) pa_nil)))))), ?_⟩
    refine ⟨_, rfl, v, es, rfl, hes, hl, fun H1 e1 => ?_⟩
    refine ⟨_, rfl, _, xs.length, rfl, .inl ⟨_, SqL.of (e1 _ _ ha), rfl⟩, _, _, rfl, rfl, .inl ⟨by decide, by decide⟩, _, _, rfl, rfl, ?_⟩
    exact k _ e1
/-- v is a tuple of these values -/
def IsT (H : Hp) (v : V) (xs : List V) : Prop := ∃ a, v = .ref a ∧ H a = some (.tup xs)
def spReadE : Sp := fun vs H Q _ => ∃ v A B, ∃ e : Ent, vs = [v, .int ((A.length : Nat) : Int)] ∧ IsI H v (A ++ (entB e ++ B)) ∧ GE e ∧
  Ret H (fun v H' => ∃ u, IsT H' v [u, .int ((A.length + esz e : Nat) : Int)] ∧ IsE H' u e) Q
abbrev s_read_entry : Stmt := top 39
abbrev N_read_entry : List Str := ["page", "at", "past"]
theorem sc_read_entry : FnScope N_read_entry ["page", "at"] (defScope s_read_entry) := ⟨rfl, rfl, rfl, by decide +kernel, rfl, by decide +kernel, by decide +kernel⟩
theorem at_app {A B : List Int} {x : Int} : (A ++ (x :: B))[A.length]? = some x := by simp
theorem cut_app {A B D : List Int} : cutV (iv (A ++ (B ++ D))) (some ((A.length : Nat) : Int)) (some ((A.length + B.length : Nat) : Int)) = iv B := by
  rw [cut_mid _ _ (by rw [iv_len, List.length_append, List.length_append]; omega) (by omega), iv_drop, iv_take]
  congr 1
  rw [List.drop_left' rfl, show A.length + B.length - A.length = B.length by omega, List.take_left' rfl]
theorem ok_read_entry (F : At K mg "read_entry" s_read_entry) (T : Txt K mg C) (D_number_of : Df P w K mg base "number_of" 1 ["data"] spNumOf) : Df P w K mg base "read_entry" 2 ["page", "at"] spReadE := by
  refine F.df sc_read_entry (fun _ _ _ _ _ _ us hl => match us, hl with | [_, _], _ => rfl) (fun vs H Q E h => ?_) (fun f cdv A outer s H vs Q E hr h => ?_)
  · obtain ⟨v, A, B, e, rfl, _⟩ := h; rfl
  · obtain ⟨v, A', B, e, rfl, ⟨a, rfl, ha⟩, ge, k⟩ := h
    refine ⟨_, (pss_cons (ps_set (i := 2) sc_read_entry.nd rfl (Or.inl rfl) (pe_op op_add (pe_op op_add (pv 1) pe_int) (pe_ix ix_tup (pv 0) (pv 1) (fun _ _ => rfl))))
  (pss_one (ps_ret (pe_tup (pa_cons (pe_tup (pa_cons (pe_slice sl_tupA (pv 0) (po_some (pe_op op_add (pv 1) pe_int)) (po_some (pv 2))) (pa_cons (pe_tup (pa_cons (pe_cd D_number_of (hr.mono (by omega)) (pa_cons (pe_slice sl_tupA (pv 0) (po_some (pv 2)) (po_some (pe_op op_add (pv 2) pe_int))) pa_nil)) (pa_cons (pe_ix ix_tup (pv 0) (pe_op op_add (pv 2) pe_int) (fun _ _ => rfl)) pa_nil))) pa_nil))) (pa_cons (pe_op op_add (pv 2) pe_int) pa_nil)))))), ?_⟩
    have p1 := ge.p1
    have p2 := ge.p2
    have e0 : A' ++ (entB e ++ B) = A' ++ ((e.1.length : Int) :: (e.1 ++ (b2 e.2.1 ++ ([e.2.2] ++ B)))) := by
      unfold entB
      simp
    have e1 : A' ++ (entB e ++ B) = (A' ++ [(e.1.length : Int)]) ++ (e.1 ++ (b2 e.2.1 ++ ([e.2.2] ++ B))) := by
      rw [e0]
      simp
    have e2 : A' ++ (entB e ++ B) = (A' ++ [(e.1.length : Int)] ++ e.1) ++ (b2 e.2.1 ++ ([e.2.2] ++ B)) := by
      rw [e0]
      simp
    have e3 : A' ++ (entB e ++ B) = (A' ++ [(e.1.length : Int)] ++ e.1 ++ b2 e.2.1) ++ (e.2.2 :: B) := by
      rw [e0]
      simp
    have i1 : (((A'.length : Nat) : Int) + 1 : Int) = (((A' ++ [(e.1.length : Int)]).length : Nat) : Int) := by simp
    have i2 : (((A'.length : Nat) : Int) + 1 + ((e.1.length : Nat) : Int) : Int) = (((A' ++ [(e.1.length : Int)]).length + e.1.length : Nat) : Int) := by simp
    have i3 : (((A'.length : Nat) : Int) + 1 + ((e.1.length : Nat) : Int) : Int) = (((A' ++ [(e.1.length : Int)] ++ e.1).length : Nat) : Int) := by simp; omega
    have i4 : (((A'.length : Nat) : Int) + 1 + ((e.1.length : Nat) : Int) + 2 : Int) = (((A' ++ [(e.1.length : Int)] ++ e.1).length + (b2 e.2.1).length : Nat) : Int) := by simp [b2_len]; omega
    have i5 : (((A'.length : Nat) : Int) + 1 + ((e.1.length : Nat) : Int) + 2 : Int) = (((A' ++ [(e.1.length : Int)] ++ e.1 ++ b2 e.2.1).length : Nat) : Int) := by simp [b2_len]; omega
    have c1 : cutV (iv (A' ++ (entB e ++ B))) (some (((A'.length : Nat) : Int) + 1)) (some (((A'.length : Nat) : Int) + 1 + ((e.1.length : Nat) : Int))) = iv e.1 := by
      rw [i1, show (((A' ++ [(e.1.length : Int)]).length : Nat) : Int) + ((e.1.length : Nat) : Int) = (((A' ++ [(e.1.length : Int)]).length + e.1.length : Nat) : Int) by omega, e1]
      exact cut_app
    have c2 : cutV (iv (A' ++ (entB e ++ B))) (some (((A'.length : Nat) : Int) + 1 + ((e.1.length : Nat) : Int))) (some (((A'.length : Nat) : Int) + 1 + ((e.1.length : Nat) : Int) + 2)) = iv (b2 e.2.1) := by
      rw [i4, i3, e2]
      exact cut_app
    refine ⟨_, rfl, _, _, rfl, rfl, _, rfl, _, rfl, a, _, _, _, rfl, rfl, SqT.of ha, atI_nat (j := A'.length) (iv_get (by rw [e0]; exact at_app)), _, _, rfl, rfl, ?_⟩
    refine ⟨_, rfl, _, rfl, _, _, rfl, rfl, _, rfl, _, rfl, _, rfl, slA ha fun p H1 q1 h1 => ?_⟩
    refine ⟨_, rfl, _, rfl, _, rfl, _, rfl, _, _, rfl, rfl, _, rfl, slA (q1 _ _ ha) fun pp H2 q2 h2 => ?_⟩
    refine ⟨.ref pp, b2 e.2.1, rfl, ⟨pp, rfl, by rw [h2, c2]⟩, ?_⟩
    refine ⟨_, rfl, _, rfl, _, _, rfl, rfl, a, _, _, _, rfl, rfl, SqT.of (q2 _ _ (q1 _ _ ha)), at_of (j := (A' ++ [(e.1.length : Int)] ++ e.1 ++ b2 e.2.1).length) i5 (iv_get (by rw [e3]; exact at_app)), ?_⟩
    refine ⟨(by show 2 ≤ sizeLine; decide), fun r hr' => ⟨(by show 2 ≤ sizeLine; decide), fun t ht' => ?_⟩⟩
    refine ⟨_, rfl, _, _, rfl, rfl, (by show 2 ≤ sizeLine; decide), fun u hu' => ?_⟩
    have z2 := q1.trans q2
    refine k _ _ (((z2.new hr').new ht').new hu') ⟨_, ⟨u, rfl, ?_⟩, t, p, r, rfl, ?_, ?_, ?_⟩
    · rw [upd_same]
      have : (((A'.length : Nat) : Int) + 1 + ((e.1.length : Nat) : Int) + 3 : Int) = ((A'.length + esz e : Nat) : Int) := by unfold esz; omega
      show some (HO.tup [V.ref t, V.int (((A'.length : Nat) : Int) + 1 + ((e.1.length : Nat) : Int) + 3)]) = _
      rw [this]
    · exact L2.Same.new1 hu' _ _ upd_same
    · refine ((((q2.new hr').new ht').new hu') _ _ ?_)
      rw [h1, c1]
    · refine L2.Same.new1 hu' _ _ (L2.Same.new1 ht' _ _ ?_)
      rw [upd_same, numOf_b2 (by omega) p2]
end
end K7
namespace K7
open PySem PySem.Spec PyProof.Rows L2
/-- numbers of pages, as values -/
def nv (ns : List Nat) : List V := ns.map fun (n : Nat) => V.int (n : Int)
theorem nv_len (ns : List Nat) : (nv ns).length = ns.length := by unfold nv; rw [List.length_map]
theorem nv_get {ns : List Nat} {i n : Nat} (h : ns[i]? = some n) : (nv ns)[i]? = some (.int (n : Int)) := by unfold nv; rw [List.getElem?_map, h]; rfl
theorem nv_get' {ns : List Nat} {i : Nat} {y : V} (h : (nv ns)[i]? = some y) : ∃ n, ns[i]? = some n ∧ y = .int (n : Int) := by
  unfold nv at h
  rw [List.getElem?_map] at h
  obtain ⟨n, h1, h2⟩ := Option.map_eq_some_iff.mp h
  exact ⟨n, h1, h2.symm⟩
theorem nv_app (a b : List Nat) : nv (a ++ b) = nv a ++ nv b := by unfold nv; rw [List.map_append]
def IsNL (H : Hp) (v : V) (ns : List Nat) : Prop := ∃ a, v = .ref a ∧ H a = some (.lst (nv ns))
theorem IsNL.same {H H' : Hp} {v : V} {ns : List Nat} (h : IsNL H v ns) (e : Same H H') : IsNL H' v ns := by
  obtain ⟨a, rfl, h⟩ := h
  exact ⟨a, rfl, e _ _ h⟩
section
variable {P : Program} {w : World} {K : PySem.W.Frag} {mg : Str → Option Value} {base : Heap} {C : Addr}
def spLeafP : Sp := fun vs H Q _ => ∃ v, ∃ es : List Ent, ∃ nx : Nat, vs = [v, .int (nx : Int)] ∧ IsEL H v es ∧ (∀ e ∈ es, GE e) ∧ lsz es ≤ 116 ∧ nx ≤ 65535 ∧ Ret H (fun v H' => IsI H' v (leafPg es nx)) Q
abbrev s_leaf_page : Stmt := top 40
abbrev N_leaf_page : List Str := ["entries", "number", "page", "at", "entry", "data"]
theorem sc_leaf_page : FnScope N_leaf_page ["entries", "number"] (defScope s_leaf_page) := ⟨rfl, rfl, rfl, by decide +kernel, rfl, by decide +kernel, by decide +kernel⟩
theorem ok_leaf_page (F : At K mg "leaf_page" s_leaf_page) (T : Txt K mg C) (D_with_bytes : Df P w K mg base "with_bytes" 1 ["page", "at", "data"] spWb) (D_with_next : Df P w K mg base "with_next" 3 ["page", "number"] spWithNext) (D_entry_bytes : Df P w K mg base "entry_bytes" 2 ["entry"] spEntB) (D_blank_page : Df P w K mg base "blank_page" 3 ["kind"] spBlank) : Df P w K mg base "leaf_page" 4 ["entries", "number"] spLeafP := by
  refine F.df sc_leaf_page (fun _ _ _ _ _ _ us hl => match us, hl with | [_, _], _ => rfl) (fun vs H Q E h => ?_) (fun f cdv A outer s H vs Q E hr h => ?_)
  · obtain ⟨v, es, nx, rfl, _⟩ := h; rfl
  · obtain ⟨v, es, nx, rfl, ⟨a, xs, rfl, ha, hes⟩, ge, hz, hx, k⟩ := h
    refine ⟨_, (pss_cons (ps_par (i := 2) (j := 3) (by rfl) sc_leaf_page.nd rfl rfl (by decide) rfl rfl (pa_cons (pe_cd D_with_next (hr.mono (by omega)) (pa_cons (pe_cd D_blank_page (hr.mono (by omega)) (pa_cons (pe_glI T.c_LEAF) pa_nil)) (pa_cons (pv 1) pa_nil))) (pa_cons (pe_glI T.c_HEAD) pa_nil)) (by rfl))
  (pss_cons (ps_for PassesOwn.never rfl (pi_list (pv 0)) (pg_name (i := 4) sc_leaf_page.nd rfl (Or.inl rfl))
  (pss_cons (ps_set (i := 5) sc_leaf_page.nd rfl (Or.inl rfl) (pe_cd D_entry_bytes (hr.mono (by omega)) (pa_cons (pv 4) pa_nil)))
  (pss_cons (ps_set (i := 2) sc_leaf_page.nd rfl (Or.inl rfl) (pe_cd D_with_bytes (hr.mono (by omega)) (pa_cons (pv 2) (pa_cons (pv 3) (pa_cons (pv 5) pa_nil)))))
  (pss_one (ps_aug (i := 3) sc_leaf_page.nd rfl (Or.inl rfl) (pe_callB call_len (by rfl) T.len (by decide +kernel) (pa_cons (pv 5) pa_nil)) ip_add)))))
  (pss_one (ps_ret (pe_cd D_with_bytes (hr.mono (by omega)) (pa_cons (pv 2) (pa_cons pe_int (pa_cons (pe_tup (pa_cons (pe_callB call_len (by rfl) T.len (by decide +kernel) (pa_cons (pv 0) pa_nil)) pa_nil)) pa_nil)))))))), ?_⟩
    have hn := len_of_lsz ge
    refine ⟨3, rfl, by decide, by decide, fun u H1 e1 z1 => ?_⟩
    refine ⟨_, rfl, u, _, nx, rfl, by omega, by omega, z1, (by show 128 ≤ 1000; decide), fun v2 H2 e2 z2 => ?_⟩
    rw [show wb (blankPg 3) 8 (b2 (nx : Int)) = hd 3 0 nx ++ body [] from wb_next 3 0 0 nx []] at z2
    have e12 := e1.trans e2
    refine ⟨_, _, rfl, ?_⟩
    refine ⟨_, rfl, a, rfl, ⟨_, SqL.of (e12 _ _ ha)⟩, for_list (xs := xs) (fun i σ H' => ∃ pg t1 t2, σ = [some (.ref a), some (.int (nx : Int)), some pg, some (.int ((12 + lsz (es.take i) : Nat) : Int)), t1, t2] ∧ Same H H' ∧ IsI H' pg (hd 3 0 nx ++ body (leafB (es.take i))))
      ⟨v2, none, none, rfl, e12, z2⟩ (fun i σ H' _ ⟨_, _, _, _, z, _⟩ => SqL.of (z _ _ ha)) ?_ ?_⟩
    · rintro i x σ H' hx' ⟨pg, t1, t2, rfl, z1, z3⟩
      obtain ⟨e, he, ze⟩ := Paired.get' hes hx'
      have hge := ge e (List.mem_of_getElem? he)
      have ht := lsz_take he
      have ht2 := lsz_take_le es (i + 1)
      refine ⟨_, rfl, x, e, rfl, ze.same z1, hge, fun d H3 e3 z4 => ?_⟩
      refine ⟨_, rfl, _, rfl, _, rfl, pg, _, 12 + lsz (es.take i), d, _, rfl, z3.same e3, z4, ?_, ?_, fun pg' H4 e4 z5 => ?_⟩
      · rw [pg_len (by rw [leafB_len]; omega)]; decide
      · rw [entB_len]; omega
      obtain ⟨b, rfl, hb⟩ := z4
      refine ⟨_, rfl, _, rfl, _, esz e, rfl, .inr ⟨_, SqT.of (e4 _ _ hb), by rw [iv_len, entB_len]⟩, _, _, rfl, rfl, ?_⟩
      refine ⟨pg', some x, some (.ref b), ?_, (z1.trans e3).trans e4, ?_⟩
      · rw [ht]
        show [_, _, _, some (V.int (((12 + lsz (es.take i) : Nat) : Int) + ((esz e : Nat) : Int))), _, _] = _
        rw [show ((12 + lsz (es.take i) : Nat) : Int) + ((esz e : Nat) : Int) = ((12 + (lsz (es.take i) + esz e) : Nat) : Int) by omega]
      · have w1 := wb_step (k := 3) (n := 0) (nx := nx) (d := leafB (es.take i)) (x := entB e) (by rw [leafB_len, entB_len]; omega)
        rw [leafB_len] at w1
        rw [w1] at z5
        rw [take_snoc he, leafB_app, leafB_one]
        exact z5
    · rintro σ H' ⟨pg, t1, t2, rfl, z1, z3⟩
      rw [hes.length, List.take_length] at z3
      refine ⟨_, rfl, _, rfl, _, es.length, rfl, .inl ⟨_, SqL.of (z1 _ _ ha), hes.length.symm⟩, (by show 1 ≤ sizeLine; decide), fun t ht => ?_⟩
      refine ⟨pg, _, 7, .ref t, [(es.length : Int)], rfl, z3.same (L2.Same.new1 ht), isI_new rfl, ?_, (by show 1 ≤ 1000; decide), k.go (z1.new ht)⟩
      rw [pg_len (by rw [leafB_len]; omega)]; decide
def spLeafE : Sp := fun vs H Q _ => ∃ v, ∃ es : List Ent, ∃ nx : Nat, vs = [v] ∧ IsI H v (leafPg es nx) ∧ (∀ e ∈ es, GE e) ∧ lsz es ≤ 116 ∧ Ret H (fun v H' => IsEL H' v es ∧ ∃ a, v = .ref a ∧ H a = none) Q
abbrev s_leaf_entries : Stmt := top 41
abbrev N_leaf_entries : List Str := ["page", "found", "at", "turn", "entry"]
theorem sc_leaf_entries : FnScope N_leaf_entries ["page"] (defScope s_leaf_entries) := ⟨rfl, rfl, rfl, by decide +kernel, rfl, by decide +kernel, by decide +kernel⟩
theorem ok_leaf_entries (F : At K mg "leaf_entries" s_leaf_entries) (T : Txt K mg C) (D_read_entry : Df P w K mg base "read_entry" 2 ["page", "at"] spReadE) : Df P w K mg base "leaf_entries" 3 ["page"] spLeafE := by
  refine F.df sc_leaf_entries (fun _ _ _ _ _ _ us hl => match us, hl with | [_], _ => rfl) (fun vs H Q E h => ?_) (fun f cdv A outer s H vs Q E hr h => ?_)
  · obtain ⟨v, es, nx, rfl, _⟩ := h; rfl
  · obtain ⟨v, es, nx, rfl, ⟨a, rfl, ha⟩, ge, hz, k⟩ := h
    refine ⟨_, (pss_cons (ps_par (i := 1) (j := 2) (by rfl) sc_leaf_entries.nd rfl rfl (by decide) rfl rfl (pa_cons (pe_lst pa_nil) (pa_cons (pe_glI T.c_HEAD) pa_nil)) (by rfl))
  (pss_cons (ps_for PassesOwn.never rfl (pi_range1 rfl T.range (pa_cons (pe_ix ix_tup (pv 0) pe_int (fun _ _ => rfl)) pa_nil)) (pg_name (i := 3) sc_leaf_entries.nd rfl (Or.inl rfl))
  (pss_cons (ps_asg (pe_cd D_read_entry (hr.mono (by omega)) (pa_cons (pv 0) (pa_cons (pv 2) pa_nil))) (pg_tup (by rfl) (pgs_cons (pg_name (i := 4) sc_leaf_entries.nd rfl (Or.inl rfl)) (pgs_cons (pg_name (i := 2) sc_leaf_entries.nd rfl (Or.inl rfl)) pgs_nil))))
  (pss_one (ps_expr (pe_bm PySem.F.plainAttrs_list PySem.F.slot_list_append PySem.F.type_list_append mt_append (pv 1) (pa_cons (pv 4) pa_nil))))))
  (pss_one (ps_ret (pv 1))))), ?_⟩
    have hn := len_of_lsz ge
    refine ⟨Nat.zero_le _, fun p hp => ⟨_, _, rfl, ?_⟩⟩
    have ha1 := L2.Same.new1 (o := .lst []) hp _ _ ha
    refine ⟨_, rfl, a, _, 7, _, rfl, rfl, SqT.of ha1, atI_nat (j := 7) (iv_get (leafPg_num es nx)), _, rfl, by omega, by omega, for_range (lo := 0) (n := ((es.length : Nat) : Int).toNat) (fun i σ H' => ∃ vs t1 t2, σ = [some (.ref a), some (.ref p), some (.int ((12 + lsz (es.take i) : Nat) : Int)), t1, t2] ∧ Same H H' ∧ H' p = some (.lst vs) ∧ IsEs H' vs (es.take i))
      ⟨[], none, none, rfl, L2.Same.new1 hp, upd_same, .nil⟩ ?_ ?_⟩
    · rintro i σ H' hi ⟨vs, t1, t2, rfl, z1, z2, z3⟩
      have hi' : i < es.length := by omega
      have he := List.getElem?_eq_getElem hi'
      have hge := ge _ (List.mem_of_getElem? he)
      have ht := lsz_take he
      obtain ⟨A', B, eA, lA⟩ := leaf_split (nx := nx) he
      refine ⟨_, rfl, _, rfl, .ref a, A', B, _, by rw [lA]; rfl, ⟨a, rfl, by rw [← eA]; exact z1 _ _ ha⟩, hge, fun v2 H2 e2 zz => ?_⟩
      obtain ⟨u, ⟨t, rfl, htt⟩, hu⟩ := zz
      refine ⟨t, _, rfl, SqT.of htt, rfl, _, _, rfl, _, _, rfl, rfl, ?_⟩
      refine ⟨_, rfl, .inl ⟨rfl, _, SqL.of (e2 _ _ z2)⟩, _, rfl, p, _, _, rfl, rfl, e2 _ _ z2, sz_lt ?_, ?_⟩
      · rw [z3.length, List.length_take]; omega
      refine ⟨vs ++ [u], some (.int (0 + (i : Int))), some u, ?_, L2.Same.mut (z1.trans e2) hp, upd_same, ?_⟩
      · rw [ht, lA, show 12 + lsz (es.take i) + esz es[i] = 12 + (lsz (es.take i) + esz es[i]) by omega]
        rfl
      · rw [take_snoc he]
        have tp := Tups.upd (Tups.refl H2) (o := .lst (vs ++ [u])) (e2 _ _ z2) (fun _ q => by cases q)
        exact Paired.append ((z3.same e2).tups tp) (.cons (hu.tups tp) .nil)
    · rintro σ H' ⟨vs, t1, t2, rfl, z1, z2, z3⟩
      rw [Int.toNat_natCast, List.take_length] at z3
      exact ⟨_, rfl, k _ _ z1 ⟨⟨p, vs, rfl, z2, z3⟩, p, rfl, hp⟩⟩
def spInnerP : Sp := fun vs H Q _ => ∃ v u, ∃ ws : List Ent, ∃ c : Nat, ∃ ds : List Nat, vs = [v, u] ∧ IsEL H v ws ∧ IsNL H u (c :: ds) ∧ (∀ e ∈ ws, GE e) ∧ ds.length = ws.length ∧ isz ws (ds.length + 1) ≤ 116 ∧
  Ret H (fun v H' => IsI H' v (innerPg ws (c :: ds))) Q
abbrev s_inner_page : Stmt := top 42
abbrev N_inner_page : List Str := ["walls", "children", "page", "at", "wall", "child", "data"]
theorem sc_inner_page : FnScope N_inner_page ["walls", "children"] (defScope s_inner_page) := ⟨rfl, rfl, rfl, by decide +kernel, rfl, by decide +kernel, by decide +kernel⟩
theorem ok_inner_page (F : At K mg "inner_page" s_inner_page) (T : Txt K mg C) (D_with_bytes : Df P w K mg base "with_bytes" 1 ["page", "at", "data"] spWb) (D_blank_page : Df P w K mg base "blank_page" 3 ["kind"] spBlank) (D_bytes_of : Df P w K mg base "bytes_of" 1 ["number", "width"] spB2) (D_entry_bytes : Df P w K mg base "entry_bytes" 2 ["entry"] spEntB) : Df P w K mg base "inner_page" 4 ["walls", "children"] spInnerP := by
  refine F.df sc_inner_page (fun _ _ _ _ _ _ us hl => match us, hl with | [_, _], _ => rfl) (fun vs H Q E h => ?_) (fun f cdv A outer s H vs Q E hr h => ?_)
  · obtain ⟨v, u, ws, c, ds, rfl, _⟩ := h; rfl
  · obtain ⟨v, u, ws, c, ds, rfl, ⟨a, xs, rfl, ha, hws⟩, ⟨b, rfl, hb⟩, ge, hl, hz, k⟩ := h
    refine ⟨_, (pss_cons (ps_set (i := 2) sc_inner_page.nd rfl (Or.inl rfl) (pe_cd D_with_bytes (hr.mono (by omega)) (pa_cons (pe_cd D_blank_page (hr.mono (by omega)) (pa_cons (pe_glI T.c_INNER) pa_nil)) (pa_cons (pe_glI T.c_HEAD) (pa_cons (pe_cd D_bytes_of (hr.mono (by omega)) (pa_cons (pe_ix ix_list (pv 1) pe_int (fun _ _ => rfl)) (pa_cons pe_int pa_nil))) pa_nil)))))
  (pss_cons (ps_set (i := 3) sc_inner_page.nd rfl (Or.inl rfl) (pe_op op_add (pe_glI T.c_HEAD) pe_int))
  (pss_cons (ps_for PassesOwn.never rfl (pi_zip (by rfl) T.zip (pa_cons (pv 0) (pa_cons (pe_slice sl_list (pv 1) (po_some pe_int) po_none) pa_nil))) (pg_tup (by rfl) (pgs_cons (pg_name (i := 4) sc_inner_page.nd rfl (Or.inl rfl)) (pgs_cons (pg_name (i := 5) sc_inner_page.nd rfl (Or.inl rfl)) pgs_nil)))
  (pss_cons (ps_set (i := 6) sc_inner_page.nd rfl (Or.inl rfl) (pe_tup (StX.pa_star (pe_cd D_entry_bytes (hr.mono (by omega)) (pa_cons (pv 4) pa_nil)) (StX.pa_star (pe_cd D_bytes_of (hr.mono (by omega)) (pa_cons (pv 5) (pa_cons pe_int pa_nil))) pa_nil))))
  (pss_cons (ps_set (i := 2) sc_inner_page.nd rfl (Or.inl rfl) (pe_cd D_with_bytes (hr.mono (by omega)) (pa_cons (pv 2) (pa_cons (pv 3) (pa_cons (pv 6) pa_nil)))))
  (pss_one (ps_aug (i := 3) sc_inner_page.nd rfl (Or.inl rfl) (pe_callB call_len (by rfl) T.len (by decide +kernel) (pa_cons (pv 6) pa_nil)) ip_add)))))
  (pss_one (ps_ret (pe_cd D_with_bytes (hr.mono (by omega)) (pa_cons (pv 2) (pa_cons pe_int (pa_cons (pe_tup (pa_cons (pe_callB call_len (by rfl) T.len (by decide +kernel) (pa_cons (pv 0) pa_nil)) pa_nil)) pa_nil))))))))), ?_⟩
    have hn := len_of_lsz ge
    have pz := psz_zip ws ds hl
    have hz' : lsz ws + 2 * (ds.length + 1) ≤ 116 := hz
    refine ⟨4, rfl, by decide, by decide, fun u1 H1 e1 z1 => ?_⟩
    refine ⟨_, rfl, b, _, 0, _, rfl, rfl, SqL.of (e1 _ _ hb), atI_nat (j := 0) rfl, c, rfl, by omega, fun d H2 e2 z2 => ?_⟩
    refine ⟨u1, _, 12, d, _, rfl, z1.same e2, z2, (by show 128 ≤ 1000; decide), (by show 2 ≤ 1000; decide), fun pg H3 e3 z3 => ?_⟩
    have w1 := wb_step (k := 4) (n := 0) (nx := 0) (d := []) (x := b2 (c : Int)) (by show 2 ≤ 116; decide)
    rw [show wb (blankPg 4) 12 (b2 (c : Int)) = hd 4 0 0 ++ body (b2 (c : Int)) from w1] at z3
    have e123 := (e1.trans e2).trans e3
    refine ⟨_, _, rfl, rfl, ?_⟩
    refine ⟨_, rfl, _, rfl, _, rfl, b, _, rfl, SqL.of (e123 _ _ hb), fun q hq => ?_⟩
    have eq1 : cutV (nv (c :: ds)) (some 1) none = nv ds := cut_from (xs := nv (c :: ds)) 1
    refine ⟨a, q, xs, nv ds, rfl, SqL.of ((e123.new hq) _ _ ha), SqL.of (by rw [upd_same, eq1]), RZ.for_zipL (by rw [hws.length, nv_len, hl]) (fun i σ H' => ∃ pg t1 t2 t3, σ = [some (.ref a), some (.ref b), some pg, some (.int ((14 + psz ((ws.zip ds).take i) : Nat) : Int)), t1, t2, t3] ∧ Same H H' ∧ H' q = some (.lst (nv ds)) ∧ H q = none ∧ IsI H' pg (hd 4 0 0 ++ body (b2 (c : Int) ++ pairsB ((ws.zip ds).take i))))
      ⟨pg, none, none, none, rfl, e123.new hq, by rw [upd_same, eq1], e123.free hq, ?_⟩ (fun i σ H' ⟨_, _, _, _, _, z, y, _⟩ => ⟨SqL.of (z _ _ ha), SqL.of y⟩) ?_ ?_⟩
    · have z4 := z3.same (L2.Same.new1 (o := .lst (cutV (nv (c :: ds)) (some 1) none)) hq)
      simpa [pairsB] using z4
    · rintro i x y Tt σ H' hx hy ⟨pg, t1, t2, t3, rfl, y1, y2, y3, y4⟩ hT
      obtain ⟨e, he, ze⟩ := Paired.get' hws hx
      obtain ⟨dd, hd', rfl⟩ := nv_get' hy
      have hge := ge e (List.mem_of_getElem? he)
      have hp : (ws.zip ds)[i]? = some (e, dd) := List.getElem?_zip_eq_some.mpr ⟨he, hd'⟩
      have ht : psz ((ws.zip ds).take (i + 1)) = psz ((ws.zip ds).take i) + (esz e + 2) := psz_take hp
      have ht2 := psz_take_le (ws.zip ds) (i + 1)
      have n1 := L2.Same.new1 (o := .tup [x, .int (dd : Int)]) hT
      refine ⟨Tt, _, rfl, SqT.of upd_same, rfl, _, _, rfl, _, _, rfl, rfl, ?_⟩
      refine ⟨_, rfl, x, e, rfl, (ze.same y1).same n1, hge, fun d1 H4 e4 z4 => ?_⟩
      obtain ⟨p4, rfl, h4⟩ := z4
      refine ⟨p4, _, rfl, .inl (SqT.of h4), ?_⟩
      refine ⟨_, rfl, dd, rfl, by omega, fun d2 H5 e5 z5 => ?_⟩
      obtain ⟨p5, rfl, h5⟩ := z5
      refine ⟨p5, _, rfl, .inl (SqT.of h5), ?_⟩
      have e6 : iv (entB e) ++ (iv (b2 (dd : Int)) ++ []) = iv (pairB (e, dd)) := by rw [List.append_nil, iv_app]; rfl
      have l6 : (pairB (e, dd)).length = esz e + 2 := pairB_len _
      have l7 : esz e ≤ 24 := esz_le hge
      refine ⟨?_, fun p6 h6 => ?_⟩
      · have e7 := congrArg List.length e6
        rw [iv_len, l6] at e7
        exact Nat.le_trans (Nat.le_of_eq e7) (sz_of (by omega))
      have e45 := (((y1.trans n1).trans e4).trans e5)
      refine ⟨_, rfl, _, rfl, _, rfl, pg, _, 14 + psz ((ws.zip ds).take i), .ref p6, pairB (e, dd), rfl, ((((y4.same n1).same e4).same e5).same (L2.Same.new1 h6)), isI_new e6, ?_, ?_, fun pg' H7 e7 z7 => ?_⟩
      · rw [pg_len (by rw [List.length_append, b2_len, pairsB_len]; omega)]; decide
      · rw [l6]; omega
      refine ⟨_, rfl, _, rfl, _, esz e + 2, rfl, .inr ⟨_, SqT.of (e7 _ _ (by rw [upd_same, e6])), by rw [iv_len, l6]⟩, _, _, rfl, rfl, ?_⟩
      refine ⟨pg', some x, some (.int (dd : Int)), some (.ref p6), ?_, (e45.new h6).trans e7, ?_, y3, ?_⟩
      · rw [ht]
        show [_, _, _, some (V.int (((14 + psz ((ws.zip ds).take i) : Nat) : Int) + ((esz e + 2 : Nat) : Int))), _, _, _] = _
        rw [show ((14 + psz ((ws.zip ds).take i) : Nat) : Int) + ((esz e + 2 : Nat) : Int) = ((14 + (psz ((ws.zip ds).take i) + (esz e + 2)) : Nat) : Int) by omega]
      · exact e7 _ _ ((((n1.trans e4).trans e5).new h6) _ _ y2)
      · have w1 := wb_step (k := 4) (n := 0) (nx := 0) (d := b2 (c : Int) ++ pairsB ((ws.zip ds).take i)) (x := pairB (e, dd)) (by rw [List.length_append, b2_len, pairsB_len, l6]; omega)
        rw [List.length_append, b2_len, pairsB_len, show 12 + (2 + psz ((ws.zip ds).take i)) = 14 + psz ((ws.zip ds).take i) by omega] at w1
        rw [w1] at z7
        rw [take_snoc hp, pairsB_app, pairsB_one, ← List.append_assoc]
        exact z7
    · rintro σ H' ⟨pg, t1, t2, t3, rfl, y1, y2, y3, y4⟩
      have el : (ws.zip ds).take xs.length = ws.zip ds := List.take_of_length_le (by rw [List.length_zip, hws.length, hl]; omega)
      rw [el] at y4
      refine ⟨_, rfl, _, rfl, _, ws.length, rfl, .inl ⟨_, SqL.of (y1 _ _ ha), hws.length.symm⟩, (by show 1 ≤ sizeLine; decide), fun t ht => ?_⟩
      refine ⟨pg, _, 7, .ref t, [(ws.length : Int)], rfl, y4.same (L2.Same.new1 ht), isI_new rfl, ?_, (by show 1 ≤ 1000; decide), k.go (y1.new ht)⟩
      rw [pg_len (by rw [List.length_append, b2_len, pairsB_len]; omega)]; decide
end
end K7
namespace K7
open PySem PySem.Spec PyProof.Rows L2
/-! rules whose written part is told (within a comprehension) -/
section
variable {X : Cx}
theorem sl_listK (K : PySem.W.Frag) (h : X.K = K := by rfl) : SlR X (rSlL K) := h ▸ sl_list
theorem ix_listK (K : PySem.W.Frag) (h : X.K = K := by rfl) : IxR X (rIxL K) := h ▸ ix_list
theorem ix_tupK (K : PySem.W.Frag) (h : X.K = K := by rfl) : IxR X (rIxT K) := h ▸ ix_tup
theorem call_lenK (K : PySem.W.Frag) (h : X.K = K := by rfl) : CallR X (.builtin "len") (fun xs H Q => ∃ x n, xs = [x] ∧ LenV K x H n ∧ Q (.int n) H) := h ▸ call_len
theorem cr_sumK (K : PySem.W.Frag) (h : X.K = K := by rfl) (hc : X.calm = true := by rfl) : CallR X (.builtin "sum") (rSum K) := h ▸ cr_sum hc
theorem op_neDK (K : PySem.W.Frag) (hu : X.A.units + 64 < cLine) (h : X.K = K := by rfl) : OpR X (compareOp .NotEq) (rNeD K) := h ▸ op_neD hu
end
section
variable {P : Program} {w : World} {K : PySem.W.Frag} {mg : Str → Option Value} {base : Heap} {C : Addr}
/-- v is a tuple of these walls and these children -/
def IsWC (H : Hp) (v : V) (ws : List Ent) (cs : List Nat) : Prop := ∃ a x y, v = .ref a ∧ H a = some (.tup [x, y]) ∧ IsEL H x ws ∧ IsNL H y cs
theorem IsWC.same {H H' : Hp} {v : V} {ws : List Ent} {cs : List Nat} (h : IsWC H v ws cs) (e : Same H H') : IsWC H' v ws cs := by
  obtain ⟨a, x, y, rfl, h1, h2, h3⟩ := h
  exact ⟨a, x, y, rfl, e _ _ h1, h2.same e, h3.same e⟩
def spParts : Sp := fun vs H Q _ => ∃ v, ∃ ws : List Ent, ∃ c : Nat, ∃ ds : List Nat, vs = [v] ∧ IsI H v (innerPg ws (c :: ds)) ∧ (∀ e ∈ ws, GE e) ∧ ds.length = ws.length ∧ isz ws (ds.length + 1) ≤ 116 ∧ (∀ d ∈ c :: ds, d ≤ 65535) ∧
  Ret H (fun v H' => IsWC H' v ws (c :: ds)) Q
abbrev s_inner_parts : Stmt := top 43
abbrev N_inner_parts : List Str := ["page", "walls", "children", "at", "turn", "wall"]
theorem sc_inner_parts : FnScope N_inner_parts ["page"] (defScope s_inner_parts) := ⟨rfl, rfl, rfl, by decide +kernel, rfl, by decide +kernel, by decide +kernel⟩
theorem ok_inner_parts (F : At K mg "inner_parts" s_inner_parts) (T : Txt K mg C) (D_read_entry : Df P w K mg base "read_entry" 2 ["page", "at"] spReadE) (D_number_of : Df P w K mg base "number_of" 1 ["data"] spNumOf) : Df P w K mg base "inner_parts" 3 ["page"] spParts := by
  refine F.df sc_inner_parts (fun _ _ _ _ _ _ us hl => match us, hl with | [_], _ => rfl) (fun vs H Q E h => ?_) (fun f cdv A outer s H vs Q E hr h => ?_)
  · obtain ⟨v, ws, c, ds, rfl, _⟩ := h; rfl
  · obtain ⟨v, ws, c, ds, rfl, ⟨a, rfl, ha⟩, ge, hl, hz, hd, k⟩ := h
    refine ⟨_, (pss_cons (ps_par3 (i := 1) (j := 2) (l := 3) (by rfl) sc_inner_parts.nd rfl rfl rfl (by decide) (by decide) (by decide) rfl rfl rfl (pa_cons (pe_lst pa_nil) (pa_cons (pe_lst (pa_cons (pe_cd D_number_of (hr.mono (by omega)) (pa_cons (pe_slice sl_tupA (pv 0) (po_some (pe_glI T.c_HEAD)) (po_some (pe_op op_add (pe_glI T.c_HEAD) pe_int))) pa_nil)) pa_nil)) (pa_cons (pe_op op_add (pe_glI T.c_HEAD) pe_int) pa_nil))) (by rfl))
  (pss_cons (ps_for PassesOwn.never rfl (pi_range1 rfl T.range (pa_cons (pe_ix ix_tup (pv 0) pe_int (fun _ _ => rfl)) pa_nil)) (pg_name (i := 4) sc_inner_parts.nd rfl (Or.inl rfl))
  (pss_cons (ps_asg (pe_cd D_read_entry (hr.mono (by omega)) (pa_cons (pv 0) (pa_cons (pv 3) pa_nil))) (pg_tup (by rfl) (pgs_cons (pg_name (i := 5) sc_inner_parts.nd rfl (Or.inl rfl)) (pgs_cons (pg_name (i := 3) sc_inner_parts.nd rfl (Or.inl rfl)) pgs_nil))))
  (pss_cons (ps_expr (pe_bm PySem.F.plainAttrs_list PySem.F.slot_list_append PySem.F.type_list_append mt_append (pv 1) (pa_cons (pv 5) pa_nil)))
  (pss_cons (ps_expr (pe_bm PySem.F.plainAttrs_list PySem.F.slot_list_append PySem.F.type_list_append mt_append (pv 2) (pa_cons (pe_cd D_number_of (hr.mono (by omega)) (pa_cons (pe_slice sl_tupA (pv 0) (po_some (pv 3)) (po_some (pe_op op_add (pv 3) pe_int))) pa_nil)) pa_nil)))
  (pss_one (ps_aug (i := 3) sc_inner_parts.nd rfl (Or.inl rfl) pe_int ip_add))))))
  (pss_one (ps_ret (pe_tup (pa_cons (pv 1) (pa_cons (pv 2) pa_nil))))))), ?_⟩
    have hn := len_of_lsz ge
    have pz := psz_zip ws ds hl
    have hz' : lsz ws + 2 * (ds.length + 1) ≤ 116 := hz
    refine ⟨Nat.zero_le _, fun pw hpw => ?_⟩
    have a1 := L2.Same.new1 (o := .lst []) hpw _ _ ha
    refine ⟨_, rfl, _, rfl, _, _, rfl, rfl, _, rfl, slA a1 fun p1 H1 e1 h1 => ?_⟩
    have c1 : cutV (iv (innerPg ws (c :: ds))) (some 12) (some (12 + 2)) = iv (((innerPg ws (c :: ds)).drop 12).take 2) := by
      rw [show (12 : Int) = ((12 : Nat) : Int) from rfl, show ((12 : Nat) : Int) + 2 = ((14 : Nat) : Int) from rfl, cut_mid 12 14 (by rw [iv_len, (innerPg_ok (ws := ws) (cs := c :: ds) ge (by simpa using hl) hz).len]; decide) (by decide), iv_drop, iv_take]
    have hc1 := hd c List.mem_cons_self
    have e01 := (L2.Same.new1 (o := .lst []) hpw).trans e1
    refine ⟨.ref p1, _, rfl, ⟨p1, rfl, by rw [h1, c1]⟩, (by show 1 ≤ sizeLine; decide), fun pc hpc => ?_⟩
    rw [innerPg_first ws c ds hc1]
    have npw : pw ≠ pc := fun q => by
      rw [← q] at hpc
      have z := e1 pw _ upd_same
      rw [z] at hpc
      cases hpc
    refine ⟨_, _, rfl, rfl, _, _, _, rfl, ?_⟩
    have e02 := e01.new (o := .lst [V.int (c : Int)]) hpc
    have fpc : H pc = none := e01.free hpc
    refine ⟨_, rfl, a, _, 7, _, rfl, rfl, SqT.of (e02 _ _ ha), atI_nat (j := 7) (iv_get (innerPg_num ws _)), _, rfl, by omega, by omega, for_range (lo := 0) (n := ((ws.length : Nat) : Int).toNat) (fun i σ H' => ∃ vs t1 t2, σ = [some (.ref a), some (.ref pw), some (.ref pc), some (.int ((14 + psz ((ws.zip ds).take i) : Nat) : Int)), t1, t2] ∧ Same H H' ∧ H' pw = some (.lst vs) ∧ IsEs H' vs (ws.take i) ∧ H' pc = some (.lst (nv (c :: ds.take i))))
      ⟨[], none, none, rfl, e02, ?_, .nil, upd_same⟩ ?_ ?_⟩
    · rw [upd_ne npw]
      exact e1 _ _ upd_same
    · rintro i σ H' hi ⟨vs, t1, t2, rfl, z1, z2, z3, z4⟩
      have hi' : i < ws.length := by omega
      have he := List.getElem?_eq_getElem hi'
      have hid : i < ds.length := by omega
      have hdd := List.getElem?_eq_getElem hid
      have hge := ge _ (List.mem_of_getElem? he)
      have hp : (ws.zip ds)[i]? = some (ws[i], ds[i]) := List.getElem?_zip_eq_some.mpr ⟨he, hdd⟩
      have ht : psz ((ws.zip ds).take (i + 1)) = psz ((ws.zip ds).take i) + (esz ws[i] + 2) := psz_take hp
      obtain ⟨A', B, eA, lA⟩ := inner_split (c := c) hp
      have hds : ds[i] ≤ 65535 := hd _ (List.mem_cons_of_mem _ (List.mem_of_getElem? hdd))
      refine ⟨_, rfl, _, rfl, .ref a, A', b2 ((ds[i] : Nat) : Int) ++ B, _, by rw [lA]; rfl, ⟨a, rfl, by rw [← eA]; exact z1 _ _ ha⟩, hge, fun v2 H2 e2 zz => ?_⟩
      obtain ⟨u, ⟨t, rfl, htt⟩, hu⟩ := zz
      refine ⟨t, _, rfl, SqT.of htt, rfl, _, _, rfl, _, _, rfl, rfl, ?_⟩
      have tp := Tups.upd (Tups.refl H2) (o := .lst (vs ++ [u])) (e2 _ _ z2) (fun _ q => by cases q)
      refine ⟨_, rfl, .inl ⟨rfl, _, SqL.of (e2 _ _ z2)⟩, _, rfl, pw, _, _, rfl, rfl, e2 _ _ z2, sz_lt ?_, ?_⟩
      · rw [z3.length, List.length_take]; omega
      have s3 := L2.Same.mut (z1.trans e2) (o := .lst (vs ++ [u])) hpw
      have ea : (upd H2 pw (.lst (vs ++ [u]))) a = some (.tup (iv (innerPg ws (c :: ds)))) := s3 _ _ ha
      have c2 : cutV (iv (innerPg ws (c :: ds))) (some ((A'.length + esz ws[i] : Nat) : Int)) (some (((A'.length + esz ws[i] : Nat) : Int) + 2)) = iv (b2 ((ds[i] : Nat) : Int)) := by
        have q := cut_app (A := A' ++ entB ws[i]) (B := b2 ((ds[i] : Nat) : Int)) (D := B)
        rw [List.length_append, entB_len, b2_len, List.append_assoc, ← eA] at q
        exact q
      have npw2 : pc ≠ pw := npw.symm
      refine ⟨_, rfl, .inl ⟨rfl, _, SqL.of (by rw [upd_ne npw2]; exact e2 _ _ z4)⟩, _, rfl, _, rfl, _, rfl, _, rfl, _, _, rfl, rfl, _, rfl, slA ea fun p3 H3 e3 h3 => ?_⟩
      refine ⟨.ref p3, _, rfl, ⟨p3, rfl, by rw [h3, c2]⟩, ?_⟩
      rw [numOf_b2 (by omega) (by omega)]
      have z5 : H3 pc = some (.lst (nv (c :: ds.take i))) := e3 _ _ (by rw [upd_ne npw2]; exact e2 _ _ z4)
      refine ⟨pc, _, _, rfl, rfl, z5, sz_lt ?_, ?_⟩
      · rw [nv_len, List.length_cons, List.length_take]; omega
      have z6 : H3 pw = some (.lst (vs ++ [u])) := e3 _ _ upd_same
      have tp2 := (tp.trans (.of e3)).upd (o := .lst (nv (c :: ds.take i) ++ [V.int ((ds[i] : Nat) : Int)])) (e2 _ _ z4) (fun _ q => by cases q)
      refine ⟨_, rfl, _, _, rfl, rfl, ?_⟩
      refine ⟨vs ++ [u], some (.int (0 + (i : Int))), some u, ?_, L2.Same.mut (s3.trans e3) fpc, by rw [upd_ne npw]; exact z6, ?_, ?_⟩
      · rw [ht]
        show [_, _, _, some (V.int (((A'.length + esz ws[i] : Nat) : Int) + 2)), _, _] = _
        rw [lA, show ((14 + psz ((ws.zip ds).take i) + esz ws[i] : Nat) : Int) + 2 = ((14 + (psz ((ws.zip ds).take i) + (esz ws[i] + 2)) : Nat) : Int) by omega]
      · rw [take_snoc he]
        exact Paired.append ((z3.same e2).tups tp2) (.cons (hu.tups tp2) .nil)
      · rw [upd_same, take_snoc hdd, show c :: (ds.take i ++ [ds[i]]) = (c :: ds.take i) ++ [ds[i]] from rfl, nv_app]
        rfl
    · rintro σ H' ⟨vs, t1, t2, rfl, z1, z2, z3, z4⟩
      rw [Int.toNat_natCast] at z3 z4
      rw [List.take_length] at z3
      rw [List.take_of_length_le (by omega)] at z4
      refine ⟨_, rfl, _, rfl, (by show 2 ≤ sizeLine; decide), fun t ht => ?_⟩
      have n1 := L2.Same.new1 (o := .tup [.ref pw, .ref pc]) ht
      exact k _ _ (z1.new ht) ⟨t, _, _, rfl, upd_same, ⟨pw, vs, rfl, n1 _ _ z2, z3.same n1⟩, pc, rfl, n1 _ _ z4⟩
def spChkNode : Sp := fun vs H Q _ => ∃ v ns x, vs = [v] ∧ IsI H v ns ∧ ns[6]? = some x ∧ (x = 3 ∨ x = 4) ∧ ∀ H', Same H H' → Q .non H'
abbrev s_check_node : Stmt := top 44
abbrev N_check_node : List Str := ["page"]
theorem sc_check_node : FnScope N_check_node ["page"] (defScope s_check_node) := ⟨rfl, rfl, rfl, by decide +kernel, rfl, by decide +kernel, by decide +kernel⟩
theorem ok_check_node (F : At K mg "check_node" s_check_node) (T : Txt K mg C) (D_kind_of : Df P w K mg base "kind_of" 1 ["page"] spKind) : Df P w K mg base "check_node" 2 ["page"] spChkNode := by
  refine F.df sc_check_node (fun _ _ _ _ _ _ us hl => match us, hl with | [_], _ => rfl) (fun vs H Q E h => ?_) (fun f cdv A outer s H vs Q E hr h => ?_)
  · obtain ⟨v, ns, x, rfl, _⟩ := h; rfl
  · obtain ⟨v, ns, x, rfl, hv, hx, hc, k⟩ := h
    refine ⟨_, (pss_one (ps_if (pt_cmpR op_notIn_seq (pe_cd D_kind_of (hr.mono (by omega)) (pa_cons (pv 0) pa_nil)) (pe_tup (pa_cons (pe_glI T.c_LEAF) (pa_cons (pe_glI T.c_INNER) pa_nil))) rfl)
  (pss_one ps_never)
  pss_nil)), ?_⟩
    refine ⟨_, rfl, v, ns, x, rfl, hv, hx, (by show 2 ≤ sizeLine; decide), fun t ht => ?_⟩
    refine ⟨t, _, rfl, .inr (SqT.of upd_same), rfl, rfl, _, rfl, ?_⟩
    have e : (!inV (V.int x) [V.int 3, V.int 4]) = false := by
      rcases hc with rfl | rfl <;> rfl
    show if (!inV (V.int x) [V.int 3, V.int 4]) = true then _ else _
    rw [e]
    exact iteF (k _ (L2.Same.new1 ht))
def spIsLeaf : Sp := fun vs H Q _ => ∃ v ns x, vs = [v] ∧ IsI H v ns ∧ ns[6]? = some x ∧ (x = 3 ∨ x = 4) ∧ ∀ H', Same H H' → Q (.bl (decide (x = 3))) H'
abbrev s_is_leaf : Stmt := top 45
abbrev N_is_leaf : List Str := ["page"]
theorem sc_is_leaf : FnScope N_is_leaf ["page"] (defScope s_is_leaf) := ⟨rfl, rfl, rfl, by decide +kernel, rfl, by decide +kernel, by decide +kernel⟩
theorem ok_is_leaf (F : At K mg "is_leaf" s_is_leaf) (T : Txt K mg C) (D_check_node : Df P w K mg base "check_node" 2 ["page"] spChkNode) (D_kind_of : Df P w K mg base "kind_of" 1 ["page"] spKind) : Df P w K mg base "is_leaf" 3 ["page"] spIsLeaf := by
  refine F.df sc_is_leaf (fun _ _ _ _ _ _ us hl => match us, hl with | [_], _ => rfl) (fun vs H Q E h => ?_) (fun f cdv A outer s H vs Q E hr h => ?_)
  · obtain ⟨v, ns, x, rfl, _⟩ := h; rfl
  · obtain ⟨v, ns, x, rfl, hv, hx, hc, k⟩ := h
    refine ⟨_, (pss_cons (ps_expr (pe_cd D_check_node (hr.mono (by omega)) (pa_cons (pv 0) pa_nil)))
  (pss_one (ps_ret (pe_cmpR op_eq (pe_cd D_kind_of (hr.mono (by omega)) (pa_cons (pv 0) pa_nil)) (pe_glI T.c_LEAF) (nomark _))))), ?_⟩
    refine ⟨_, rfl, v, ns, x, rfl, hv, hx, hc, fun H1 e1 => ?_⟩
    refine ⟨_, rfl, v, ns, x, rfl, hv.same e1, hx, rfl, ?_⟩
    have e : decide (V.int x = V.int 3) = decide (x = 3) := by
      rcases hc with rfl | rfl <;> rfl
    show Q (V.bl (decide (V.int x = V.int 3))) H1
    rw [e]
    exact k _ e1
def spLeafN : Sp := fun vs H Q _ => ∃ v, ∃ es : List Ent, ∃ nx : Nat, vs = [v] ∧ IsI H v (leafPg es nx) ∧ lsz es ≤ 116 ∧ nx ≤ 65535 ∧ ∀ H', Same H H' → Q (.int (nx : Int)) H'
abbrev s_leaf_next : Stmt := top 46
abbrev N_leaf_next : List Str := ["page"]
theorem sc_leaf_next : FnScope N_leaf_next ["page"] (defScope s_leaf_next) := ⟨rfl, rfl, rfl, by decide +kernel, rfl, by decide +kernel, by decide +kernel⟩
theorem ok_leaf_next (F : At K mg "leaf_next" s_leaf_next) (T : Txt K mg C) (D_next_of : Df P w K mg base "next_of" 2 ["page"] spNext) : Df P w K mg base "leaf_next" 3 ["page"] spLeafN := by
  refine F.df sc_leaf_next (fun _ _ _ _ _ _ us hl => match us, hl with | [_], _ => rfl) (fun vs H Q E h => ?_) (fun f cdv A outer s H vs Q E hr h => ?_)
  · obtain ⟨v, es, nx, rfl, _⟩ := h; rfl
  · obtain ⟨v, es, nx, rfl, hv, hz, hx, k⟩ := h
    refine ⟨_, (pss_one (ps_ret (pe_cd D_next_of (hr.mono (by omega)) (pa_cons (pv 0) pa_nil)))), ?_⟩
    refine ⟨_, rfl, v, _, rfl, hv, ?_, fun H1 e1 => ?_⟩
    · show 10 ≤ (hd 3 es.length nx ++ body (leafB es)).length
      rw [pg_len (by rw [leafB_len]; exact hz)]; decide
    · rw [leafPg_next es hx]
      exact k _ e1
def spHalf : Sp := fun vs H Q _ => ∃ a ns, vs = [.ref a] ∧ H a = some (.lst (iv ns)) ∧ 2 ≤ ns.length ∧ ns.length ≤ 1000 ∧ ∀ H', Same H H' → Q (.int (half ns : Nat)) H'
abbrev s_half_of : Stmt := top 47
abbrev N_half_of : List Str := ["sizes", "whole", "rows", "many"]
theorem sc_half_of : FnScope N_half_of ["sizes"] (defScope s_half_of) := ⟨rfl, rfl, rfl, by decide +kernel, rfl, by decide +kernel, by decide +kernel⟩
def rowsP (ns : List Int) (i : Nat) : List (Int × Int) := (List.range i).map fun j => (dist ns (1 + j), ((1 + j : Nat) : Int))
theorem rowsP_succ (ns : List Int) (i : Nat) : rowsP ns (i + 1) = rowsP ns i ++ [(dist ns (1 + i), ((1 + i : Nat) : Int))] := by
  unfold rowsP
  rw [List.range_succ, List.map_append]
  rfl
theorem half_of_min {ns : List Int} (h2 : 2 ≤ ns.length) {p : Int × Int} (hp : p ∈ rowsP ns (ns.length - 1)) (hm : ∀ q ∈ rowsP ns (ns.length - 1), ltS q p = false) : p.2 = (half ns : Nat) := by
  unfold rowsP at hp hm
  obtain ⟨j, hj, rfl⟩ := List.mem_map.mp hp
  have hj' := List.mem_range.mp hj
  show (((1 + j : Nat) : Int)) = _
  have e : 1 + j = half ns := half_uniq h2 (by omega) (by omega) fun i i1 i2 => by
    have z := hm (dist ns i, (i : Int)) (List.mem_map.mpr ⟨i - 1, List.mem_range.mpr (by omega), by rw [show 1 + (i - 1) = i by omega]⟩)
    rw [Bool.eq_false_iff, ne_eq, ltS_of] at z
    refine ⟨by omega, fun q => by omega⟩
  rw [e]
theorem ok_half_of (F : At K mg "half_of" s_half_of) (T : Txt K mg C)  : Df P w K mg base "half_of" 1 ["sizes"] spHalf := by
  refine F.df sc_half_of (fun _ _ _ _ _ _ us hl => match us, hl with | [_], _ => rfl) (fun vs H Q E h => ?_) (fun f cdv A outer s H vs Q E hr h => ?_)
  · obtain ⟨a, ns, rfl, _⟩ := h; rfl
  · obtain ⟨a, ns, rfl, ha, h2, hl, k⟩ := h
    refine ⟨_, (pss_cons (ps_set (i := 1) sc_half_of.nd rfl (Or.inr rfl) (pe_callB (cr_sum rfl) (by rfl) T.sum (by decide +kernel) (pa_cons (pv 0) pa_nil)))
  (pss_cons (ps_setLc (i := 2) (own := [("many", 3)]) (g := gName 3) (tt := tYes) rfl sc_half_of.nd rfl rfl (sw_true rfl rfl rfl (by decide +kernel)) (pi_range2 rfl T.range (pa_cons pe_int (pa_cons (pe_callB call_len (by rfl) T.len (by decide +kernel) (pa_cons (pv 0) pa_nil)) pa_nil))) (blkOk_by (own := [("many", 3)]) (N := N_half_of) (sc := defScope s_half_of) (by decide +kernel)) (fun _ _ _ _ _ => pg_name (i := 3) sc_half_of.nd rfl (Or.inl rfl)) (fun _ _ _ _ _ => pts_nil) (fun _ _ _ _ _ => (pe_tup (pa_cons (pe_callB call_abs (by rfl) T.abs (by decide +kernel) (pa_cons (pe_op op_sub (pv 1) (pe_op op_mul pe_int (pe_callB (cr_sumK K) (by rfl) T.sum (by decide +kernel) (pa_cons (pe_slice (sl_listK K) (pv 0) po_none (po_some (pv 3))) pa_nil)))) pa_nil)) (pa_cons (pv 3) pa_nil)))))
  (pss_one (ps_ret (pe_ix ix_tup (pe_callB (cr_minP rfl (hu64 hr)) (by rfl) T.min (by decide +kernel) (pa_cons (pv 2) pa_nil)) pe_int (fun _ _ => rfl)))))), ?_⟩
    refine ⟨_, rfl, a, ns, rfl, SqL.of ha, ?_⟩
    refine ⟨_, rfl, _, ns.length, rfl, .inl ⟨_, SqL.of ha, (iv_len ns).symm⟩, 1, ns.length, rfl, ⟨by decide, by decide, by omega, by omega⟩, fun D hD => lc_range (lo := 1) (n := ((ns.length : Int) - 1).toNat)
      (fun i H' => Same H H' ∧ ∃ xs, H' D = some (.lst xs) ∧ Paired (IsP H') xs (rowsP ns i) ∧ xs.length = i) ⟨L2.Same.new1 hD, [], upd_same, .nil, rfl⟩ ?_ ?_⟩
    · intro i H' hi ⟨z1, xs, z2, z3, z4⟩
      have ha1 := z1 _ _ ha
      refine ⟨rfl, ?_⟩
      refine ⟨_, rfl, _, rfl, _, rfl, _, rfl, a, _, rfl, SqL.of ha1, fun p hp => ?_⟩
      have ec : cutV (iv ns) none (some (1 + (i : Int))) = iv (ns.take (1 + i)) := by
        rw [show (1 : Int) + (i : Int) = ((1 + i : Nat) : Int) by omega, cut_to, iv_take]
      refine ⟨p, ns.take (1 + i), rfl, SqL.of (by rw [upd_same]; exact congrArg (fun z => some (HO.lst z)) ec), _, _, rfl, rfl, .inl ⟨by decide, by decide⟩, _, _, rfl, rfl, _, rfl, _, rfl, (by show 2 ≤ sizeLine; decide), fun t ht => ?_⟩
      have n1 := (L2.Same.new1 (o := .lst (cutV (iv ns) none (some (1 + (i : Int))))) hp).new (o := .tup [V.int (dist ns (1 + i)), V.int (1 + (i : Int))]) ht
      have hn1 := n1 _ _ z2
      refine ⟨xs, hn1, sz_lt (by omega), L2.Same.mut (z1.trans n1) hD, _, upd_same, ?_, by rw [List.length_append, z4]; rfl⟩
      rw [rowsP_succ]
      have tp := Tups.upd (Tups.of n1) (o := .lst (xs ++ [.ref t])) z2 (fun _ q => by cases q)
      refine Paired.append (Paired.mapP z3 fun v p ⟨t, e1, e2⟩ => ⟨t, e1, tp _ _ e2⟩) (.cons ⟨t, rfl, ?_⟩ .nil)
      have ntD : t ≠ D := fun q => by
        rw [q] at ht
        rw [upd_ne (ne_of_none z2 hp)] at ht
        rw [z2] at ht
        cases ht
      rw [upd_ne ntD, upd_same]
      show some (HO.tup [V.int (dist ns (1 + i)), V.int (1 + (i : Int))]) = _
      rw [show (1 : Int) + (i : Int) = ((1 + i : Nat) : Int) by omega]
    · intro H' ⟨z1, xs, z2, z3, z4⟩
      rw [show ((ns.length : Int) - 1).toNat = ns.length - 1 by omega] at z3
      refine ⟨_, rfl, D, xs, _, rfl, z2, z3, ?_, fun v p ⟨t, e1, e2⟩ hp hm => ?_⟩
      · intro q
        have q2 := congrArg List.length q
        unfold rowsP at q2
        rw [List.length_map, List.length_range] at q2
        simp at q2
        omega
      · subst e1
        refine ⟨t, _, 1, _, rfl, rfl, SqT.of e2, atI_nat (j := 1) rfl, ?_⟩
        rw [half_of_min h2 hp hm]
        exact k _ z1
end
end K7
namespace K7
open PySem PySem.Spec PyProof.Rows L2
/-! ### dicts by numbers -/
theorem nodup_bound : ∀ (B : Nat) (l : List Nat), l.Nodup → (∀ x ∈ l, x < B) → l.length ≤ B
  | 0, l, _, h => by
    cases l with
    | nil => exact Nat.le_refl _
    | cons x xs => exact absurd (h x List.mem_cons_self) (Nat.not_lt_zero _)
  | B + 1, l, hn, h => by
    have h1 : (l.erase B).Nodup := hn.erase B
    have h2 := nodup_bound B (l.erase B) h1 fun x hx => by
      have a := h x (List.mem_of_mem_erase hx)
      have b : x ≠ B := fun e => by
        subst e
        exact (List.Nodup.not_mem_erase hn) hx
      omega
    by_cases m : B ∈ l
    · rw [List.length_erase_of_mem m] at h2
      omega
    · rw [List.erase_of_not_mem m] at h2
      omega
theorem nodup_map_on {α β : Type} {f : α → β} : ∀ {l : List α}, (∀ a ∈ l, ∀ b ∈ l, f a = f b → a = b) → l.Nodup → (l.map f).Nodup
  | [], _, _ => List.nodup_nil
  | x :: xs, h, hn => by
    obtain ⟨h1, h2⟩ := List.nodup_cons.mp hn
    rw [List.map_cons]
    refine List.nodup_cons.mpr ⟨fun m => ?_, nodup_map_on (fun a ha b hb => h a (List.mem_cons_of_mem _ ha) b (List.mem_cons_of_mem _ hb)) h2⟩
    obtain ⟨y, hy, e⟩ := List.mem_map.mp m
    have := h y (List.mem_cons_of_mem _ hy) x List.mem_cons_self e
    rw [this] at hy
    exact h1 hy
/-- all keys are numbers of pages, none twice -/
def NumKeys (kvs : List (Key × V)) : Prop := (kvs.map (·.1)).Nodup ∧ ∀ p ∈ kvs, ∃ n : Nat, n ≤ 65535 ∧ p.1 = .inl (n : Int)
theorem NumKeys.len {kvs : List (Key × V)} (h : NumKeys kvs) : kvs.length ≤ 65536 := by
  obtain ⟨h1, h2⟩ := h
  let f : Key → Nat := fun k => match k with | .inl i => i.toNat | .inr _ => 0
  have e : (kvs.map (·.1)).length = ((kvs.map (·.1)).map f).length := by rw [List.length_map (f := f)]
  have nd : ((kvs.map (·.1)).map f).Nodup := by
    refine nodup_map_on ?_ h1
    intro a ha b hb eq
    obtain ⟨p, hp, rfl⟩ := List.mem_map.mp ha
    obtain ⟨q, hq, rfl⟩ := List.mem_map.mp hb
    obtain ⟨n, _, e1⟩ := h2 p hp
    obtain ⟨m, _, e2⟩ := h2 q hq
    rw [e1, e2] at eq ⊢
    have e3 : n = m := by simpa [f] using eq
    rw [e3]
  have b := nodup_bound 65536 _ nd fun x hx => by
    obtain ⟨k, hk, rfl⟩ := List.mem_map.mp hx
    obtain ⟨p, hp, rfl⟩ := List.mem_map.mp hk
    obtain ⟨n, hn, e1⟩ := h2 p hp
    rw [e1]
    show ((n : Int)).toNat < 65536
    omega
  rw [← e, List.length_map] at b
  exact b
theorem NumKeys.nil : NumKeys [] := ⟨List.nodup_nil, fun _ h => by cases h⟩
theorem NumKeys.put {kvs : List (Key × V)} (h : NumKeys kvs) {n : Nat} (hn : n ≤ 65535) (v : V) : NumKeys (putK kvs (.inl (n : Int)) v) := by
  obtain ⟨h1, h2⟩ := h
  unfold putK
  split
  · refine ⟨?_, fun p hp => ?_⟩
    · have e : (kvs.map fun kv => if kv.1 = Sum.inl (n : Int) then (kv.1, v) else kv).map (·.1) = kvs.map (·.1) := by
        rw [List.map_map]
        refine List.map_congr_left fun x _ => ?_
        show (if x.1 = Sum.inl (n : Int) then (x.1, v) else x).1 = x.1
        split <;> rfl
      rw [e]
      exact h1
    · obtain ⟨q, hq, rfl⟩ := List.mem_map.mp hp
      obtain ⟨m, hm, e⟩ := h2 q hq
      refine ⟨m, hm, ?_⟩
      split <;> exact e
  · rename_i hc
    refine ⟨?_, fun p hp => ?_⟩
    · rw [List.map_append]
      refine nd_snoc h1 fun m => ?_
      obtain ⟨q, hq, e⟩ := List.mem_map.mp m
      exact hc (List.any_eq_true.mpr ⟨q, hq, decide_eq_true e⟩)
    · rcases List.mem_append.mp hp with q | q
      · exact h2 p q
      · rw [List.mem_singleton.mp q]
        exact ⟨n, hn, rfl⟩
theorem merge_self : ∀ (kvs acc : List (Key × V)), ((acc ++ kvs).map (·.1)).Nodup → mergeK acc kvs = acc ++ kvs
  | [], acc, _ => by rw [List.append_nil]; rfl
  | p :: kvs, acc, h => by
    have h0 : valV acc p.1 = none := by
      cases q : valV acc p.1 with
      | none => rfl
      | some v =>
        exfalso
        have m := valV_in q
        rw [List.map_append, List.nodup_append] at h
        exact h.2.2 _ m _ (List.mem_map.mpr ⟨p, List.mem_cons_self, rfl⟩) rfl
    have e : mergeK acc (p :: kvs) = mergeK (acc ++ [p]) kvs := by
      show mergeK (putK acc p.1 p.2) kvs = _
      rw [putK_new _ h0]
    rw [e, merge_self kvs (acc ++ [p]) (by simpa using h)]
    simp
theorem merge_snoc {kvs : List (Key × V)} (h : NumKeys kvs) (k : Key) (v : V) : mergeK [] (kvs ++ [(k, v)]) = putK kvs k v := by
  have e : mergeK [] (kvs ++ [(k, v)]) = putK (mergeK [] kvs) k v := by
    unfold mergeK
    rw [List.foldl_append]
    rfl
  rw [e, merge_self kvs [] (by simpa using h.1)]
  rfl

/-! ### pages in memory -/
abbrev Mem := Nat → Option (List Int)
def setM (M : Mem) (n : Nat) (pg : List Int) : Mem := fun m => if m = n then some pg else M m
theorem setM_same {M : Mem} {n : Nat} {pg : List Int} : setM M n pg n = some pg := if_pos rfl
theorem setM_ne {M : Mem} {n m : Nat} {pg : List Int} (h : m ≠ n) : setM M n pg m = M m := if_neg h
def pf (d : Addr) : List (Str × V) := putF "pages" (.ref d) []
theorem pf_get (d : Addr) : (pf d).lookup ("pages" : Str) = some (.ref d) := by unfold pf; rw [lookup_putF, if_pos rfl]
theorem pf_no (d : Addr) {m : Str} (h : ¬ m = "pages") : (pf d).lookup m = none := by
  unfold pf
  rw [lookup_putF, if_neg h]
  rfl
theorem pf_put (d e : Addr) : putF "pages" (.ref e) (pf d) = pf e := by
  unfold pf
  show (if ("pages" : Str) = "pages" then (("pages" : Str), V.ref e) :: [] else _) = _
  rw [if_pos rfl]
  rfl
theorem pf_len (d : Addr) : (pf d).length = 1 := rfl
/-- at pm stand pages in memory that hold M -/
def IsPM (C : Addr) (H : Hp) (pm : Addr) (M : Mem) : Prop := ∃ dx d kvs, H pm = some (.ins C dx (pf d)) ∧ H d = some (.dK kvs) ∧ NumKeys kvs ∧
  ∀ n pg, M n = some pg → ∃ v, valV kvs (.inl (n : Int)) = some v ∧ IsI H v pg ∧ Pg pg
theorem IsPM.same {C : Addr} {H H' : Hp} {pm : Addr} {M : Mem} (h : IsPM C H pm M) (e : Same H H') : IsPM C H' pm M := by
  obtain ⟨dx, d, kvs, h1, h2, h3, h4⟩ := h
  refine ⟨dx, d, kvs, e _ _ h1, e _ _ h2, h3, fun n pg hn => ?_⟩
  obtain ⟨v, a, b, c⟩ := h4 n pg hn
  exact ⟨v, a, b.same e, c⟩
theorem IsPM.pg {C : Addr} {H : Hp} {pm : Addr} {M : Mem} (h : IsPM C H pm M) {n : Nat} {pg : List Int} (hn : M n = some pg) : Pg pg := by
  obtain ⟨dx, d, kvs, h1, h2, h3, h4⟩ := h
  obtain ⟨v, a, b, c⟩ := h4 n pg hn
  exact c
theorem IsPM.weak {C : Addr} {H : Hp} {pm : Addr} {M M' : Mem} (h : IsPM C H pm M) (e : ∀ n pg, M' n = some pg → M n = some pg) : IsPM C H pm M' := by
  obtain ⟨dx, d, kvs, h1, h2, h3, h4⟩ := h
  exact ⟨dx, d, kvs, h1, h2, h3, fun n pg hn => h4 n pg (e n pg hn)⟩
theorem But.tups {H H' : Hp} {p : Addr} {C dx : Addr} {fs : List (Str × V)} (h : But [p] H H') (hp : H p = some (.ins C dx fs)) : Tups H H' := fun a xs e => by
  refine h a _ ?_ e
  intro m
  rw [List.mem_singleton] at m
  rw [m, hp] at e
  cases e
theorem IsPM.at_ {C : Addr} {H : Hp} {pm : Addr} {M : Mem} (h : IsPM C H pm M) : ∃ dx d, H pm = some (.ins C dx (pf d)) := by
  obtain ⟨dx, d, kvs, h1, _⟩ := h
  exact ⟨dx, d, h1⟩
theorem IsPM.tups {C : Addr} {H H' : Hp} {pm : Addr} {M : Mem} (h : IsPM C H pm M) (b : But [pm] H H') : Tups H H' := by
  obtain ⟨dx, d, h1⟩ := h.at_
  exact b.tups h1
section
variable {P : Program} {w : World} {K : PySem.W.Frag} {mg : Str → Option Value} {base : Heap} {C : Addr}
def spChkPN : Sp := fun vs H Q _ => ∃ n : Nat, vs = [.int (n : Int)] ∧ n ≤ 65535 ∧ Q .non H
abbrev s_check_page_number : Stmt := top 75
abbrev N_check_page_number : List Str := ["number"]
theorem sc_check_page_number : FnScope N_check_page_number ["number"] (defScope s_check_page_number) := ⟨rfl, rfl, rfl, by decide +kernel, rfl, by decide +kernel, by decide +kernel⟩
theorem ok_check_page_number (F : At K mg "check_page_number" s_check_page_number) (T : Txt K mg C) (D_is_number : Df P w K mg base "is_number" 1 ["thing", "least", "most"] spNum) : Df P w K mg base "check_page_number" 2 ["number"] spChkPN := by
  refine F.df sc_check_page_number (fun _ _ _ _ _ _ us hl => match us, hl with | [_], _ => rfl) (fun vs H Q E h => ?_) (fun f cdv A outer s H vs Q E hr h => ?_)
  · obtain ⟨n, rfl, _⟩ := h; rfl
  · obtain ⟨n, rfl, hn, k⟩ := h
    refine ⟨_, (pss_one (ps_if (pt_not (pt_val (pe_cd D_is_number (hr.mono (by omega)) (pa_cons (pv 0) (pa_cons pe_int (pa_cons (pe_glI T.c_MOST_PAGE) pa_nil))))))
  (pss_one ps_never)
  pss_nil)), ?_⟩
    refine ⟨_, rfl, _, 0, 65535, rfl, _, rfl, ?_⟩
    rw [inB_true (by omega) (by omega)]
    exact iteF k
def spRead (C : Addr) : Sp := fun vs H Q _ => ∃ pm M, ∃ n : Nat, ∃ pg, vs = [.ref pm, .int (n : Int)] ∧ IsPM C H pm M ∧ n ≤ 65535 ∧ M n = some pg ∧ Ret H (fun v H' => IsI H' v pg) Q
abbrev s_MP_read : Stmt := inClass (top 74) 1
abbrev N_MP_read : List Str := ["self", "number"]
theorem sc_MP_read : FnScope N_MP_read ["self", "number"] (defScope s_MP_read) := ⟨rfl, rfl, rfl, by decide +kernel, rfl, by decide +kernel, by decide +kernel⟩
theorem ok_MP_read (F : AtM K C "read" "MemoryPages.read" s_MP_read) (T : Txt K mg C) (D_check_page_number : Df P w K mg base "check_page_number" 2 ["number"] spChkPN) (D_blank_page : Df P w K mg base "blank_page" 3 ["kind"] spBlank) : Dm P w K mg base C "read" 4 ["self", "number"] (spRead C) := by
  refine F.df sc_MP_read (fun _ _ _ _ _ _ us hl => match us, hl with | [_, _], _ => rfl) (fun vs H Q E h => ?_) (fun f cdv A outer s H vs Q E hr h => ?_)
  · obtain ⟨pm, M, n, pg, rfl, _⟩ := h; rfl
  · obtain ⟨pm, M, n, pg, rfl, ⟨dx, d, kvs, h1, h2, h3, h4⟩, hn, hM, k⟩ := h
    refine ⟨_, (pss_cons (ps_expr (pe_cd D_check_page_number (hr.mono (by omega)) (pa_cons (pv 1) pa_nil)))
  (pss_one (ps_ret (pe_dget2 (hu_of hr) (pe_fld (pv 0) rfl) (pv 1) (pe_cd D_blank_page (hr.mono (by omega)) (pa_cons (pe_glI T.c_BLANK) pa_nil)) ⟨rfl, rfl, rfl, rfl⟩)))), ?_⟩
    obtain ⟨v, a1, a2, a3⟩ := h4 n pg hM
    refine ⟨_, rfl, n, rfl, hn, ?_⟩
    refine ⟨_, rfl, pm, C, dx, _, _, rfl, h1, T.cl, T.nP, pf_get d, d, rfl, .inl ⟨kvs, .inl h2⟩, _, rfl, 0, rfl, by decide, by decide, fun u H1 e1 z1 => ?_⟩
    refine ⟨_, DGet.k (k := .inl (n : Int)) (e1 _ _ h2), ?_⟩
    rw [a1]
    exact k _ _ e1 (a2.same e1)
def spWrite (C : Addr) : Sp := fun vs H Q _ => ∃ pm M, ∃ n : Nat, ∃ v pg, vs = [.ref pm, .int (n : Int), v] ∧ IsPM C H pm M ∧ n ≤ 65535 ∧ IsI H v pg ∧ Pg pg ∧
  ∀ H', But [pm] H H' → IsPM C H' pm (setM M n pg) → Q .non H'
abbrev s_MP_write : Stmt := inClass (top 74) 2
abbrev N_MP_write : List Str := ["self", "number", "page"]
theorem sc_MP_write : FnScope N_MP_write ["self", "number", "page"] (defScope s_MP_write) := ⟨rfl, rfl, rfl, by decide +kernel, rfl, by decide +kernel, by decide +kernel⟩
theorem ok_MP_write (F : AtM K C "write" "MemoryPages.write" s_MP_write) (T : Txt K mg C) (D_check_page_number : Df P w K mg base "check_page_number" 2 ["number"] spChkPN) (D_check_page : Df P w K mg base "check_page" 4 ["page"] spChkPage) : Dm P w K mg base C "write" 5 ["self", "number", "page"] (spWrite C) := by
  refine F.df sc_MP_write (fun _ _ _ _ _ _ us hl => match us, hl with | [_, _, _], _ => rfl) (fun vs H Q E h => ?_) (fun f cdv A outer s H vs Q E hr h => ?_)
  · obtain ⟨pm, M, n, v, pg, rfl, _⟩ := h; rfl
  · obtain ⟨pm, M, n, v, pg, rfl, ⟨dx, d, kvs, h1, h2, h3, h4⟩, hn, hv, hp, k⟩ := h
    refine ⟨_, (pss_cons (ps_expr (pe_cd D_check_page_number (hr.mono (by omega)) (pa_cons (pv 1) pa_nil)))
  (pss_cons (ps_expr (pe_cd D_check_page (hr.mono (by omega)) (pa_cons (pv 2) pa_nil)))
  (pss_one (ps_fld (pv 0) (pe_callTy (call_dictP rfl) (by rfl) T.dict (by decide +kernel) (pa_cons (pe_lst (StX.pa_star (LiI.pe_listItems rfl (pe_fld (pv 0) rfl) rfl T.list (by decide +kernel)) (pa_cons (pe_tup (pa_cons (pv 1) (pa_cons (pv 2) pa_nil))) pa_nil))) pa_nil)) rfl)))), ?_⟩
    refine ⟨_, rfl, n, rfl, hn, ?_⟩
    refine ⟨_, rfl, v, pg, rfl, hv, hp, fun H1 e1 => ?_⟩
    refine ⟨_, rfl, pm, C, dx, _, _, rfl, e1 _ _ h1, T.cl, T.nP, pf_get d, d, kvs, rfl, e1 _ _ h2, fun H2 p ts e2 hp1 hts hpn hp2 hpa => ?_⟩
    refine ⟨p, _, rfl, .inr (SqL.of hp2), ?_⟩
    refine ⟨_, rfl, _, rfl, (by show 2 ≤ sizeLine; decide), fun t ht => ?_⟩
    have hlen := h3.len
    have e3 : ts.map V.ref ++ [V.ref t] = (ts ++ [t]).map V.ref := by rw [List.map_append]; rfl
    refine ⟨?_, fun l hl => ?_⟩
    · rw [List.length_append, List.length_map, Paired.length hpa]
      show kvs.length + 1 ≤ sizeLine
      exact Nat.le_trans (Nat.succ_le_succ hlen) (by decide)
    have s1 := (L2.Same.new1 (o := .tup [V.int (n : Int), v]) ht)
    have s2 := s1.new (o := .lst (ts.map V.ref ++ [V.ref t])) hl
    refine ⟨l, ts ++ [t], kvs ++ [(.inl (n : Int), v)], rfl, SqL.of (by rw [upd_same, e3]), Paired.append (Paired.mapP hpa fun a q z => SqT.of (s2 _ _ z)) (.cons (SqT.of (L2.Same.new1 hl _ _ upd_same)) .nil), fun dd hdd => ?_⟩
    rw [merge_snoc h3]
    have s3 := ((Same.trans (Same.trans e1 e2) s2).new (o := .dK (putK kvs (.inl (n : Int)) v)) hdd)
    refine ⟨_, rfl, pm, C, dx, _, rfl, s3 _ _ h1, T.cl, T.nP, (by rw [pf_len]; decide), ?_⟩
    rw [pf_put]
    have b1 : But [pm] H _ := But.upd (o := .ins C dx (pf dd)) (But.of s3) List.mem_cons_self
    refine k _ b1 ⟨dx, dd, _, upd_same, ?_, h3.put hn v, fun m pg' hm => ?_⟩
    · rw [upd_ne (ne_of (upd_same) (s3 _ _ h1) (fun q => by cases q)), upd_same]
    · rw [valV_put]
      have tp : Tups H _ := But.tups b1 h1
      by_cases c : m = n
      · subst c
        rw [setM_same] at hm
        cases hm
        exact ⟨v, if_pos rfl, hv.tups tp, hp⟩
      · rw [setM_ne c] at hm
        obtain ⟨u, a1, a2, a3⟩ := h4 m pg' hm
        refine ⟨u, ?_, a2.tups tp, a3⟩
        rw [if_neg (fun q => c (by have := Sum.inl.inj q; omega))]
        exact a1
end
end K7
namespace K7
open PySem PySem.Spec PyProof.Rows L2
/-! ### pages in use -/
structure Al where
  free : List Nat
  fresh : Nat
def Al.take (a : Al) : Nat × Al := match a.free with
  | [] => (a.fresh, ⟨[], a.fresh + 1⟩)
  | f :: fs => (f, ⟨fs, a.fresh⟩)
def Al.give (a : Al) (n : Nat) : Al := ⟨n :: a.free, a.fresh⟩
def FreeL (M : Mem) : List Nat → Prop
  | [] => True
  | f :: fs => M f = some (freePg (fs.headD 0)) ∧ FreeL M fs
def AL (M : Mem) (a : Al) : Prop := M 0 = some (frontPg a.fresh (a.free.headD 0)) ∧ FreeL M a.free
structure AlOk (a : Al) : Prop where
  most : a.fresh ≤ 65534
  pos : 1 ≤ a.fresh
  nd : a.free.Nodup
  low : ∀ f ∈ a.free, 1 ≤ f ∧ f < a.fresh
theorem FreeL.mono {M M' : Mem} : ∀ {fs : List Nat}, (∀ f ∈ fs, M' f = M f) → FreeL M fs → FreeL M' fs
  | [], _, _ => trivial
  | f :: fs, h, ⟨h1, h2⟩ => ⟨by rw [h f List.mem_cons_self]; exact h1, FreeL.mono (fun g hg => h g (List.mem_cons_of_mem _ hg)) h2⟩
theorem FreeL.at_ {M : Mem} : ∀ {fs : List Nat} {i f : Nat}, FreeL M fs → fs[i]? = some f → M f = some (freePg ((fs.drop (i + 1)).headD 0))
  | [], _, _, _, h => by simp at h
  | g :: fs, 0, f, ⟨h1, _⟩, h => by
    have e : g = f := by simpa using h
    subst e
    simpa using h1
  | g :: fs, i + 1, f, ⟨_, h2⟩, h => by
    have := FreeL.at_ (i := i) (f := f) h2 (by simpa using h)
    simpa using this
theorem headD_le {a : Al} (h : AlOk a) : a.free.headD 0 ≤ 65535 := by
  have m := h.most
  cases e : a.free with
  | nil => exact Nat.zero_le _
  | cons f fs =>
    have := h.low f (by rw [e]; exact List.mem_cons_self)
    show f ≤ _
    omega
/-- behind a take -/
def takeM (M : Mem) (a : Al) : Mem := setM (setM M 0 (frontPg a.take.2.fresh (a.take.2.free.headD 0))) a.take.1 (blankPg 0)
theorem takeM_AL {M : Mem} {a : Al} (h : AL M a) (ok : AlOk a) : AL (takeM M a) a.take.2 := by
  obtain ⟨h1, h2⟩ := h
  unfold takeM AL
  have hp := ok.pos
  have hn : a.take.1 ≠ 0 ∧ a.take.1 ∉ a.take.2.free ∧ FreeL M a.take.2.free ∧ 0 ∉ a.take.2.free := by
    unfold Al.take
    cases e : a.free with
    | nil => exact ⟨by show a.fresh ≠ 0; omega, by simp, trivial, by simp⟩
    | cons f fs =>
      have nd := ok.nd
      rw [e] at nd h2
      obtain ⟨n1, n2⟩ := List.nodup_cons.mp nd
      have l := ok.low f (by rw [e]; exact List.mem_cons_self)
      refine ⟨by show f ≠ 0; omega, n1, h2.2, fun m => ?_⟩
      have := ok.low 0 (by rw [e]; exact List.mem_cons_of_mem _ m)
      omega
  obtain ⟨n0, n1, n2, n3⟩ := hn
  refine ⟨by rw [setM_ne (Ne.symm n0), setM_same], FreeL.mono (fun f hf => ?_) n2⟩
  rw [setM_ne (fun e => n1 (by rw [← e]; exact hf)), setM_ne (fun e => n3 (by rw [← e]; exact hf))]
def giveM (M : Mem) (a : Al) (n : Nat) : Mem := setM (setM M n (freePg (a.free.headD 0))) 0 (frontPg a.fresh n)
theorem giveM_AL {M : Mem} {a : Al} (h : AL M a) (ok : AlOk a) {n : Nat} (hn : n ≠ 0) (hf : n ∉ a.free) : AL (giveM M a n) (a.give n) := by
  obtain ⟨h1, h2⟩ := h
  unfold giveM AL Al.give
  refine ⟨setM_same, by rw [setM_ne hn, setM_same], FreeL.mono (fun f hf' => ?_) h2⟩
  have l := ok.low f hf'
  rw [setM_ne (by omega), setM_ne (fun e => hf (by rw [← e]; exact hf'))]
theorem inV_nv (f : Nat) (l : List Nat) : inV (.int (f : Int)) (nv l) = decide (f ∈ l) := by
  unfold inV nv
  rw [List.any_map]
  have e : ((fun y => eqV y (V.int (f : Int))) ∘ fun (n : Nat) => V.int (n : Int)) = fun n => decide (n = f) := by
    funext n
    show eqV (.int (n : Int)) (.int (f : Int)) = _
    unfold eqV
    by_cases h : n = f
    · subst h; simp
    · simp [h]; omega
  rw [e]
  by_cases h : f ∈ l
  · rw [decide_eq_true h]
    exact List.any_eq_true.mpr ⟨f, h, by simp⟩
  · rw [decide_eq_false h]
    rw [Bool.eq_false_iff]
    intro q
    obtain ⟨x, hx, e⟩ := List.any_eq_true.mp q
    have := of_decide_eq_true e
    subst this
    exact h hx
theorem flat_nv (l : List Nat) : (nv l).all flatV = true := by
  unfold nv
  rw [List.all_map]
  exact List.all_eq_true.mpr fun x _ => rfl
theorem vint_ne {x y : Int} (h : x ≠ y) : decide (V.int x = V.int y) = false := decide_eq_false fun q => h (by injection q)
section
variable {P : Program} {w : World} {K : PySem.W.Frag} {mg : Str → Option Value} {base : Heap} {C : Addr}
def spFormat (C : Addr) : Sp := fun vs H Q _ => ∃ pm M, vs = [.ref pm] ∧ IsPM C H pm M ∧ ∀ H', But [pm] H H' → IsPM C H' pm (setM M 0 (frontPg 1 0)) → Q .non H'
abbrev s_format_pages : Stmt := top 66
abbrev N_format_pages : List Str := ["pages"]
theorem sc_format_pages : FnScope N_format_pages ["pages"] (defScope s_format_pages) := ⟨rfl, rfl, rfl, by decide +kernel, rfl, by decide +kernel, by decide +kernel⟩
theorem ok_format_pages (F : At K mg "format_pages" s_format_pages) (T : Txt K mg C) (D_with_bytes : Df P w K mg base "with_bytes" 1 ["page", "at", "data"] spWb) (D_blank_page : Df P w K mg base "blank_page" 3 ["kind"] spBlank) (D_bytes_of : Df P w K mg base "bytes_of" 1 ["number", "width"] spB2) (M_write : Dm P w K mg base C "write" 5 ["self", "number", "page"] (spWrite C)) : Df P w K mg base "format_pages" 6 ["pages"] (spFormat C) := by
  refine F.df sc_format_pages (fun _ _ _ _ _ _ us hl => match us, hl with | [_], _ => rfl) (fun vs H Q E h => ?_) (fun f cdv A outer s H vs Q E hr h => ?_)
  · obtain ⟨pm, M, rfl, _⟩ := h; rfl
  · obtain ⟨pm, M, rfl, hM, k⟩ := h
    refine ⟨_, (pss_one (ps_expr (pe_md T.cl M_write (hr.mono (by omega)) (pv 0) (pa_cons pe_int (pa_cons (pe_cd D_with_bytes (hr.mono (by omega)) (pa_cons (pe_cd D_blank_page (hr.mono (by omega)) (pa_cons (pe_glI T.c_FRONT) pa_nil)) (pa_cons (pe_glI T.c_FRESH_AT) (pa_cons (pe_cd D_bytes_of (hr.mono (by omega)) (pa_cons pe_int (pa_cons pe_int pa_nil))) pa_nil)))) pa_nil))))), ?_⟩
    obtain ⟨dx, d, hpm⟩ := hM.at_
    refine ⟨_, rfl, pm, _, _, rfl, hpm, pf_no d (by decide +kernel), ?_⟩
    refine ⟨1, rfl, by decide, by decide, fun u H1 e1 z1 => ?_⟩
    refine ⟨1, rfl, by decide, fun v H2 e2 z2 => ?_⟩
    refine ⟨u, _, 12, v, _, rfl, z1.same e2, z2, (by show 128 ≤ 1000; decide), (by show 2 ≤ 1000; decide), fun t H3 e3 z3 => ?_⟩
    have e := (e1.trans e2).trans e3
    refine ⟨pm, M, 0, t, _, rfl, hM.same e, by decide, z3, frontPg_ok (a := 1) (b := 0), fun H4 b4 q4 => ?_⟩
    exact k _ ((But.of e).trans b4) q4
def spFrontOf (C : Addr) : Sp := fun vs H Q _ => ∃ pm M a b, vs = [.ref pm] ∧ IsPM C H pm M ∧ M 0 = some (frontPg a b) ∧ Ret H (fun v H' => IsI H' v (frontPg a b)) Q
abbrev s_front_of : Stmt := top 67
abbrev N_front_of : List Str := ["pages", "page"]
theorem sc_front_of : FnScope N_front_of ["pages"] (defScope s_front_of) := ⟨rfl, rfl, rfl, by decide +kernel, rfl, by decide +kernel, by decide +kernel⟩
theorem ok_front_of (F : At K mg "front_of" s_front_of) (T : Txt K mg C) (D_kind_of : Df P w K mg base "kind_of" 1 ["page"] spKind) (M_read : Dm P w K mg base C "read" 4 ["self", "number"] (spRead C)) : Df P w K mg base "front_of" 5 ["pages"] (spFrontOf C) := by
  refine F.df sc_front_of (fun _ _ _ _ _ _ us hl => match us, hl with | [_], _ => rfl) (fun vs H Q E h => ?_) (fun f cdv A outer s H vs Q E hr h => ?_)
  · obtain ⟨pm, M, a, b, rfl, _⟩ := h; rfl
  · obtain ⟨pm, M, a, b, rfl, hM, h0, k⟩ := h
    refine ⟨_, (pss_cons (ps_set (i := 1) sc_front_of.nd rfl (Or.inl rfl) (pe_md T.cl M_read (hr.mono (by omega)) (pv 0) (pa_cons pe_int pa_nil)))
  (pss_cons (ps_if (pt_cmpR op_ne (pe_cd D_kind_of (hr.mono (by omega)) (pa_cons (pv 1) pa_nil)) (pe_glI T.c_FRONT) (nomark _))
  (pss_one ps_never)
  pss_nil)
  (pss_one (ps_ret (pv 1))))), ?_⟩
    obtain ⟨dx, d, hpm⟩ := hM.at_
    refine ⟨_, rfl, pm, _, _, rfl, hpm, pf_no d (by decide +kernel), pm, M, 0, _, rfl, hM, by decide, h0, fun u H1 e1 z1 => ?_⟩
    refine ⟨_, rfl, u, _, 1, rfl, z1, rfl, rfl, _, rfl, iteF ?_⟩
    exact ⟨_, rfl, k _ _ e1 z1⟩
def spFreshN : Sp := fun vs H Q _ => ∃ v, ∃ a b : Nat, vs = [v] ∧ IsI H v (frontPg a b) ∧ a ≤ 65535 ∧ ∀ H', Same H H' → Q (.int (a : Int)) H'
abbrev s_fresh_number : Stmt := top 68
abbrev N_fresh_number : List Str := ["page"]
theorem sc_fresh_number : FnScope N_fresh_number ["page"] (defScope s_fresh_number) := ⟨rfl, rfl, rfl, by decide +kernel, rfl, by decide +kernel, by decide +kernel⟩
theorem ok_fresh_number (F : At K mg "fresh_number" s_fresh_number) (T : Txt K mg C) (D_number_of : Df P w K mg base "number_of" 1 ["data"] spNumOf) : Df P w K mg base "fresh_number" 2 ["page"] spFreshN := by
  refine F.df sc_fresh_number (fun _ _ _ _ _ _ us hl => match us, hl with | [_], _ => rfl) (fun vs H Q E h => ?_) (fun f cdv A outer s H vs Q E hr h => ?_)
  · obtain ⟨v, a, b, rfl, _⟩ := h; rfl
  · obtain ⟨v, a, b, rfl, ⟨p, rfl, hp⟩, h1, k⟩ := h
    refine ⟨_, (pss_one (ps_ret (pe_cd D_number_of (hr.mono (by omega)) (pa_cons (pe_slice sl_tupA (pv 0) (po_some (pe_glI T.c_FRESH_AT)) (po_some (pe_op op_add (pe_glI T.c_FRESH_AT) pe_int))) pa_nil)))), ?_⟩
    refine ⟨_, rfl, _, rfl, _, _, rfl, rfl, _, rfl, slA hp fun q H1 e1 z1 => ?_⟩
    have c1 : cutV (iv (frontPg a b)) (some 12) (some (12 + 2)) = iv (b2 (a : Int)) := by
      rw [show (12 : Int) = ((12 : Nat) : Int) from rfl, show ((12 : Nat) : Int) + 2 = ((14 : Nat) : Int) from rfl, cut_mid 12 14 (by rw [iv_len, frontPg_ok.len]; decide) (by decide), iv_drop, iv_take]
      rfl
    refine ⟨.ref q, _, rfl, ⟨q, rfl, by rw [z1, c1]⟩, ?_⟩
    rw [numOf_b2 (by omega) (by omega)]
    exact k _ e1
def spFreeN : Sp := fun vs H Q _ => ∃ v, ∃ a b : Nat, vs = [v] ∧ IsI H v (frontPg a b) ∧ b ≤ 65535 ∧ ∀ H', Same H H' → Q (.int (b : Int)) H'
abbrev s_free_number : Stmt := top 69
abbrev N_free_number : List Str := ["page"]
theorem sc_free_number : FnScope N_free_number ["page"] (defScope s_free_number) := ⟨rfl, rfl, rfl, by decide +kernel, rfl, by decide +kernel, by decide +kernel⟩
theorem ok_free_number (F : At K mg "free_number" s_free_number) (T : Txt K mg C) (D_number_of : Df P w K mg base "number_of" 1 ["data"] spNumOf) : Df P w K mg base "free_number" 2 ["page"] spFreeN := by
  refine F.df sc_free_number (fun _ _ _ _ _ _ us hl => match us, hl with | [_], _ => rfl) (fun vs H Q E h => ?_) (fun f cdv A outer s H vs Q E hr h => ?_)
  · obtain ⟨v, a, b, rfl, _⟩ := h; rfl
  · obtain ⟨v, a, b, rfl, ⟨p, rfl, hp⟩, h1, k⟩ := h
    refine ⟨_, (pss_one (ps_ret (pe_cd D_number_of (hr.mono (by omega)) (pa_cons (pe_slice sl_tupA (pv 0) (po_some (pe_glI T.c_FREE_AT)) (po_some (pe_op op_add (pe_glI T.c_FREE_AT) pe_int))) pa_nil)))), ?_⟩
    refine ⟨_, rfl, _, rfl, _, _, rfl, rfl, _, rfl, slA hp fun q H1 e1 z1 => ?_⟩
    have c1 : cutV (iv (frontPg a b)) (some 14) (some (14 + 2)) = iv (b2 (b : Int)) := by
      rw [show (14 : Int) = ((14 : Nat) : Int) from rfl, show ((14 : Nat) : Int) + 2 = ((16 : Nat) : Int) from rfl, cut_mid 14 16 (by rw [iv_len, frontPg_ok.len]; decide) (by decide), iv_drop, iv_take]
      rfl
    refine ⟨.ref q, _, rfl, ⟨q, rfl, by rw [z1, c1]⟩, ?_⟩
    rw [numOf_b2 (by omega) (by omega)]
    exact k _ e1
def spTake (C : Addr) : Sp := fun vs H Q _ => ∃ pm M a, vs = [.ref pm] ∧ IsPM C H pm M ∧ AL M a ∧ AlOk a ∧ ∀ H', But [pm] H H' → IsPM C H' pm (takeM M a) → Q (.int (a.take.1 : Int)) H'
abbrev s_take_page : Stmt := top 70
abbrev N_take_page : List Str := ["pages", "front", "number", "late"]
theorem sc_take_page : FnScope N_take_page ["pages"] (defScope s_take_page) := ⟨rfl, rfl, rfl, by decide +kernel, rfl, by decide +kernel, by decide +kernel⟩
theorem ok_take_page (F : At K mg "take_page" s_take_page) (T : Txt K mg C) (D_front_of : Df P w K mg base "front_of" 5 ["pages"] (spFrontOf C)) (D_free_number : Df P w K mg base "free_number" 2 ["page"] spFreeN) (D_with_bytes : Df P w K mg base "with_bytes" 1 ["page", "at", "data"] spWb) (D_fresh_number : Df P w K mg base "fresh_number" 2 ["page"] spFreshN) (D_blank_page : Df P w K mg base "blank_page" 3 ["kind"] spBlank) (D_bytes_of : Df P w K mg base "bytes_of" 1 ["number", "width"] spB2) (D_next_of : Df P w K mg base "next_of" 2 ["page"] spNext) (M_write : Dm P w K mg base C "write" 5 ["self", "number", "page"] (spWrite C)) (M_read : Dm P w K mg base C "read" 4 ["self", "number"] (spRead C)) : Df P w K mg base "take_page" 6 ["pages"] (spTake C) := by
  refine F.df sc_take_page (fun _ _ _ _ _ _ us hl => match us, hl with | [_], _ => rfl) (fun vs H Q E h => ?_) (fun f cdv A outer s H vs Q E hr h => ?_)
  · obtain ⟨pm, M, a, rfl, _⟩ := h; rfl
  · obtain ⟨pm, M, a, rfl, hM, ⟨h0, hfr⟩, ok, k⟩ := h
    have hm := ok.most
    have hhd := headD_le ok
    obtain ⟨dx, d, hpm⟩ := hM.at_
    refine ⟨_, (pss_cons (ps_set (i := 1) sc_take_page.nd rfl (Or.inl rfl) (pe_cd D_front_of (hr.mono (by omega)) (pa_cons (pv 0) pa_nil)))
  (pss_cons (ps_set (i := 2) sc_take_page.nd rfl (Or.inl rfl) (pe_cd D_free_number (hr.mono (by omega)) (pa_cons (pv 1) pa_nil)))
  (pss_cons (ps_if (pt_cmpR op_ne (pv 2) pe_int (nomark _))
  (pss_one (ps_set (i := 3) sc_take_page.nd rfl (Or.inl rfl) (pe_cd D_with_bytes (hr.mono (by omega)) (pa_cons (pv 1) (pa_cons (pe_glI T.c_FREE_AT) (pa_cons (pe_cd D_bytes_of (hr.mono (by omega)) (pa_cons (pe_cd D_next_of (hr.mono (by omega)) (pa_cons (pe_md T.cl M_read (hr.mono (by omega)) (pv 0) (pa_cons (pv 2) pa_nil)) pa_nil)) (pa_cons pe_int pa_nil))) pa_nil))))))
  (pss_cons (ps_set (i := 2) sc_take_page.nd rfl (Or.inl rfl) (pe_cd D_fresh_number (hr.mono (by omega)) (pa_cons (pv 1) pa_nil)))
  (pss_cons (ps_if (pt_cmpR op_eq (pv 2) (pe_glI T.c_MOST_PAGE) (nomark _))
  (pss_one ps_never)
  pss_nil)
  (pss_one (ps_set (i := 3) sc_take_page.nd rfl (Or.inl rfl) (pe_cd D_with_bytes (hr.mono (by omega)) (pa_cons (pv 1) (pa_cons (pe_glI T.c_FRESH_AT) (pa_cons (pe_cd D_bytes_of (hr.mono (by omega)) (pa_cons (pe_op op_add (pv 2) pe_int) (pa_cons pe_int pa_nil))) pa_nil)))))))))
  (pss_cons (ps_expr (pe_md T.cl M_write (hr.mono (by omega)) (pv 0) (pa_cons pe_int (pa_cons (pv 3) pa_nil))))
  (pss_cons (ps_expr (pe_md T.cl M_write (hr.mono (by omega)) (pv 0) (pa_cons (pv 2) (pa_cons (pe_cd D_blank_page (hr.mono (by omega)) (pa_cons (pe_glI T.c_BLANK) pa_nil)) pa_nil))))
  (pss_one (ps_ret (pv 2)))))))), ?_⟩
    refine ⟨_, rfl, pm, M, _, _, rfl, hM, h0, fun u H1 e1 z1 => ?_⟩
    refine ⟨_, rfl, u, _, _, rfl, z1, hhd, fun H2 e2 => ?_⟩
    cases ef : a.free with
    | nil =>
      rw [ef] at h0 hhd z1
      have et : a.take = (a.fresh, ⟨[], a.fresh + 1⟩) := by unfold Al.take; rw [ef]
      refine ⟨_, rfl, rfl, _, rfl, iteF ?_⟩
      refine ⟨_, rfl, u, a.fresh, 0, rfl, z1.same e2, by omega, fun H3 e3 => ?_⟩
      refine ⟨_, rfl, rfl, _, rfl, ?_⟩
      rw [vint_ne (by omega)]
      refine iteF ?_
      refine ⟨_, rfl, _, rfl, _, _, rfl, rfl, ((a.fresh : Int) + 1), rfl, by omega, fun v H4 e4 z4 => ?_⟩
      refine ⟨u, _, 12, v, _, rfl, ((z1.same e2).same e3).same e4, z4, (by rw [frontPg_ok.len]; decide), (by show 2 ≤ 1000; decide), fun t H5 e5 z5 => ?_⟩
      have e15 := (((e1.trans e2).trans e3).trans e4).trans e5
      have z6 : IsI H5 t (frontPg (a.fresh + 1) 0) := z5
      refine ⟨_, rfl, pm, _, _, rfl, e15 _ _ hpm, pf_no d (by decide +kernel), _, rfl, pm, M, 0, t, _, rfl, hM.same e15, by decide, z6, frontPg_ok, fun H6 b6 q6 => ?_⟩
      obtain ⟨dx6, d6, hpm6⟩ := q6.at_
      refine ⟨_, rfl, pm, _, _, rfl, hpm6, pf_no d6 (by decide +kernel), _, rfl, 0, rfl, by decide, by decide, fun b7 H7 e7 z7 => ?_⟩
      refine ⟨pm, _, a.fresh, b7, _, rfl, q6.same e7, by omega, z7, blankPg_ok ⟨by decide, by decide⟩, fun H8 b8 q8 => ?_⟩
      refine ⟨_, rfl, ?_⟩
      have kk := k H8 ((((But.of e15).trans b6).trans (But.of e7)).trans b8)
      unfold takeM at kk
      rw [et] at kk
      exact kk q8
    | cons f fs =>
      rw [ef] at h0 hhd z1 hfr
      have et : a.take = (f, ⟨fs, a.fresh⟩) := by unfold Al.take; rw [ef]
      have lf := ok.low f (by rw [ef]; exact List.mem_cons_self)
      have hfs : fs.headD 0 ≤ 65535 := by
        cases fs with
        | nil => exact Nat.zero_le _
        | cons g gs =>
          have := ok.low g (by rw [ef]; exact List.mem_cons_of_mem _ List.mem_cons_self)
          show g ≤ _
          omega
      refine ⟨_, rfl, rfl, _, rfl, ?_⟩
      show if (!decide (V.int (f : Int) = V.int 0)) = true then _ else _
      rw [vint_ne (by omega)]
      refine iteT ?_
      have e12 := e1.trans e2
      refine ⟨_, rfl, _, rfl, pm, _, _, rfl, e12 _ _ hpm, pf_no d (by decide +kernel), _, rfl, pm, M, f, _, rfl, hM.same e12, by omega, hfr.1, fun g H3 e3 z3 => ?_⟩
      refine ⟨g, _, rfl, z3, by rw [freePg_ok.len]; decide, fun H4 e4 => ?_⟩
      have en : numOf (((freePg (fs.headD 0)).drop 8).take 2) = (fs.headD 0 : Nat) := numOf_b2 (x := ((fs.headD 0 : Nat) : Int)) (by omega) (by omega)
      rw [en]
      refine ⟨_, rfl, by omega, fun v H5 e5 z5 => ?_⟩
      refine ⟨u, _, 14, v, _, rfl, (((z1.same e2).same e3).same e4).same e5, z5, (by rw [frontPg_ok.len]; decide), (by show 2 ≤ 1000; decide), fun t H6 e6 z6 => ?_⟩
      have e16 := (((e12.trans e3).trans e4).trans e5).trans e6
      have z7 : IsI H6 t (frontPg a.fresh (fs.headD 0)) := z6
      refine ⟨_, rfl, pm, _, _, rfl, e16 _ _ hpm, pf_no d (by decide +kernel), _, rfl, pm, M, 0, t, _, rfl, hM.same e16, by decide, z7, frontPg_ok, fun H7 b7 q7 => ?_⟩
      obtain ⟨dx6, d6, hpm6⟩ := q7.at_
      refine ⟨_, rfl, pm, _, _, rfl, hpm6, pf_no d6 (by decide +kernel), _, rfl, 0, rfl, by decide, by decide, fun b8 H8 e8 z8 => ?_⟩
      refine ⟨pm, _, f, b8, _, rfl, q7.same e8, by omega, z8, blankPg_ok ⟨by decide, by decide⟩, fun H9 b9 q9 => ?_⟩
      refine ⟨_, rfl, ?_⟩
      have kk := k H9 ((((But.of e16).trans b7).trans (But.of e8)).trans b9)
      unfold takeM at kk
      rw [et] at kk
      exact kk q9
end
end K7
namespace K7
open PySem PySem.Spec PyProof.Rows L2
theorem headD_drop {l : List Nat} {i x : Nat} (h : l[i]? = some x) : (l.drop i).headD 0 = x := by
  have e := split_at h
  have hi := (List.getElem?_eq_some_iff.mp h).1
  rw [List.drop_eq_getElem_cons hi]
  exact (List.getElem?_eq_some_iff.mp h).2
section
variable {P : Program} {w : World} {K : PySem.W.Frag} {mg : Str → Option Value} {base : Heap} {C : Addr}
def spFreeP (C : Addr) : Sp := fun vs H Q _ => ∃ pm M a, vs = [.ref pm] ∧ IsPM C H pm M ∧ AL M a ∧ AlOk a ∧ Ret H (fun v H' => IsNL H' v a.free) Q
abbrev s_free_pages : Stmt := top 73
abbrev N_free_pages : List Str := ["pages", "found", "number"]
theorem sc_free_pages : FnScope N_free_pages ["pages"] (defScope s_free_pages) := ⟨rfl, rfl, rfl, by decide +kernel, rfl, by decide +kernel, by decide +kernel⟩
theorem ok_free_pages (F : At K mg "free_pages" s_free_pages) (T : Txt K mg C) (D_free_number : Df P w K mg base "free_number" 2 ["page"] spFreeN) (D_next_of : Df P w K mg base "next_of" 2 ["page"] spNext) (D_front_of : Df P w K mg base "front_of" 5 ["pages"] (spFrontOf C)) (M_read : Dm P w K mg base C "read" 4 ["self", "number"] (spRead C)) : Df P w K mg base "free_pages" 6 ["pages"] (spFreeP C) := by
  refine F.df sc_free_pages (fun _ _ _ _ _ _ us hl => match us, hl with | [_], _ => rfl) (fun vs H Q E h => ?_) (fun f cdv A outer s H vs Q E hr h => ?_)
  · obtain ⟨pm, M, a, rfl, _⟩ := h; rfl
  · obtain ⟨pm, M, a, rfl, hM, ⟨h0, hfr⟩, ok, k⟩ := h
    have hm := ok.most
    have hhd := headD_le ok
    have hlen : a.free.length ≤ 65535 := nodup_bound 65535 _ ok.nd fun x hx => by have := ok.low x hx; omega
    refine ⟨_, (pss_cons (ps_par (i := 1) (j := 2) (by rfl) sc_free_pages.nd rfl rfl (by decide) rfl rfl (pa_cons (pe_lst pa_nil) (pa_cons (pe_cd D_free_number (hr.mono (by omega)) (pa_cons (pe_cd D_front_of (hr.mono (by omega)) (pa_cons (pv 0) pa_nil)) pa_nil)) pa_nil)) (by rfl))
  (pss_cons (ps_while PassesOwn.never (PW.pt (pw_and (pt_cmpR op_ne (pv 2) pe_int (nomark _)) (pw_and1 (pt_cmpR op_notIn_seq (pv 2) (pv 1) rfl))))
  (pss_cons (ps_expr (pe_bm PySem.F.plainAttrs_list PySem.F.slot_list_append PySem.F.type_list_append mt_append (pv 1) (pa_cons (pv 2) pa_nil)))
  (pss_one (ps_set (i := 2) sc_free_pages.nd rfl (Or.inl rfl) (pe_cd D_next_of (hr.mono (by omega)) (pa_cons (pe_md T.cl M_read (hr.mono (by omega)) (pv 0) (pa_cons (pv 2) pa_nil)) pa_nil))))))
  (pss_one (ps_ret (pv 1))))), ?_⟩
    refine ⟨Nat.zero_le _, fun p hp => ?_⟩
    have n1 := L2.Same.new1 (o := .lst []) hp
    refine ⟨_, rfl, pm, M, _, _, rfl, hM.same n1, h0, fun u H1 e1 z1 => ?_⟩
    refine ⟨u, _, _, rfl, z1, hhd, fun H2 e2 => ?_⟩
    refine ⟨_, _, rfl, ?_⟩
    have e12 := (n1.trans e1).trans e2
    have z2 : H2 p = some (.lst []) := e2 _ _ (e1 _ _ upd_same)
    refine ⟨fun m σ H' => ∃ i, m = a.free.length - i ∧ i ≤ a.free.length ∧ σ = [some (.ref pm), some (.ref p), some (.int (((a.free.drop i).headD 0 : Nat) : Int))] ∧ Same H H' ∧ H' p = some (.lst (nv (a.free.take i))), ⟨_, 0, rfl, Nat.zero_le _, by rw [List.drop_zero]; rfl, e12, z2⟩, ?_⟩
    rintro m σ H' ⟨i, rfl, hi, rfl, y1, y2⟩
    by_cases hlt : i < a.free.length
    · have hf := List.getElem?_eq_getElem hlt
      have hd0 := headD_drop hf
      have lf := ok.low _ (List.mem_of_getElem? hf)
      rw [hd0]
      refine ⟨_, rfl, rfl, _, rfl, ?_⟩
      show if (!decide (V.int ((a.free[i] : Nat) : Int) = V.int 0)) = true then _ else _
      rw [vint_ne (by omega)]
      refine iteT ⟨_, rfl, _, rfl, p, _, rfl, .inl (SqL.of y2), rfl, flat_nv _, _, rfl, ?_⟩
      have ni : decide (a.free[i] ∈ a.free.take i) = false := decide_eq_false fun q => by
        obtain ⟨j, hj, e⟩ := List.getElem_of_mem q
        rw [List.length_take] at hj
        rw [List.getElem_take] at e
        have := (List.getElem_inj ok.nd).mp e
        omega
      show if (if true = true then !inV (V.int ((a.free[i] : Nat) : Int)) (nv (a.free.take i)) else inV (V.int ((a.free[i] : Nat) : Int)) (nv (a.free.take i))) = true then _ else _
      rw [if_pos rfl, inV_nv, ni]
      refine iteT ⟨fun σ' H'' => ∃ j, j = i + 1 ∧ σ' = [some (.ref pm), some (.ref p), some (.int (((a.free.drop j).headD 0 : Nat) : Int))] ∧ Same H H'' ∧ H'' p = some (.lst (nv (a.free.take j))), fun σ' H'' ⟨j, ej, a1, a2, a3⟩ => ⟨a.free.length - j, by omega, j, rfl, by omega, a1, a2, a3⟩, ?_⟩
      refine ⟨_, rfl, .inl ⟨rfl, _, SqL.of y2⟩, _, rfl, p, _, _, rfl, rfl, y2, sz_lt (by rw [nv_len, List.length_take]; omega), ?_⟩
      have y3 := L2.Same.mut (o := .lst (nv (a.free.take i) ++ [V.int ((a.free[i] : Nat) : Int)])) y1 hp
      obtain ⟨dx, d, hpm⟩ := hM.at_
      refine ⟨_, rfl, pm, _, _, rfl, y3 _ _ hpm, pf_no d (by decide +kernel), _, rfl, pm, M, a.free[i], _, rfl, hM.same y3, by omega, hfr.at_ hf, fun g H3 e3 z3 => ?_⟩
      refine ⟨g, _, rfl, z3, by rw [freePg_ok.len]; decide, fun H4 e4 => ?_⟩
      have hfs : (a.free.drop (i + 1)).headD 0 ≤ 65535 := by
        cases q : a.free.drop (i + 1) with
        | nil => exact Nat.zero_le _
        | cons x xs =>
          have m : x ∈ a.free := List.mem_of_mem_drop (by rw [q]; exact List.mem_cons_self)
          have := ok.low x m
          show x ≤ _
          omega
      have en : numOf (((freePg ((a.free.drop (i + 1)).headD 0)).drop 8).take 2) = ((a.free.drop (i + 1)).headD 0 : Nat) := numOf_b2 (x := (((a.free.drop (i + 1)).headD 0 : Nat) : Int)) (by omega) (by omega)
      rw [en]
      refine ⟨i + 1, rfl, rfl, (y3.trans e3).trans e4, ?_⟩
      rw [take_snoc hf, nv_app]
      exact e4 _ _ (e3 _ _ upd_same)
    · have ei : i = a.free.length := by omega
      subst ei
      rw [List.drop_length]
      refine ⟨_, rfl, rfl, _, rfl, ?_⟩
      refine iteF ?_
      rw [List.take_length] at y2
      exact iteF ⟨_, rfl, k _ _ y1 ⟨p, rfl, y2⟩⟩
def spChkGiven (C : Addr) : Sp := fun vs H Q _ => ∃ pm M a u, ∃ n : Nat, vs = [.ref pm, u, .int (n : Int)] ∧ IsPM C H pm M ∧ AL M a ∧ AlOk a ∧ IsI H u (frontPg a.fresh (a.free.headD 0)) ∧ 1 ≤ n ∧ n < a.fresh ∧ n ∉ a.free ∧ ∀ H', Same H H' → Q .non H'
abbrev s_check_given : Stmt := top 72
abbrev N_check_given : List Str := ["pages", "front", "number"]
theorem sc_check_given : FnScope N_check_given ["pages", "front", "number"] (defScope s_check_given) := ⟨rfl, rfl, rfl, by decide +kernel, rfl, by decide +kernel, by decide +kernel⟩
theorem ok_check_given (F : At K mg "check_given" s_check_given) (T : Txt K mg C) (D_is_number : Df P w K mg base "is_number" 1 ["thing", "least", "most"] spNum) (D_free_pages : Df P w K mg base "free_pages" 6 ["pages"] (spFreeP C)) (D_fresh_number : Df P w K mg base "fresh_number" 2 ["page"] spFreshN) : Df P w K mg base "check_given" 7 ["pages", "front", "number"] (spChkGiven C) := by
  refine F.df sc_check_given (fun _ _ _ _ _ _ us hl => match us, hl with | [_, _, _], _ => rfl) (fun vs H Q E h => ?_) (fun f cdv A outer s H vs Q E hr h => ?_)
  · obtain ⟨pm, M, a, u, n, rfl, _⟩ := h; rfl
  · obtain ⟨pm, M, a, u, n, rfl, hM, hA, ok, hu, n1, n2, n3, k⟩ := h
    have hm := ok.most
    refine ⟨_, (pss_one (ps_if (PW.pt (pw_or (pt_not (pt_val (pe_cd D_is_number (hr.mono (by omega)) (pa_cons (pv 2) (pa_cons pe_int (pa_cons (pe_op op_sub (pe_cd D_fresh_number (hr.mono (by omega)) (pa_cons (pv 1) pa_nil)) pe_int) pa_nil)))))) (pw_or1 (pt_cmpR op_in_seq (pv 2) (pe_cd D_free_pages (hr.mono (by omega)) (pa_cons (pv 0) pa_nil)) rfl))))
  (pss_one ps_never)
  pss_nil)), ?_⟩
    refine ⟨_, rfl, _, rfl, u, _, _, rfl, hu, by omega, fun H1 e1 => ?_⟩
    refine ⟨_, _, rfl, rfl, n, 1, _, rfl, _, rfl, ?_⟩
    show if (!inB (n : Int) 1 ((a.fresh : Int) - 1)) = true then _ else _
    rw [inB_true (by omega) (by omega)]
    refine iteF ⟨_, rfl, _, rfl, pm, M, a, rfl, hM.same e1, hA, ok, fun v H2 e2 z2 => ?_⟩
    obtain ⟨p, rfl, hp⟩ := z2
    refine ⟨p, _, rfl, .inl (SqL.of hp), rfl, flat_nv _, _, rfl, ?_⟩
    show if (if false = true then !inV (V.int (n : Int)) (nv a.free) else inV (V.int (n : Int)) (nv a.free)) = true then _ else _
    rw [if_neg Bool.false_ne_true, inV_nv, decide_eq_false n3]
    exact iteF (k _ (e1.trans e2))
def spGive (C : Addr) : Sp := fun vs H Q _ => ∃ pm M a, ∃ n : Nat, vs = [.ref pm, .int (n : Int)] ∧ IsPM C H pm M ∧ AL M a ∧ AlOk a ∧ 1 ≤ n ∧ n < a.fresh ∧ n ∉ a.free ∧ ∀ H', But [pm] H H' → IsPM C H' pm (giveM M a n) → Q .non H'
abbrev s_give_page : Stmt := top 71
abbrev N_give_page : List Str := ["pages", "number", "front"]
theorem sc_give_page : FnScope N_give_page ["pages", "number"] (defScope s_give_page) := ⟨rfl, rfl, rfl, by decide +kernel, rfl, by decide +kernel, by decide +kernel⟩
theorem ok_give_page (F : At K mg "give_page" s_give_page) (T : Txt K mg C) (D_front_of : Df P w K mg base "front_of" 5 ["pages"] (spFrontOf C)) (D_check_given : Df P w K mg base "check_given" 7 ["pages", "front", "number"] (spChkGiven C)) (D_with_next : Df P w K mg base "with_next" 3 ["page", "number"] spWithNext) (D_with_bytes : Df P w K mg base "with_bytes" 1 ["page", "at", "data"] spWb) (D_blank_page : Df P w K mg base "blank_page" 3 ["kind"] spBlank) (D_free_number : Df P w K mg base "free_number" 2 ["page"] spFreeN) (D_bytes_of : Df P w K mg base "bytes_of" 1 ["number", "width"] spB2) (M_write : Dm P w K mg base C "write" 5 ["self", "number", "page"] (spWrite C)) : Df P w K mg base "give_page" 8 ["pages", "number"] (spGive C) := by
  refine F.df sc_give_page (fun _ _ _ _ _ _ us hl => match us, hl with | [_, _], _ => rfl) (fun vs H Q E h => ?_) (fun f cdv A outer s H vs Q E hr h => ?_)
  · obtain ⟨pm, M, a, n, rfl, _⟩ := h; rfl
  · obtain ⟨pm, M, a, n, rfl, hM, hA, ok, n1, n2, n3, k⟩ := h
    have hm := ok.most
    have hhd := headD_le ok
    obtain ⟨dx, d, hpm⟩ := hM.at_
    refine ⟨_, (pss_cons (ps_set (i := 2) sc_give_page.nd rfl (Or.inl rfl) (pe_cd D_front_of (hr.mono (by omega)) (pa_cons (pv 0) pa_nil)))
  (pss_cons (ps_expr (pe_cd D_check_given (hr.mono (by omega)) (pa_cons (pv 0) (pa_cons (pv 2) (pa_cons (pv 1) pa_nil)))))
  (pss_cons (ps_expr (pe_md T.cl M_write (hr.mono (by omega)) (pv 0) (pa_cons (pv 1) (pa_cons (pe_cd D_with_next (hr.mono (by omega)) (pa_cons (pe_cd D_blank_page (hr.mono (by omega)) (pa_cons (pe_glI T.c_BLANK) pa_nil)) (pa_cons (pe_cd D_free_number (hr.mono (by omega)) (pa_cons (pv 2) pa_nil)) pa_nil))) pa_nil))))
  (pss_one (ps_expr (pe_md T.cl M_write (hr.mono (by omega)) (pv 0) (pa_cons pe_int (pa_cons (pe_cd D_with_bytes (hr.mono (by omega)) (pa_cons (pv 2) (pa_cons (pe_glI T.c_FREE_AT) (pa_cons (pe_cd D_bytes_of (hr.mono (by omega)) (pa_cons (pv 1) (pa_cons pe_int pa_nil))) pa_nil)))) pa_nil)))))))), ?_⟩
    refine ⟨_, rfl, pm, M, _, _, rfl, hM, hA.1, fun u H1 e1 z1 => ?_⟩
    refine ⟨_, rfl, _, rfl, _, rfl, pm, M, a, u, n, rfl, hM.same e1, hA, ok, z1, n1, n2, n3, fun H2 e2 => ?_⟩
    have e12 := e1.trans e2
    refine ⟨_, rfl, pm, _, _, rfl, e12 _ _ hpm, pf_no d (by decide +kernel), _, rfl, 0, rfl, by decide, by decide, fun b H3 e3 z3 => ?_⟩
    refine ⟨_, rfl, u, _, _, rfl, (z1.same e2).same e3, hhd, fun H4 e4 => ?_⟩
    refine ⟨b, _, _, rfl, by omega, by omega, z3.same e4, by rw [(blankPg_ok (k := 0) ⟨by decide, by decide⟩).len]; decide, fun t H5 e5 z5 => ?_⟩
    have z6 : IsI H5 t (freePg (a.free.headD 0)) := z5
    have e15 := ((e12.trans e3).trans e4).trans e5
    refine ⟨pm, M, n, t, _, rfl, hM.same e15, by omega, z6, freePg_ok, fun H6 b6 q6 => ?_⟩
    obtain ⟨dx6, d6, hpm6⟩ := q6.at_
    have zu : IsI H6 u (frontPg a.fresh (a.free.headD 0)) := ((((((z1.same e2).same e3).same e4).same e5)).tups (b6.tups (e15 _ _ hpm)))
    refine ⟨_, rfl, pm, _, _, rfl, hpm6, pf_no d6 (by decide +kernel), _, rfl, _, rfl, n, rfl, by omega, fun v H7 e7 z7 => ?_⟩
    refine ⟨u, _, 14, v, _, rfl, zu.same e7, z7, (by rw [frontPg_ok.len]; decide), (by show 2 ≤ 1000; decide), fun y H8 e8 z8 => ?_⟩
    have z9 : IsI H8 y (frontPg a.fresh n) := z8
    refine ⟨pm, _, 0, y, _, rfl, (q6.same e7).same e8, by decide, z9, frontPg_ok, fun H9 b9 q9 => ?_⟩
    exact k _ ((((But.of e15).trans b6).trans (But.of (e7.trans e8))).trans b9) q9
def spAlloc (C : Addr) : Sp := spTake C
abbrev s_MP_allocate : Stmt := inClass (top 74) 3
abbrev N_MP_allocate : List Str := ["self"]
theorem sc_MP_allocate : FnScope N_MP_allocate ["self"] (defScope s_MP_allocate) := ⟨rfl, rfl, rfl, by decide +kernel, rfl, by decide +kernel, by decide +kernel⟩
theorem ok_MP_allocate (F : AtM K C "allocate" "MemoryPages.allocate" s_MP_allocate) (T : Txt K mg C) (D_take_page : Df P w K mg base "take_page" 6 ["pages"] (spTake C)) : Dm P w K mg base C "allocate" 7 ["self"] (spAlloc C) := by
  refine F.df sc_MP_allocate (fun _ _ _ _ _ _ us hl => match us, hl with | [_], _ => rfl) (fun vs H Q E h => ?_) (fun f cdv A outer s H vs Q E hr h => ?_)
  · obtain ⟨pm, M, a, rfl, _⟩ := h; rfl
  · obtain ⟨pm, M, a, rfl, hM, hA, ok, k⟩ := h
    refine ⟨_, (pss_one (ps_ret (pe_cd D_take_page (hr.mono (by omega)) (pa_cons (pv 0) pa_nil)))), ?_⟩
    exact ⟨_, rfl, pm, M, a, rfl, hM, hA, ok, k⟩
def spRelease (C : Addr) : Sp := spGive C
abbrev s_MP_release : Stmt := inClass (top 74) 4
abbrev N_MP_release : List Str := ["self", "number"]
theorem sc_MP_release : FnScope N_MP_release ["self", "number"] (defScope s_MP_release) := ⟨rfl, rfl, rfl, by decide +kernel, rfl, by decide +kernel, by decide +kernel⟩
theorem ok_MP_release (F : AtM K C "release" "MemoryPages.release" s_MP_release) (T : Txt K mg C) (D_give_page : Df P w K mg base "give_page" 8 ["pages", "number"] (spGive C)) : Dm P w K mg base C "release" 9 ["self", "number"] (spRelease C) := by
  refine F.df sc_MP_release (fun _ _ _ _ _ _ us hl => match us, hl with | [_, _], _ => rfl) (fun vs H Q E h => ?_) (fun f cdv A outer s H vs Q E hr h => ?_)
  · obtain ⟨pm, M, a, n, rfl, _⟩ := h; rfl
  · obtain ⟨pm, M, a, n, rfl, hM, hA, ok, n1, n2, n3, k⟩ := h
    refine ⟨_, (pss_one (ps_expr (pe_cd D_give_page (hr.mono (by omega)) (pa_cons (pv 0) (pa_cons (pv 1) pa_nil))))), ?_⟩
    exact ⟨_, rfl, _, rfl, pm, M, a, n, rfl, hM, hA, ok, n1, n2, n3, k⟩
def M0 : Mem := setM (fun _ => none) 0 (frontPg 1 0)
def spInit (C : Addr) : Sp := fun vs H Q _ => ∃ pm dx, vs = [.ref pm] ∧ H pm = some (.ins C dx []) ∧ ∀ H', But [pm] H H' → IsPM C H' pm M0 → Q .non H'
abbrev s_MP___init__ : Stmt := inClass (top 74) 0
abbrev N_MP___init__ : List Str := ["self"]
theorem sc_MP___init__ : FnScope N_MP___init__ ["self"] (defScope s_MP___init__) := ⟨rfl, rfl, rfl, by decide +kernel, rfl, by decide +kernel, by decide +kernel⟩
theorem ok_MP___init__ (F : AtM K C "__init__" "MemoryPages.__init__" s_MP___init__) (T : Txt K mg C) (D_format_pages : Df P w K mg base "format_pages" 6 ["pages"] (spFormat C)) : Dm P w K mg base C "__init__" 7 ["self"] (spInit C) := by
  refine F.df sc_MP___init__ (fun _ _ _ _ _ _ us hl => match us, hl with | [_], _ => rfl) (fun vs H Q E h => ?_) (fun f cdv A outer s H vs Q E hr h => ?_)
  · obtain ⟨pm, dx, rfl, _⟩ := h; rfl
  · obtain ⟨pm, dx, rfl, hpm, k⟩ := h
    refine ⟨_, (pss_cons (ps_fld (pv 0) pe_dnewK rfl)
  (pss_one (ps_expr (pe_cd D_format_pages (hr.mono (by omega)) (pa_cons (pv 0) pa_nil))))), ?_⟩
    intro d hd
    have nd : pm ≠ d := ne_of_none hpm hd
    refine ⟨_, rfl, pm, C, dx, _, rfl, (by rw [upd_ne nd]; exact hpm), T.cl, T.nP, (by show 0 < 1000; decide), ?_⟩
    have b1 : But [pm] H (upd (upd H d (.dK [])) pm (.ins C dx (pf d))) := But.upd (But.of (L2.Same.new1 hd)) List.mem_cons_self
    refine ⟨_, rfl, pm, fun _ => none, rfl, ⟨dx, d, [], upd_same, by rw [upd_ne nd.symm, upd_same], NumKeys.nil, fun _ _ q => by cases q⟩, fun H1 b q => ?_⟩
    exact k _ (b1.trans b) q
end
end K7
namespace K7
/-! Trees by their height. -/
structure LeafT where
  n : Nat
  es : List Ent
structure NodeT (α : Type) where
  n : Nat
  ws : List Ent
  cs : List α
@[reducible] def Tr : Nat → Type
  | 0 => LeafT
  | h + 1 => NodeT (Tr h)
abbrev leaf (n : Nat) (es : List Ent) : Tr 0 := LeafT.mk n es
abbrev node {h : Nat} (n : Nat) (ws : List Ent) (cs : List (Tr h)) : Tr (h + 1) := NodeT.mk n ws cs
def num : {h : Nat} → Tr h → Nat
  | 0, ⟨n, _⟩ => n
  | _ + 1, ⟨n, _, _⟩ => n
def renum : {h : Nat} → Tr h → Nat → Tr h
  | 0, ⟨_, es⟩, m => leaf m es
  | _ + 1, ⟨_, ws, cs⟩, m => node m ws cs
def nums : (h : Nat) → Tr h → List Nat
  | 0, ⟨n, _⟩ => [n]
  | h + 1, ⟨n, _, cs⟩ => n :: (cs.map (nums h)).flatten
def firstL {α : Type} (f : α → Nat) : List α → Nat → Nat
  | [], nx => nx
  | c :: _, _ => f c
/-- the number of the first leaf -/
def first : (h : Nat) → Tr h → Nat
  | 0, ⟨n, _⟩ => n
  | h + 1, ⟨_, _, cs⟩ => firstL (first h) cs 0
def ents : (h : Nat) → Tr h → List Ent
  | 0, ⟨_, es⟩ => es
  | h + 1, ⟨_, _, cs⟩ => (cs.map (ents h)).flatten
def inter : List Ent → List (List Ent) → List Ent
  | _, [] => []
  | [], f :: _ => f
  | w :: ws, f :: fs => f ++ w :: inter ws fs
/-- entries and walls, in order -/
def flat : (h : Nat) → Tr h → List Ent
  | 0, ⟨_, es⟩ => es
  | h + 1, ⟨_, ws, cs⟩ => inter ws (cs.map (flat h))
/-- the number of bytes of a node -/
def tsz : {h : Nat} → Tr h → Nat
  | 0, ⟨_, es⟩ => lsz es
  | _ + 1, ⟨_, ws, cs⟩ => isz ws cs.length
def Ok : (h : Nat) → Tr h → Prop
  | 0, ⟨_, es⟩ => lsz es ≤ 116 ∧ ∀ e ∈ es, GE e
  | h + 1, ⟨_, ws, cs⟩ => cs.length = ws.length + 1 ∧ isz ws cs.length ≤ 116 ∧ (∀ e ∈ ws, GE e) ∧ ∀ c ∈ cs, Ok h c
/-- in which child an entry belongs -/
def place (ws : List Ent) (e : Ent) : Nat := (ws.filter fun w => leE w e).length
def dE : Ent := ([], 0, 0)
def wszs (es : List Ent) : List Int := es.map fun e => ((esz e + 2 : Nat) : Int)
def wleaf (n : Nat) (es : List Ent) (a : Al) : (Tr 0 × Option (Ent × Tr 0)) × Al :=
  if lsz es ≤ 116 then ((leaf n es, none), a)
  else ((leaf n (es.take (half (szs es))), some (es.getD (half (szs es)) dE, leaf a.take.1 (es.drop (half (szs es))))), a.take.2)
def wnode {h : Nat} (n : Nat) (ws : List Ent) (cs : List (Tr h)) (a : Al) : (Tr (h + 1) × Option (Ent × Tr (h + 1))) × Al :=
  if isz ws cs.length ≤ 116 then ((node n ws cs, none), a)
  else ((node n (ws.take (half (wszs ws.dropLast))) (cs.take (half (wszs ws.dropLast) + 1)),
    some (ws.getD (half (wszs ws.dropLast)) dE, node a.take.1 (ws.drop (half (wszs ws.dropLast) + 1)) (cs.drop (half (wszs ws.dropLast) + 1)))), a.take.2)
def put : (h : Nat) → Tr h → Ent → Al → (Tr h × Option (Ent × Tr h)) × Al
  | 0, ⟨n, es⟩, e, a => wleaf n (srt (es ++ [e])) a
  | h + 1, ⟨n, ws, cs⟩, e, a => match cs[place ws e]? with
    | none => ((node n ws cs, none), a)
    | some c => match (put h c e a).1.2 with
      | none => ((node n ws (cs.take (place ws e) ++ (put h c e a).1.1 :: cs.drop (place ws e + 1)), none), (put h c e a).2)
      | some (w, t) => wnode n (ws.take (place ws e) ++ w :: ws.drop (place ws e)) (cs.take (place ws e) ++ (put h c e a).1.1 :: t :: cs.drop (place ws e + 1)) (put h c e a).2
def joinT : (h : Nat) → Tr h → Ent → Tr h → Tr h
  | 0, ⟨n, es⟩, _, ⟨_, fs⟩ => leaf n (es ++ fs)
  | _ + 1, ⟨n, ws, cs⟩, w, ⟨_, us, ds⟩ => node n (ws ++ w :: us) (cs ++ ds)
def tryJoin {h : Nat} (n : Nat) (ws : List Ent) (cs : List (Tr h)) (l : Nat) (a : Al) : Option (Tr (h + 1) × Al) :=
  match ws[l]?, cs[l]?, cs[l + 1]? with
  | some w, some c, some d => if tsz (joinT h c w d) ≤ 116 then some (node n (ws.take l ++ ws.drop (l + 1)) (cs.take l ++ joinT h c w d :: cs.drop (l + 2)), a.give (num d)) else none
  | _, _, _ => none
def lefts (i k : Nat) : List Nat := (if i < k then [i] else []) ++ (if 1 ≤ i then [i - 1] else [])
def joinAts {h : Nat} (n : Nat) (ws : List Ent) (cs : List (Tr h)) (a : Al) : List Nat → Tr (h + 1) × Al
  | [] => (node n ws cs, a)
  | l :: ls => match tryJoin n ws cs l a with
    | some r => r
    | none => joinAts n ws cs a ls
def drop : (h : Nat) → Tr h → Ent → Al → Tr h × Al
  | 0, ⟨n, es⟩, e, a => (leaf n (es.filter fun x => decide (x ≠ e)), a)
  | h + 1, ⟨n, ws, cs⟩, e, a => match cs[place ws e]? with
    | none => (node n ws cs, a)
    | some c => if tsz (drop h c e a).1 < 30 then joinAts n ws (cs.take (place ws e) ++ (drop h c e a).1 :: cs.drop (place ws e + 1)) (drop h c e a).2 (lefts (place ws e) ws.length)
      else (node n ws (cs.take (place ws e) ++ (drop h c e a).1 :: cs.drop (place ws e + 1)), (drop h c e a).2)
/-- a tree of any height -/
structure AT where
  h : Nat
  t : Tr h
def shrink : (h : Nat) → Tr h → Al → AT × Al
  | 0, t, a => (⟨0, t⟩, a)
  | h + 1, ⟨n, ws, [c]⟩, a => shrink h (renum c n) (a.give (num c))
  | h + 1, ⟨n, ws, cs⟩, a => (⟨h + 1, node n ws cs⟩, a)
def putR (T : AT) (e : Ent) (a : Al) : AT × Al := match (put T.h T.t e a).1.2 with
  | none => (⟨T.h, (put T.h T.t e a).1.1⟩, (put T.h T.t e a).2)
  | some (w, r) => (⟨T.h + 1, node (num T.t) [w] [renum (put T.h T.t e a).1.1 (put T.h T.t e a).2.take.1, r]⟩, (put T.h T.t e a).2.take.2)
def dropR (T : AT) (e : Ent) (a : Al) : AT × Al := shrink T.h (drop T.h T.t e a).1 (drop T.h T.t e a).2

/-! ### numbers -/
theorem num_renum : ∀ {h : Nat} (t : Tr h) (m : Nat), num (renum t m) = m
  | 0, ⟨_, _⟩, _ => rfl
  | _ + 1, ⟨_, _, _⟩, _ => rfl
theorem num_wleaf (n : Nat) (es : List Ent) (a : Al) : num (wleaf n es a).1.1 = n := by unfold wleaf; split <;> rfl
theorem num_wnode {h : Nat} (n : Nat) (ws : List Ent) (cs : List (Tr h)) (a : Al) : num (wnode n ws cs a).1.1 = n := by unfold wnode; split <;> rfl
theorem num_put : ∀ (h : Nat) (t : Tr h) (e : Ent) (a : Al), num (put h t e a).1.1 = num t
  | 0, ⟨n, es⟩, e, a => num_wleaf _ _ _
  | h + 1, ⟨n, ws, cs⟩, e, a => by
    unfold put
    split
    · rfl
    · split
      · rfl
      · exact num_wnode _ _ _ _
theorem num_joinT : ∀ (h : Nat) (c : Tr h) (w : Ent) (d : Tr h), num (joinT h c w d) = num c
  | 0, ⟨_, _⟩, _, ⟨_, _⟩ => rfl
  | _ + 1, ⟨_, _, _⟩, _, ⟨_, _, _⟩ => rfl
theorem num_tryJoin {h : Nat} {n : Nat} {ws : List Ent} {cs : List (Tr h)} {l : Nat} {a : Al} {r : Tr (h + 1) × Al} (e : tryJoin n ws cs l a = some r) : num r.1 = n := by
  unfold tryJoin at e
  split at e
  · split at e
    · cases e; rfl
    · cases e
  · cases e
theorem num_joinAts {h : Nat} {n : Nat} {ws : List Ent} {cs : List (Tr h)} {a : Al} : ∀ ls : List Nat, num (joinAts n ws cs a ls).1 = n
  | [] => rfl
  | l :: ls => by
    unfold joinAts
    split
    · rename_i r e
      exact num_tryJoin e
    · exact num_joinAts ls
theorem num_drop : ∀ (h : Nat) (t : Tr h) (e : Ent) (a : Al), num (drop h t e a).1 = num t
  | 0, ⟨n, es⟩, e, a => rfl
  | h + 1, ⟨n, ws, cs⟩, e, a => by
    unfold drop
    split
    · rfl
    · split
      · exact num_joinAts _
      · rfl
theorem nums_head : ∀ (h : Nat) (t : Tr h), ∃ r, nums h t = num t :: r
  | 0, ⟨n, es⟩ => ⟨[], rfl⟩
  | h + 1, ⟨n, ws, cs⟩ => ⟨_, rfl⟩
theorem num_mem (h : Nat) (t : Tr h) : num t ∈ nums h t := by
  obtain ⟨r, e⟩ := nums_head h t
  rw [e]
  exact List.mem_cons_self
end K7
namespace K7
theorem dec {α : Type} {cs : List α} {i : Nat} {c : α} (h : cs[i]? = some c) : ∃ A B, cs = A ++ c :: B ∧ A.length = i ∧ cs.take i = A ∧ cs.drop (i + 1) = B := by
  have hi := (List.getElem?_eq_some_iff.mp h).1
  exact ⟨_, _, split_at h, by rw [List.length_take]; omega, rfl, rfl⟩
theorem place_le (ws : List Ent) (e : Ent) : place ws e ≤ ws.length := List.length_filter_le _ _
theorem child_there {α : Type} {cs : List α} {ws : List Ent} (h : cs.length = ws.length + 1) (e : Ent) : ∃ c, cs[place ws e]? = some c := by
  have := place_le ws e
  exact ⟨_, List.getElem?_eq_getElem (by omega)⟩
theorem put_eq {h n : Nat} {ws : List Ent} {cs : List (Tr h)} {e : Ent} {a : Al} {c : Tr h} (hc : cs[place ws e]? = some c) :
    put (h + 1) (node n ws cs) e a = (match (put h c e a).1.2 with
      | none => ((node n ws (cs.take (place ws e) ++ (put h c e a).1.1 :: cs.drop (place ws e + 1)), none), (put h c e a).2)
      | some (w, t) => wnode n (ws.take (place ws e) ++ w :: ws.drop (place ws e)) (cs.take (place ws e) ++ (put h c e a).1.1 :: t :: cs.drop (place ws e + 1)) (put h c e a).2) := by
  show (match cs[place ws e]? with | none => _ | some c => _) = _
  rw [hc]
  all_goals rfl
theorem drop_eq {h n : Nat} {ws : List Ent} {cs : List (Tr h)} {e : Ent} {a : Al} {c : Tr h} (hc : cs[place ws e]? = some c) :
    drop (h + 1) (node n ws cs) e a = (if tsz (drop h c e a).1 < 30 then joinAts n ws (cs.take (place ws e) ++ (drop h c e a).1 :: cs.drop (place ws e + 1)) (drop h c e a).2 (lefts (place ws e) ws.length)
      else (node n ws (cs.take (place ws e) ++ (drop h c e a).1 :: cs.drop (place ws e + 1)), (drop h c e a).2)) := by
  show (match cs[place ws e]? with | none => _ | some c => _) = _
  rw [hc]

/-! ### sorted entries -/
theorem srt_perm (es : List Ent) : (srt es).Perm es := List.mergeSort_perm _ _
theorem srt_sorted (es : List Ent) : (srt es).Pairwise (fun a b => leE a b = true) := List.pairwise_mergeSort (fun a b c => leE_trans a b c) (fun a b => leE_total a b) es
theorem lsz_perm {es fs : List Ent} (h : es.Perm fs) : lsz es = lsz fs := by
  unfold lsz
  exact (h.map esz).sum_nat
theorem srt_mem {es : List Ent} {x : Ent} : x ∈ srt es ↔ x ∈ es := (srt_perm es).mem_iff
theorem srt_lsz (es : List Ent) (e : Ent) : lsz (srt (es ++ [e])) = lsz es + esz e := by rw [lsz_perm (srt_perm _), lsz_app, lsz_one]

/-! ### sizes of halves -/
theorem szs_len (es : List Ent) : (szs es).length = es.length := by unfold szs; rw [List.length_map]
theorem leaf_halves {es : List Ent} (ge : ∀ e ∈ es, GE e) (h1 : 116 < lsz es) (h2 : lsz es ≤ 140) :
    1 ≤ half (szs es) ∧ half (szs es) < es.length ∧ 2 ≤ es.length ∧ lsz (es.take (half (szs es))) ≤ 116 ∧ lsz (es.drop (half (szs es))) ≤ 116 := by
  have hl := lsz_len ge
  have l2 : 2 ≤ (szs es).length := by rw [szs_len]; omega
  have hM : ∀ x ∈ szs es, 0 ≤ x ∧ x ≤ 24 := fun x hx => by
    unfold szs at hx
    obtain ⟨e, he, rfl⟩ := List.mem_map.mp hx
    have := esz_le (ge e he)
    omega
  have hi := half_in l2
  have hs := half_small (M := 24) (by decide) l2 hM (by rw [szs_sum]; omega)
  rw [szs_take, szs_sum, szs_sum] at hs
  rw [szs_len] at hi
  have ha := lsz_app (es.take (half (szs es))) (es.drop (half (szs es)))
  rw [List.take_append_drop] at ha
  exact ⟨hi.1, hi.2, by omega, by omega, by omega⟩
theorem wszs_len (es : List Ent) : (wszs es).length = es.length := by unfold wszs; rw [List.length_map]
theorem wszs_sum (es : List Ent) : (wszs es).sum = ((lsz es + 2 * es.length : Nat) : Int) := by
  induction es with
  | nil => rfl
  | cons e es ih =>
    show (((esz e + 2 : Nat) : Int) :: wszs es).sum = _
    rw [List.sum_cons, ih, lsz_cons, List.length_cons]
    omega
theorem wszs_take (es : List Ent) (i : Nat) : (wszs es).take i = wszs (es.take i) := by unfold wszs; rw [List.map_take]
theorem inner_halves {ws : List Ent} (ge : ∀ e ∈ ws, GE e) (h1 : 116 < isz ws (ws.length + 1)) (h2 : isz ws (ws.length + 1) ≤ 142) :
    1 ≤ half (wszs ws.dropLast) ∧ half (wszs ws.dropLast) + 1 < ws.length ∧ 3 ≤ ws.length ∧ isz (ws.take (half (wszs ws.dropLast))) (half (wszs ws.dropLast) + 1) ≤ 116 ∧
      isz (ws.drop (half (wszs ws.dropLast) + 1)) (ws.length - half (wszs ws.dropLast)) ≤ 116 := by
  unfold isz at *
  have hl := lsz_len ge
  have l3 : 3 ≤ ws.length := by omega
  have hdl : ws.dropLast.length = ws.length - 1 := List.length_dropLast
  have l2 : 2 ≤ (wszs ws.dropLast).length := by rw [wszs_len]; omega
  have gd : ∀ e ∈ ws.dropLast, GE e := fun e he => ge e ((List.dropLast_sublist ws).subset he)
  have hM : ∀ x ∈ wszs ws.dropLast, 0 ≤ x ∧ x ≤ 26 := fun x hx => by
    unfold wszs at hx
    obtain ⟨e, he, rfl⟩ := List.mem_map.mp hx
    have := esz_le (gd e he)
    omega
  have ne : ws ≠ [] := fun e => by rw [e] at l3; simp at l3
  have elast := List.dropLast_concat_getLast ne
  have gl := esz_le (ge _ (List.getLast_mem ne))
  have el : lsz ws = lsz ws.dropLast + esz (ws.getLast ne) := by
    have := congrArg lsz elast
    rw [lsz_app, lsz_one] at this
    exact this.symm
  have hi := half_in l2
  rw [wszs_len] at hi
  have hs := half_small (M := 26) (by decide) l2 hM (by rw [wszs_sum]; omega)
  rw [wszs_take, wszs_sum, wszs_sum] at hs
  generalize half (wszs ws.dropLast) = m at *
  have et : ws.dropLast.take m = ws.take m := by
    rw [List.dropLast_eq_take, List.take_take, Nat.min_eq_left (by omega)]
  rw [et, List.length_take] at hs
  have ha := lsz_app (ws.take m) (ws.drop m)
  rw [List.take_append_drop] at ha
  have hm : m < ws.length := by omega
  have hd : lsz (ws.drop m) = esz ws[m] + lsz (ws.drop (m + 1)) := by
    rw [List.drop_eq_getElem_cons hm, lsz_cons]
  have gm := esz_ge (ge _ (List.getElem_mem hm))
  refine ⟨hi.1, by omega, l3, ?_, ?_⟩
  · omega
  · omega

/-! ### well formed -/
def OkO (h : Nat) (o : Option (Ent × Tr h)) : Prop := ∀ p, o = some p → GE p.1 ∧ Ok h p.2
theorem getD_mem {ws : List Ent} {m : Nat} (h : m < ws.length) : ws.getD m dE ∈ ws := by
  rw [List.getD_eq_getElem?_getD, List.getElem?_eq_getElem h]
  exact List.getElem_mem h
theorem wleaf_ok {n : Nat} {es : List Ent} {a : Al} (ge : ∀ e ∈ es, GE e) (hz : lsz es ≤ 140) : Ok 0 (wleaf n es a).1.1 ∧ OkO 0 (wleaf n es a).1.2 := by
  unfold wleaf
  split
  · rename_i h
    exact ⟨⟨h, ge⟩, fun p q => by cases q⟩
  · rename_i h
    obtain ⟨h1, h2, h3, h4, h5⟩ := leaf_halves ge (by omega) hz
    refine ⟨⟨h4, fun e he => ge e (List.mem_of_mem_take he)⟩, fun p q => ?_⟩
    cases q
    exact ⟨ge _ (getD_mem h2), h5, fun e he => ge e (List.mem_of_mem_drop he)⟩
theorem wnode_ok {h n : Nat} {ws : List Ent} {cs : List (Tr h)} {a : Al} (ge : ∀ e ∈ ws, GE e) (hl : cs.length = ws.length + 1) (hz : isz ws cs.length ≤ 142) (hc : ∀ c ∈ cs, Ok h c) :
    Ok (h + 1) (wnode n ws cs a).1.1 ∧ OkO (h + 1) (wnode n ws cs a).1.2 := by
  unfold wnode
  split
  · rename_i q
    exact ⟨⟨hl, q, ge, hc⟩, fun p q => by cases q⟩
  · rename_i q
    rw [hl] at hz q
    obtain ⟨h1, h2, h3, h4, h5⟩ := inner_halves ge (by omega) hz
    refine ⟨⟨?_, ?_, fun e he => ge e (List.mem_of_mem_take he), fun c m => hc c (List.mem_of_mem_take m)⟩, fun p q => ?_⟩
    · rw [List.length_take, List.length_take]; omega
    · rw [List.length_take, Nat.min_eq_left (by omega)]; exact h4
    · cases q
      refine ⟨ge _ (getD_mem (by omega)), ?_, ?_, fun e he => ge e (List.mem_of_mem_drop he), fun c m => hc c (List.mem_of_mem_drop m)⟩
      · rw [List.length_drop, List.length_drop]; omega
      · rw [List.length_drop, hl, show ws.length + 1 - (half (wszs ws.dropLast) + 1) = ws.length - half (wszs ws.dropLast) by omega]; exact h5
theorem put_ok : ∀ (h : Nat) (t : Tr h) (e : Ent) (a : Al), Ok h t → GE e → Ok h (put h t e a).1.1 ∧ OkO h (put h t e a).1.2
  | 0, ⟨n, es⟩, e, a, ⟨h1, h2⟩, ge => by
    show Ok 0 (wleaf n (srt (es ++ [e])) a).1.1 ∧ _
    refine wleaf_ok (fun x hx => ?_) (by rw [srt_lsz]; have := esz_le ge; omega)
    rcases List.mem_append.mp (srt_mem.mp hx) with q | q
    · exact h2 x q
    · rw [List.mem_singleton.mp q]
      exact ge
  | h + 1, ⟨n, ws, cs⟩, e, a, ⟨h1, h2, h3, h4⟩, ge => by
    obtain ⟨c, hc⟩ := child_there h1 e
    have ih := put_ok h c e a (h4 c (List.mem_of_getElem? hc)) ge
    show Ok (h + 1) (put (h + 1) (node n ws cs) e a).1.1 ∧ OkO (h + 1) (put (h + 1) (node n ws cs) e a).1.2
    rw [put_eq hc]
    obtain ⟨A, B, e1, e2, e3, e4⟩ := dec hc
    rw [e3, e4]
    have hA : ∀ x ∈ A, Ok h x := fun x hx => h4 x (by rw [e1]; exact List.mem_append_left _ hx)
    have hB : ∀ x ∈ B, Ok h x := fun x hx => h4 x (by rw [e1]; exact List.mem_append_right _ (List.mem_cons_of_mem _ hx))
    have hl : cs.length = A.length + 1 + B.length := by rw [e1, List.length_append, List.length_cons]; omega
    cases q : (put h c e a).1.2 with
    | none =>
      refine ⟨⟨by rw [List.length_append, List.length_cons]; omega, ?_, h3, fun x hx => ?_⟩, fun p q => by cases q⟩
      · rw [show (A ++ (put h c e a).1.1 :: B).length = cs.length by rw [List.length_append, List.length_cons]; omega]
        exact h2
      · rcases List.mem_append.mp hx with m | m
        · exact hA x m
        · rcases List.mem_cons.mp m with m | m
          · rw [m]; exact ih.1
          · exact hB x m
    | some p =>
      obtain ⟨w, t⟩ := p
      have hp := ih.2 _ q
      have hw := place_le ws e
      refine wnode_ok (fun x hx => ?_) ?_ ?_ (fun x hx => ?_)
      · rcases List.mem_append.mp hx with m | m
        · exact h3 x (List.mem_of_mem_take m)
        · rcases List.mem_cons.mp m with m | m
          · rw [m]; exact hp.1
          · exact h3 x (List.mem_of_mem_drop m)
      · rw [List.length_append, List.length_cons, List.length_cons, List.length_append, List.length_cons, List.length_take, List.length_drop]; omega
      · unfold isz at *
        have ha := lsz_app (ws.take (place ws e)) (ws.drop (place ws e))
        rw [List.take_append_drop] at ha
        have : esz w ≤ 24 := esz_le hp.1
        rw [List.length_append, List.length_cons, List.length_cons, lsz_app, lsz_cons]
        omega
      · rcases List.mem_append.mp hx with m | m
        · exact hA x m
        · rcases List.mem_cons.mp m with m | m
          · rw [m]; exact ih.1
          · rcases List.mem_cons.mp m with m | m
            · rw [m]; exact hp.2
            · exact hB x m
theorem joinT_ok : ∀ (h : Nat) (c : Tr h) (w : Ent) (d : Tr h), Ok h c → Ok h d → GE w → tsz (joinT h c w d) ≤ 116 → Ok h (joinT h c w d)
  | 0, ⟨n, es⟩, w, ⟨m, fs⟩, ⟨_, h1⟩, ⟨_, h2⟩, _, hz => ⟨hz, fun e he => (List.mem_append.mp he).elim (h1 e) (h2 e)⟩
  | h + 1, ⟨n, ws, cs⟩, w, ⟨m, us, ds⟩, ⟨a1, a2, a3, a4⟩, ⟨b1, b2, b3, b4⟩, ge, hz => by
    refine ⟨?_, hz, fun e he => ?_, fun c hc => (List.mem_append.mp hc).elim (a4 c) (b4 c)⟩
    · rw [List.length_append, List.length_append, List.length_cons]; omega
    · rcases List.mem_append.mp he with m | m
      · exact a3 e m
      · rcases List.mem_cons.mp m with m | m
        · rw [m]; exact ge
        · exact b3 e m
theorem tryJoin_ok {h n : Nat} {ws : List Ent} {cs : List (Tr h)} {l : Nat} {a : Al} {r : Tr (h + 1) × Al} (ok : Ok (h + 1) (node n ws cs)) (e : tryJoin n ws cs l a = some r) : Ok (h + 1) r.1 := by
  obtain ⟨h1, h2, h3, h4⟩ := ok
  unfold tryJoin at e
  split at e
  · rename_i w c d ew ec ed
    split at e
    · rename_i hz
      cases e
      have jl := (List.getElem?_eq_some_iff.mp ew).1
      have jd := (List.getElem?_eq_some_iff.mp ed).1
      have gl := esz_ge (h3 _ (List.mem_of_getElem? ew))
      have ok1 := joinT_ok h c w d (h4 _ (List.mem_of_getElem? ec)) (h4 _ (List.mem_of_getElem? ed)) (h3 _ (List.mem_of_getElem? ew)) hz
      have lc : (cs.take l ++ joinT h c w d :: cs.drop (l + 2)).length = cs.length - 1 := by
        rw [List.length_append, List.length_cons, List.length_take, List.length_drop]; omega
      refine ⟨?_, ?_, fun x hx => ?_, fun x hx => ?_⟩
      · rw [lc, List.length_append, List.length_take, List.length_drop]; omega
      · rw [lc]
        unfold isz at *
        have ha := lsz_app (ws.take l) (ws.drop l)
        rw [List.take_append_drop] at ha
        have hd : lsz (ws.drop (l + 1)) ≤ lsz (ws.drop l) := by
          rw [List.drop_eq_getElem_cons jl, lsz_cons]; omega
        rw [lsz_app]
        omega
      · rcases List.mem_append.mp hx with m | m
        · exact h3 x (List.mem_of_mem_take m)
        · exact h3 x (List.mem_of_mem_drop m)
      · rcases List.mem_append.mp hx with m | m
        · exact h4 x (List.mem_of_mem_take m)
        · rcases List.mem_cons.mp m with m | m
          · rw [m]; exact ok1
          · exact h4 x (List.mem_of_mem_drop m)
    · cases e
  · cases e
theorem joinAts_ok {h n : Nat} {ws : List Ent} {cs : List (Tr h)} {a : Al} (ok : Ok (h + 1) (node n ws cs)) : ∀ ls : List Nat, Ok (h + 1) (joinAts n ws cs a ls).1
  | [] => ok
  | l :: ls => by
    unfold joinAts
    split
    · rename_i r e
      exact tryJoin_ok ok e
    · exact joinAts_ok ok ls
theorem lsz_filter (p : Ent → Bool) : ∀ es : List Ent, lsz (es.filter p) ≤ lsz es
  | [] => Nat.le_refl _
  | e :: es => by
    have := lsz_filter p es
    rw [List.filter_cons]
    split
    · rw [lsz_cons, lsz_cons]; omega
    · rw [lsz_cons]; omega
theorem drop_ok : ∀ (h : Nat) (t : Tr h) (e : Ent) (a : Al), Ok h t → Ok h (drop h t e a).1
  | 0, ⟨n, es⟩, e, a, ⟨h1, h2⟩ => ⟨Nat.le_trans (lsz_filter _ _) h1, fun x hx => h2 x (List.mem_filter.mp hx).1⟩
  | h + 1, ⟨n, ws, cs⟩, e, a, ok => by
    obtain ⟨h1, h2, h3, h4⟩ := id ok
    obtain ⟨c, hc⟩ := child_there h1 e
    have ih := drop_ok h c e a (h4 c (List.mem_of_getElem? hc))
    show Ok (h + 1) (drop (h + 1) (node n ws cs) e a).1
    rw [drop_eq hc]
    obtain ⟨A, B, e1, e2, e3, e4⟩ := dec hc
    rw [e3, e4]
    have ok2 : Ok (h + 1) (node n ws (A ++ (drop h c e a).1 :: B)) := by
      have hl : (A ++ (drop h c e a).1 :: B).length = cs.length := by rw [e1, List.length_append, List.length_append, List.length_cons, List.length_cons]
      refine ⟨by rw [hl]; exact h1, by rw [hl]; exact h2, h3, fun x hx => ?_⟩
      rcases List.mem_append.mp hx with m | m
      · exact h4 x (by rw [e1]; exact List.mem_append_left _ m)
      · rcases List.mem_cons.mp m with m | m
        · rw [m]; exact ih
        · exact h4 x (by rw [e1]; exact List.mem_append_right _ (List.mem_cons_of_mem _ m))
    split
    · exact joinAts_ok ok2 _
    · exact ok2
theorem renum_ok : ∀ {h : Nat} {t : Tr h} {m : Nat}, Ok h t → Ok h (renum t m)
  | 0, ⟨_, _⟩, _, o => o
  | _ + 1, ⟨_, _, _⟩, _, o => o
theorem shrink_ok : ∀ (h : Nat) (t : Tr h) (a : Al), Ok h t → Ok (shrink h t a).1.h (shrink h t a).1.t
  | 0, t, a, o => o
  | h + 1, ⟨n, ws, [c]⟩, a, o => shrink_ok h (renum c n) _ (renum_ok (o.2.2.2 c List.mem_cons_self))
  | h + 1, ⟨n, ws, []⟩, a, o => o
  | h + 1, ⟨n, ws, c :: d :: r⟩, a, o => o
end K7
namespace K7
/-! ### which numbers a tree has, by counting -/
theorem cnt_cons (x y : Nat) (l : List Nat) : List.count x (y :: l) = List.count x [y] + List.count x l := by
  rw [show y :: l = [y] ++ l from rfl, List.count_append]
def numsL (h : Nat) (cs : List (Tr h)) : List Nat := (cs.map (nums h)).flatten
theorem numsL_app {h : Nat} (a b : List (Tr h)) : numsL h (a ++ b) = numsL h a ++ numsL h b := by unfold numsL; rw [List.map_append, List.flatten_append]
theorem numsL_cons {h : Nat} (c : Tr h) (b : List (Tr h)) : numsL h (c :: b) = nums h c ++ numsL h b := rfl
theorem nums_node {h : Nat} (n : Nat) (ws : List Ent) (cs : List (Tr h)) : nums (h + 1) (node n ws cs) = n :: numsL h cs := rfl
def numsO (h : Nat) : Option (Ent × Tr h) → List Nat
  | none => []
  | some p => nums h p.2
theorem take_cnt (a : Al) : ∃ k, k ≤ 1 ∧ a.take.2.fresh = a.fresh + k ∧ ∀ x, List.count x [a.take.1] + List.count x a.take.2.free = List.count x a.free + List.count x (List.range' a.fresh k) := by
  unfold Al.take
  cases e : a.free with
  | nil => exact ⟨1, Nat.le_refl _, rfl, fun x => by simp⟩
  | cons f fs =>
    refine ⟨0, Nat.zero_le _, rfl, fun x => ?_⟩
    rw [cnt_cons x f fs]
    simp
theorem range_cnt (x a i j : Nat) : List.count x (List.range' a (i + j)) = List.count x (List.range' a i) + List.count x (List.range' (a + i) j) := by
  rw [← List.count_append]
  congr 1
  rw [List.range'_append_1]
theorem wleaf_cnt (n : Nat) (es : List Ent) (a : Al) : ∃ k, k ≤ 1 ∧ (wleaf n es a).2.fresh = a.fresh + k ∧
    ∀ x, List.count x (nums 0 (wleaf n es a).1.1) + List.count x (numsO 0 (wleaf n es a).1.2) + List.count x (wleaf n es a).2.free = List.count x [n] + List.count x a.free + List.count x (List.range' a.fresh k) := by
  unfold wleaf
  split
  · exact ⟨0, Nat.zero_le _, rfl, fun x => by simp [nums, numsO]⟩
  · obtain ⟨k, h1, h2, h3⟩ := take_cnt a
    refine ⟨k, h1, h2, fun x => ?_⟩
    have := h3 x
    show List.count x [n] + List.count x [a.take.1] + List.count x a.take.2.free = _
    omega
theorem wnode_cnt {h : Nat} (n : Nat) (ws : List Ent) (cs : List (Tr h)) (a : Al) : ∃ k, k ≤ 1 ∧ (wnode n ws cs a).2.fresh = a.fresh + k ∧
    ∀ x, List.count x (nums (h + 1) (wnode n ws cs a).1.1) + List.count x (numsO (h + 1) (wnode n ws cs a).1.2) + List.count x (wnode n ws cs a).2.free = List.count x [n] + List.count x (numsL h cs) + List.count x a.free + List.count x (List.range' a.fresh k) := by
  unfold wnode
  split
  · refine ⟨0, Nat.zero_le _, rfl, fun x => ?_⟩
    show List.count x (nums (h + 1) (node n ws cs)) + List.count x [] + _ = _
    rw [nums_node, cnt_cons]
    simp
  · obtain ⟨k, h1, h2, h3⟩ := take_cnt a
    refine ⟨k, h1, h2, fun x => ?_⟩
    have := h3 x
    show List.count x (nums (h + 1) (node n (ws.take (half (wszs ws.dropLast))) (cs.take (half (wszs ws.dropLast) + 1)))) + List.count x (nums (h + 1) (node a.take.1 (ws.drop (half (wszs ws.dropLast) + 1)) (cs.drop (half (wszs ws.dropLast) + 1)))) + List.count x a.take.2.free = _
    rw [nums_node, nums_node, cnt_cons x n (numsL h (cs.take (half (wszs ws.dropLast) + 1))), cnt_cons x a.take.1 (numsL h (cs.drop (half (wszs ws.dropLast) + 1)))]
    have e : List.count x (numsL h cs) = List.count x (numsL h (cs.take (half (wszs ws.dropLast) + 1))) + List.count x (numsL h (cs.drop (half (wszs ws.dropLast) + 1))) := by
      rw [← List.count_append, ← numsL_app, List.take_append_drop]
    omega
theorem put_cnt : ∀ (h : Nat) (t : Tr h) (e : Ent) (a : Al), Ok h t → ∃ k, k ≤ h + 1 ∧ (put h t e a).2.fresh = a.fresh + k ∧
    ∀ x, List.count x (nums h (put h t e a).1.1) + List.count x (numsO h (put h t e a).1.2) + List.count x (put h t e a).2.free = List.count x (nums h t) + List.count x a.free + List.count x (List.range' a.fresh k)
  | 0, ⟨n, es⟩, e, a, _ => wleaf_cnt _ _ _
  | h + 1, ⟨n, ws, cs⟩, e, a, ok => by
    obtain ⟨h1, h2, h3, h4⟩ := id ok
    obtain ⟨c, hc⟩ := child_there h1 e
    obtain ⟨k, k1, k2, k3⟩ := put_cnt h c e a (h4 c (List.mem_of_getElem? hc))
    show ∃ k, k ≤ h + 1 + 1 ∧ (put (h + 1) (node n ws cs) e a).2.fresh = _ ∧ ∀ x, List.count x (nums (h + 1) (put (h + 1) (node n ws cs) e a).1.1) + List.count x (numsO (h + 1) (put (h + 1) (node n ws cs) e a).1.2) + List.count x (put (h + 1) (node n ws cs) e a).2.free = List.count x (nums (h + 1) (node n ws cs)) + _ + _
    rw [put_eq hc]
    obtain ⟨A, B, e1, e2, e3, e4⟩ := dec hc
    rw [e3, e4]
    have en : ∀ x, List.count x (nums (h + 1) (node n ws cs)) = List.count x [n] + List.count x (numsL h A) + List.count x (nums h c) + List.count x (numsL h B) := fun x => by
      rw [nums_node, cnt_cons, e1, numsL_app, numsL_cons, List.count_append, List.count_append]; omega
    cases q : (put h c e a).1.2 with
    | none =>
      refine ⟨k, by omega, k2, fun x => ?_⟩
      have := k3 x
      rw [q] at this
      have z : List.count x (numsO h (none : Option (Ent × Tr h))) = 0 := rfl
      rw [en]
      show List.count x (nums (h + 1) (node n ws (A ++ (put h c e a).1.1 :: B))) + List.count x [] + List.count x (put h c e a).2.free = _
      rw [nums_node, cnt_cons, numsL_app, numsL_cons, List.count_append, List.count_append, List.count_nil]
      omega
    | some p =>
      obtain ⟨w, t⟩ := p
      obtain ⟨j, j1, j2, j3⟩ := wnode_cnt n (ws.take (place ws e) ++ w :: ws.drop (place ws e)) (A ++ (put h c e a).1.1 :: t :: B) (put h c e a).2
      refine ⟨k + j, by omega, ?_, fun x => ?_⟩
      · show (wnode _ _ _ _).2.fresh = _
        rw [j2, k2]; omega
      · have a1 := k3 x
        have a2 := j3 x
        rw [q] at a1
        have z : List.count x (numsO h (some (w, t))) = List.count x (nums h t) := rfl
        rw [numsL_app, numsL_cons, numsL_cons, List.count_append, List.count_append, List.count_append, k2] at a2
        rw [en, range_cnt]
        show List.count x (nums (h + 1) (wnode n _ _ _).1.1) + List.count x (numsO (h + 1) (wnode n _ _ _).1.2) + List.count x (wnode n _ _ _).2.free = _
        omega
theorem joinT_cnt : ∀ (h : Nat) (c : Tr h) (w : Ent) (d : Tr h) (x : Nat), List.count x (nums h (joinT h c w d)) + List.count x [num d] = List.count x (nums h c) + List.count x (nums h d)
  | 0, ⟨n, es⟩, w, ⟨m, fs⟩, x => rfl
  | h + 1, ⟨n, ws, cs⟩, w, ⟨m, us, ds⟩, x => by
    show List.count x (nums (h + 1) (node n (ws ++ w :: us) (cs ++ ds))) + List.count x [m] = List.count x (nums (h + 1) (node n ws cs)) + List.count x (nums (h + 1) (node m us ds))
    rw [nums_node, nums_node, nums_node, cnt_cons, cnt_cons x n (numsL h cs), cnt_cons x m (numsL h ds), numsL_app, List.count_append]
    omega
theorem tryJoin_cnt {h n : Nat} {ws : List Ent} {cs : List (Tr h)} {l : Nat} {a : Al} {r : Tr (h + 1) × Al} (e : tryJoin n ws cs l a = some r) : r.2.fresh = a.fresh ∧ ∀ x, List.count x (nums (h + 1) r.1) + List.count x r.2.free = List.count x (nums (h + 1) (node n ws cs)) + List.count x a.free := by
  unfold tryJoin at e
  split at e
  · rename_i w c d ew ec ed
    split at e
    · cases e
      refine ⟨rfl, fun x => ?_⟩
      have j := joinT_cnt h c w d x
      have e1 : cs = cs.take l ++ c :: d :: cs.drop (l + 2) := by
        have a1 := split_at ec
        have a2 : cs.drop (l + 1) = d :: cs.drop (l + 2) := by
          have hl := (List.getElem?_eq_some_iff.mp ed).1
          rw [List.drop_eq_getElem_cons hl, (List.getElem?_eq_some_iff.mp ed).2]
        rw [a2] at a1
        exact a1
      have e2 : List.count x (numsL h cs) = List.count x (numsL h (cs.take l)) + List.count x (nums h c) + List.count x (nums h d) + List.count x (numsL h (cs.drop (l + 2))) := by
        conv => lhs; rw [e1]
        rw [numsL_app, numsL_cons, numsL_cons, List.count_append, List.count_append, List.count_append]; omega
      show List.count x (nums (h + 1) (node n _ (cs.take l ++ joinT h c w d :: cs.drop (l + 2)))) + List.count x (num d :: a.free) = List.count x (nums (h + 1) (node n ws cs)) + _
      rw [nums_node, nums_node, cnt_cons, cnt_cons x n (numsL h cs), cnt_cons x (num d) a.free, numsL_app, numsL_cons, List.count_append, List.count_append]
      omega
    · cases e
  · cases e
theorem joinAts_cnt {h n : Nat} {ws : List Ent} {cs : List (Tr h)} {a : Al} : ∀ ls : List Nat, (joinAts n ws cs a ls).2.fresh = a.fresh ∧ ∀ x, List.count x (nums (h + 1) (joinAts n ws cs a ls).1) + List.count x (joinAts n ws cs a ls).2.free = List.count x (nums (h + 1) (node n ws cs)) + List.count x a.free
  | [] => ⟨rfl, fun _ => rfl⟩
  | l :: ls => by
    unfold joinAts
    split
    · rename_i r e
      exact tryJoin_cnt e
    · exact joinAts_cnt ls
theorem drop_cnt : ∀ (h : Nat) (t : Tr h) (e : Ent) (a : Al), Ok h t → (drop h t e a).2.fresh = a.fresh ∧ ∀ x, List.count x (nums h (drop h t e a).1) + List.count x (drop h t e a).2.free = List.count x (nums h t) + List.count x a.free
  | 0, ⟨n, es⟩, e, a, _ => ⟨rfl, fun _ => rfl⟩
  | h + 1, ⟨n, ws, cs⟩, e, a, ok => by
    obtain ⟨h1, h2, h3, h4⟩ := id ok
    obtain ⟨c, hc⟩ := child_there h1 e
    obtain ⟨k2, k3⟩ := drop_cnt h c e a (h4 c (List.mem_of_getElem? hc))
    show (drop (h + 1) (node n ws cs) e a).2.fresh = _ ∧ ∀ x, List.count x (nums (h + 1) (drop (h + 1) (node n ws cs) e a).1) + List.count x (drop (h + 1) (node n ws cs) e a).2.free = List.count x (nums (h + 1) (node n ws cs)) + _
    rw [drop_eq hc]
    obtain ⟨A, B, e1, e2, e3, e4⟩ := dec hc
    rw [e3, e4]
    have en : ∀ x, List.count x (nums (h + 1) (node n ws cs)) = List.count x [n] + List.count x (numsL h A) + List.count x (nums h c) + List.count x (numsL h B) := fun x => by
      rw [nums_node, cnt_cons, e1, numsL_app, numsL_cons, List.count_append, List.count_append]; omega
    have en2 : ∀ x, List.count x (nums (h + 1) (node n ws (A ++ (drop h c e a).1 :: B))) = List.count x [n] + List.count x (numsL h A) + List.count x (nums h (drop h c e a).1) + List.count x (numsL h B) := fun x => by
      rw [nums_node, cnt_cons, numsL_app, numsL_cons, List.count_append, List.count_append]; omega
    split
    · obtain ⟨j1, j2⟩ := joinAts_cnt (n := n) (ws := ws) (cs := A ++ (drop h c e a).1 :: B) (a := (drop h c e a).2) (lefts (place ws e) ws.length)
      refine ⟨by rw [j1, k2], fun x => ?_⟩
      have a1 := k3 x
      have a2 := j2 x
      rw [en2] at a2
      rw [en]
      omega
    · refine ⟨k2, fun x => ?_⟩
      have a1 := k3 x
      rw [en, en2]
      show _ + List.count x (drop h c e a).2.free = _
      omega
theorem renum_cnt : ∀ {h : Nat} (t : Tr h) (m x : Nat), List.count x (nums h (renum t m)) + List.count x [num t] = List.count x (nums h t) + List.count x [m]
  | 0, ⟨n, es⟩, m, x => by
    show List.count x [m] + List.count x [n] = List.count x [n] + List.count x [m]
    omega
  | h + 1, ⟨n, ws, cs⟩, m, x => by
    show List.count x (nums (h + 1) (node m ws cs)) + List.count x [n] = List.count x (nums (h + 1) (node n ws cs)) + _
    rw [nums_node, nums_node, cnt_cons x m (numsL h cs), cnt_cons x n (numsL h cs)]
    omega
theorem shrink_cnt : ∀ (h : Nat) (t : Tr h) (a : Al), (shrink h t a).2.fresh = a.fresh ∧ ∀ x, List.count x (nums (shrink h t a).1.h (shrink h t a).1.t) + List.count x (shrink h t a).2.free = List.count x (nums h t) + List.count x a.free
  | 0, t, a => ⟨rfl, fun _ => rfl⟩
  | h + 1, ⟨n, ws, [c]⟩, a => by
    obtain ⟨h1, h2⟩ := shrink_cnt h (renum c n) (a.give (num c))
    refine ⟨h1, fun x => ?_⟩
    have a1 := h2 x
    have a2 := renum_cnt c n x
    have a3 : List.count x (a.give (num c)).free = List.count x [num c] + List.count x a.free := cnt_cons _ _ _
    have a4 : List.count x (nums (h + 1) (node n ws [c])) = List.count x [n] + List.count x (nums h c) := by
      rw [nums_node, cnt_cons]
      show _ + List.count x (nums h c ++ []) = _
      rw [List.append_nil]
    show List.count x (nums (shrink h (renum c n) (a.give (num c))).1.h (shrink h (renum c n) (a.give (num c))).1.t) + List.count x (shrink h (renum c n) (a.give (num c))).2.free = List.count x (nums (h + 1) (node n ws [c])) + _
    omega
  | h + 1, ⟨n, ws, []⟩, a => ⟨rfl, fun _ => rfl⟩
  | h + 1, ⟨n, ws, c :: d :: r⟩, a => ⟨rfl, fun _ => rfl⟩
theorem shrink_num : ∀ (h : Nat) (t : Tr h) (a : Al), num (shrink h t a).1.t = num t
  | 0, t, a => rfl
  | h + 1, ⟨n, ws, [c]⟩, a => by
    show num (shrink h (renum c n) (a.give (num c))).1.t = n
    rw [shrink_num, num_renum]
  | h + 1, ⟨n, ws, []⟩, a => rfl
  | h + 1, ⟨n, ws, c :: d :: r⟩, a => rfl
theorem shrink_h : ∀ (h : Nat) (t : Tr h) (a : Al), (shrink h t a).1.h ≤ h
  | 0, t, a => Nat.le_refl _
  | h + 1, ⟨n, ws, [c]⟩, a => Nat.le_trans (shrink_h h (renum c n) (a.give (num c))) (Nat.le_succ _)
  | h + 1, ⟨n, ws, []⟩, a => Nat.le_refl _
  | h + 1, ⟨n, ws, c :: d :: r⟩, a => Nat.le_refl _
/-- the numbers from 1 on are those of the tree and those that are free, each once -/
def Whole (ns : List Nat) (a : Al) : Prop := ∀ x, List.count x ns + List.count x a.free = List.count x (List.range' 1 (a.fresh - 1))
theorem putR_whole {T : AT} {e : Ent} {a : Al} (ok : Ok T.h T.t) (hf : 1 ≤ a.fresh) (w : Whole (nums T.h T.t) a) :
    Whole (nums (putR T e a).1.h (putR T e a).1.t) (putR T e a).2 ∧ a.fresh ≤ (putR T e a).2.fresh ∧ (putR T e a).2.fresh ≤ a.fresh + (T.h + 2) ∧ (putR T e a).1.h ≤ T.h + 1 := by
  obtain ⟨k, k1, k2, k3⟩ := put_cnt T.h T.t e a ok
  have hp := num_put T.h T.t e a
  unfold putR
  cases q : (put T.h T.t e a).1.2 with
  | none =>
    refine ⟨fun x => ?_, by show a.fresh ≤ (put T.h T.t e a).2.fresh; omega, by show (put T.h T.t e a).2.fresh ≤ _; omega, Nat.le_succ _⟩
    have a1 := k3 x
    have a2 := w x
    rw [q] at a1
    have z : List.count x (numsO T.h (none : Option (Ent × Tr T.h))) = 0 := rfl
    show List.count x (nums T.h (put T.h T.t e a).1.1) + List.count x (put T.h T.t e a).2.free = List.count x (List.range' 1 ((put T.h T.t e a).2.fresh - 1))
    rw [k2, show a.fresh + k - 1 = (a.fresh - 1) + k by omega, range_cnt, show 1 + (a.fresh - 1) = a.fresh by omega]
    omega
  | some p =>
    obtain ⟨u, r⟩ := p
    obtain ⟨j, j1, j2, j3⟩ := take_cnt (put T.h T.t e a).2
    refine ⟨fun x => ?_, by show a.fresh ≤ (put T.h T.t e a).2.take.2.fresh; omega, by show (put T.h T.t e a).2.take.2.fresh ≤ _; omega, Nat.le_refl _⟩
    have a1 := k3 x
    have a2 := w x
    have a3 := j3 x
    have a4 := renum_cnt (put T.h T.t e a).1.1 (put T.h T.t e a).2.take.1 x
    rw [q] at a1
    have z : List.count x (numsO T.h (some (u, r))) = List.count x (nums T.h r) := rfl
    show List.count x (nums (T.h + 1) (node (num T.t) [u] [renum (put T.h T.t e a).1.1 (put T.h T.t e a).2.take.1, r])) + List.count x (put T.h T.t e a).2.take.2.free = List.count x (List.range' 1 ((put T.h T.t e a).2.take.2.fresh - 1))
    rw [j2, k2, show a.fresh + k + j - 1 = (a.fresh - 1) + (k + j) by omega, range_cnt, show 1 + (a.fresh - 1) = a.fresh by omega, range_cnt, nums_node, cnt_cons]
    show _ + List.count x (nums T.h _ ++ (nums T.h r ++ [])) + _ = _
    rw [List.append_nil, List.count_append]
    rw [hp] at a4
    rw [k2] at a3
    omega
theorem dropR_whole {T : AT} {e : Ent} {a : Al} (ok : Ok T.h T.t) (w : Whole (nums T.h T.t) a) :
    Whole (nums (dropR T e a).1.h (dropR T e a).1.t) (dropR T e a).2 ∧ (dropR T e a).2.fresh = a.fresh ∧ (dropR T e a).1.h ≤ T.h := by
  obtain ⟨k1, k2⟩ := drop_cnt T.h T.t e a ok
  obtain ⟨j1, j2⟩ := shrink_cnt T.h (drop T.h T.t e a).1 (drop T.h T.t e a).2
  unfold dropR
  refine ⟨fun x => ?_, by rw [j1, k1], shrink_h _ _ _⟩
  have a1 := k2 x
  have a2 := j2 x
  have a3 := w x
  rw [j1, k1]
  omega
theorem putR_num {T : AT} {e : Ent} {a : Al} : num (putR T e a).1.t = num T.t := by
  unfold putR
  cases q : (put T.h T.t e a).1.2 with
  | none => exact num_put _ _ _ _
  | some p => rfl
theorem dropR_num {T : AT} {e : Ent} {a : Al} : num (dropR T e a).1.t = num T.t := by
  unfold dropR
  rw [shrink_num, num_drop]
theorem putR_ok {T : AT} {e : Ent} {a : Al} (ok : Ok T.h T.t) (ge : GE e) : Ok (putR T e a).1.h (putR T e a).1.t := by
  obtain ⟨h1, h2⟩ := put_ok T.h T.t e a ok ge
  unfold putR
  cases q : (put T.h T.t e a).1.2 with
  | none => exact h1
  | some p =>
    obtain ⟨w, r⟩ := p
    obtain ⟨g1, g2⟩ := h2 _ q
    have := esz_le g1
    refine ⟨rfl, ?_, fun x hx => ?_, fun c hc => ?_⟩
    · show lsz [w] + 2 * 2 ≤ 116
      rw [lsz_one]
      have : esz w ≤ 24 := esz_le g1
      omega
    · rw [List.mem_singleton.mp hx]
      exact g1
    · rcases List.mem_cons.mp hc with m | m
      · rw [m]
        exact renum_ok h1
      · rw [List.mem_singleton.mp m]
        exact g2
theorem dropR_ok {T : AT} {e : Ent} {a : Al} (ok : Ok T.h T.t) : Ok (dropR T e a).1.h (dropR T e a).1.t := shrink_ok _ _ _ (drop_ok _ _ _ _ ok)
end K7
namespace K7
/-! ### the order of entries and walls -/
abbrev So (l : List Ent) : Prop := l.Pairwise fun a b => leE a b = true
theorem so_app {A B : List Ent} : So (A ++ B) ↔ So A ∧ So B ∧ ∀ a ∈ A, ∀ b ∈ B, leE a b = true := List.pairwise_append
theorem so_cons {x : Ent} {B : List Ent} : So (x :: B) ↔ (∀ b ∈ B, leE x b = true) ∧ So B := List.pairwise_cons
theorem place_spec : ∀ (ws : List Ent) (e : Ent), So ws → (∀ w ∈ ws.take (place ws e), leE w e = true) ∧ (∀ w ∈ ws.drop (place ws e), leE w e = false)
  | [], e, _ => ⟨fun w h => by simp at h, fun w h => by simp at h⟩
  | w :: ws, e, so => by
    obtain ⟨h1, h2⟩ := so_cons.mp so
    have ih := place_spec ws e h2
    cases q : leE w e with
    | true =>
      have ep : place (w :: ws) e = place ws e + 1 := by
        unfold place
        rw [List.filter_cons, if_pos q, List.length_cons]
      rw [ep, List.take_succ_cons, List.drop_succ_cons]
      refine ⟨fun x hx => ?_, ih.2⟩
      rcases List.mem_cons.mp hx with m | m
      · rw [m]; exact q
      · exact ih.1 x m
    | false =>
      have hall : ∀ x ∈ w :: ws, leE x e = false := fun x hx => by
        rcases List.mem_cons.mp hx with m | m
        · rw [m]; exact q
        · cases z : leE x e with
          | false => rfl
          | true =>
            have := leE_trans _ _ _ (h1 x m) z
            rw [q] at this
            cases this
      have ep : place (w :: ws) e = 0 := by
        unfold place
        rw [List.filter_eq_nil_iff.mpr (fun x hx => by rw [hall x hx]; decide)]
        rfl
      rw [ep]
      exact ⟨fun x hx => by simp at hx, hall⟩
def pre : List Ent → List (List Ent) → List Ent
  | w :: ws, f :: fs => f ++ w :: pre ws fs
  | _, _ => []
def post : List Ent → List (List Ent) → List Ent
  | w :: ws, fs => w :: inter ws fs
  | [], _ => []
theorem inter_cons : ∀ (ws : List Ent) (f : List Ent) (fs : List (List Ent)), inter ws (f :: fs) = f ++ post ws fs
  | [], f, fs => by show f = f ++ []; rw [List.append_nil]
  | w :: ws, f, fs => rfl
theorem inter_app : ∀ (W1 : List Ent) (F1 : List (List Ent)) (W2 : List Ent) (f : List Ent) (F2 : List (List Ent)), F1.length = W1.length → inter (W1 ++ W2) (F1 ++ f :: F2) = pre W1 F1 ++ (f ++ post W2 F2)
  | [], [], W2, f, F2, _ => by
    show inter W2 (f :: F2) = [] ++ _
    rw [inter_cons, List.nil_append]
  | [], _ :: _, _, _, _, h => by simp at h
  | _ :: _, [], _, _, _, h => by simp at h
  | w :: W1, g :: F1, W2, f, F2, h => by
    show g ++ w :: inter (W1 ++ W2) (F1 ++ f :: F2) = (g ++ w :: pre W1 F1) ++ _
    rw [inter_app W1 F1 W2 f F2 (by simpa using h)]
    simp
theorem pre_le : ∀ (W : List Ent) (F : List (List Ent)), F.length = W.length → So (pre W F) → ∀ x ∈ pre W F, ∃ w ∈ W, leE x w = true
  | [], [], _, _, x, hx => by cases hx
  | [], _ :: _, h, _, _, _ => by simp at h
  | _ :: _, [], h, _, _, _ => by simp at h
  | w :: W, f :: F, h, so, x, hx => by
    have so' : So (f ++ w :: pre W F) := so
    obtain ⟨s1, s2, s3⟩ := so_app.mp so'
    rcases List.mem_append.mp (show x ∈ f ++ w :: pre W F from hx) with m | m
    · exact ⟨w, List.mem_cons_self, s3 x m w List.mem_cons_self⟩
    · rcases List.mem_cons.mp m with m | m
      · exact ⟨w, List.mem_cons_self, by rw [m]; exact leE_refl w⟩
      · obtain ⟨u, hu, z⟩ := pre_le W F (by simpa using h) (so_cons.mp s2).2 x m
        exact ⟨u, List.mem_cons_of_mem _ hu, z⟩
theorem post_ge {W : List Ent} {F : List (List Ent)} (so : So (post W F)) {x : Ent} (hx : x ∈ post W F) : ∃ w ∈ W, leE w x = true := by
  cases W with
  | nil => cases hx
  | cons w W =>
    have so' : So (w :: inter W F) := so
    rcases List.mem_cons.mp (show x ∈ w :: inter W F from hx) with m | m
    · exact ⟨w, List.mem_cons_self, by rw [m]; exact leE_refl w⟩
    · exact ⟨w, List.mem_cons_self, (so_cons.mp so').1 x m⟩
/-- the walls are in order -/
theorem walls_sub : ∀ (ws : List Ent) (fs : List (List Ent)), fs.length = ws.length + 1 → ws.Sublist (inter ws fs)
  | [], _, _ => List.nil_sublist _
  | w :: ws, [], h => by simp at h
  | w :: ws, f :: fs, h => by
    show (w :: ws).Sublist (f ++ w :: inter ws fs)
    exact List.sublist_append_of_sublist_right ((walls_sub ws fs (by simpa using h)).cons₂ w)
theorem inter_cut : ∀ (m : Nat) (ws : List Ent) (fs : List (List Ent)), fs.length = ws.length + 1 → m < ws.length →
    inter (ws.take m) (fs.take (m + 1)) ++ ws.getD m dE :: inter (ws.drop (m + 1)) (fs.drop (m + 1)) = inter ws fs
  | _, [], _, _, h => by simp at h
  | _, _ :: _, [], h, _ => by simp at h
  | 0, w :: ws, f :: fs, _, _ => rfl
  | m + 1, w :: ws, f :: fs, h1, h2 => by
    have ih := inter_cut m ws fs (by simpa using h1) (by simpa using h2)
    show (f ++ w :: inter (ws.take m) (fs.take (m + 1))) ++ ws.getD m dE :: inter (ws.drop (m + 1)) (fs.drop (m + 1)) = f ++ w :: inter ws fs
    rw [← ih]
    simp
theorem inter_join : ∀ (ws : List Ent) (fs : List (List Ent)) (w : Ent) (us : List Ent) (gs : List (List Ent)), fs.length = ws.length + 1 → inter (ws ++ w :: us) (fs ++ gs) = inter ws fs ++ w :: inter us gs
  | [], [], _, _, _, h => by simp at h
  | [], [f], w, us, gs, _ => rfl
  | [], _ :: _ :: _, _, _, _, h => by simp at h
  | _ :: _, [], _, _, _, h => by simp at h
  | v :: ws, f :: fs, w, us, gs, h => by
    show f ++ v :: inter (ws ++ w :: us) (fs ++ gs) = (f ++ v :: inter ws fs) ++ _
    rw [inter_join ws fs w us gs (by simpa using h)]
    simp
def flatO (h : Nat) (p : Tr h × Option (Ent × Tr h)) : List Ent := match p.2 with
  | none => flat h p.1
  | some (w, r) => flat h p.1 ++ w :: flat h r
theorem wleaf_flat {n : Nat} {es : List Ent} {a : Al} (ge : ∀ e ∈ es, GE e) (hz : lsz es ≤ 140) (so : So es) : So (flatO 0 (wleaf n es a).1) ∧ ∀ x ∈ flatO 0 (wleaf n es a).1, x ∈ es := by
  unfold wleaf
  split
  · exact ⟨so, fun x h => h⟩
  · rename_i hc
    obtain ⟨h1, h2, h3, h4, h5⟩ := leaf_halves ge (by omega) hz
    show So (es.take (half (szs es)) ++ es.getD (half (szs es)) dE :: es.drop (half (szs es))) ∧ ∀ x ∈ es.take (half (szs es)) ++ es.getD (half (szs es)) dE :: es.drop (half (szs es)), x ∈ es
    generalize half (szs es) = m at *
    have e1 : es.getD m dE = es[m] := by rw [List.getD_eq_getElem?_getD, List.getElem?_eq_getElem h2]; rfl
    have e2 := List.drop_eq_getElem_cons h2
    have e3 : es = es.take m ++ es.drop m := (List.take_append_drop m es).symm
    rw [e1]
    refine ⟨?_, fun x hx => ?_⟩
    · rw [e3] at so
      obtain ⟨s1, s2, s3⟩ := so_app.mp so
      refine so_app.mpr ⟨s1, so_cons.mpr ⟨fun b hb => ?_, s2⟩, fun a ha b hb => ?_⟩
      · rw [e2] at hb s2
        rcases List.mem_cons.mp hb with q | q
        · rw [q]; exact leE_refl _
        · exact (so_cons.mp s2).1 b q
      · rcases List.mem_cons.mp hb with q | q
        · rw [q]; exact s3 a ha _ (by rw [e2]; exact List.mem_cons_self)
        · exact s3 a ha b q
    · rcases List.mem_append.mp hx with q | q
      · exact List.mem_of_mem_take q
      · rcases List.mem_cons.mp q with q | q
        · rw [q]; exact List.getElem_mem h2
        · exact List.mem_of_mem_drop q
theorem wnode_flat {h n : Nat} {ws : List Ent} {cs : List (Tr h)} {a : Al} (ge : ∀ e ∈ ws, GE e) (hl : cs.length = ws.length + 1) (hz : isz ws cs.length ≤ 142) : flatO (h + 1) (wnode n ws cs a).1 = inter ws (cs.map (flat h)) := by
  unfold wnode
  split
  · rfl
  · rename_i hc
    rw [hl] at hz hc
    obtain ⟨h1, h2, h3, h4, h5⟩ := inner_halves ge (by omega) hz
    have := inter_cut (half (wszs ws.dropLast)) ws (cs.map (flat h)) (by rw [List.length_map, hl]) (by omega)
    rw [← this, ← List.map_take, ← List.map_drop]
    rfl
theorem put_flat : ∀ (h : Nat) (t : Tr h) (e : Ent) (a : Al), Ok h t → GE e → So (flat h t) → So (flatO h (put h t e a).1) ∧ ∀ x ∈ flatO h (put h t e a).1, x = e ∨ x ∈ flat h t
  | 0, ⟨n, es⟩, e, a, ⟨h1, h2⟩, ge, so => by
    have z := wleaf_flat (n := n) (es := srt (es ++ [e])) (a := a) (fun x hx => by
      rcases List.mem_append.mp (srt_mem.mp hx) with q | q
      · exact h2 x q
      · rw [List.mem_singleton.mp q]; exact ge) (by rw [srt_lsz]; have := esz_le ge; omega) (srt_sorted _)
    refine ⟨z.1, fun x hx => ?_⟩
    rcases List.mem_append.mp (srt_mem.mp (z.2 x hx)) with q | q
    · exact .inr q
    · exact .inl (List.mem_singleton.mp q)
  | h + 1, ⟨n, ws, cs⟩, e, a, ok, ge, so => by
    obtain ⟨h1, h2, h3, h4⟩ := id ok
    obtain ⟨c, hc⟩ := child_there h1 e
    have okc := h4 c (List.mem_of_getElem? hc)
    have hw := place_le ws e
    show So (flatO (h + 1) (put (h + 1) (node n ws cs) e a).1) ∧ ∀ x ∈ flatO (h + 1) (put (h + 1) (node n ws cs) e a).1, x = e ∨ x ∈ flat (h + 1) (node n ws cs)
    have so0 : So (inter ws (cs.map (flat h))) := so
    have sws : So ws := so0.sublist (walls_sub ws _ (by rw [List.length_map, h1]))
    have ps := place_spec ws e sws
    rw [put_eq hc]
    obtain ⟨A, B, e1, e2, e3, e4⟩ := dec hc
    rw [e3, e4]
    have lenA : (A.map (flat h)).length = (ws.take (place ws e)).length := by rw [List.length_map, List.length_take, e2]; omega
    have ef : flat (h + 1) (node n ws cs) = pre (ws.take (place ws e)) (A.map (flat h)) ++ (flat h c ++ post (ws.drop (place ws e)) (B.map (flat h))) := by
      show inter ws (cs.map (flat h)) = _
      rw [e1, List.map_append, List.map_cons]
      conv => lhs; rw [← List.take_append_drop (place ws e) ws]
      exact inter_app _ _ _ _ _ lenA
    rw [ef]
    have so' : So (pre (ws.take (place ws e)) (A.map (flat h)) ++ (flat h c ++ post (ws.drop (place ws e)) (B.map (flat h)))) := by rw [← ef]; exact so
    obtain ⟨s1, s2, s3⟩ := so_app.mp so'
    obtain ⟨s4, s5, s6⟩ := so_app.mp s2
    obtain ⟨i1, i2⟩ := put_flat h c e a okc ge s4
    have pl : ∀ x ∈ pre (ws.take (place ws e)) (A.map (flat h)), leE x e = true := fun x hx => by
      obtain ⟨w, hw, z⟩ := pre_le _ _ lenA s1 x hx
      exact leE_trans _ _ _ z (ps.1 w hw)
    have pg : ∀ x ∈ post (ws.drop (place ws e)) (B.map (flat h)), leE e x = true := fun x hx => by
      obtain ⟨w, hw, z⟩ := post_ge s5 hx
      exact leE_trans _ _ _ (leE_of_not (ps.2 w hw)) z
    have fin : ∀ F : List Ent, So F → (∀ x ∈ F, x = e ∨ x ∈ flat h c) → So (pre (ws.take (place ws e)) (A.map (flat h)) ++ (F ++ post (ws.drop (place ws e)) (B.map (flat h)))) ∧
        ∀ x ∈ pre (ws.take (place ws e)) (A.map (flat h)) ++ (F ++ post (ws.drop (place ws e)) (B.map (flat h))), x = e ∨ x ∈ pre (ws.take (place ws e)) (A.map (flat h)) ++ (flat h c ++ post (ws.drop (place ws e)) (B.map (flat h))) := by
      intro F f1 f2
      refine ⟨so_app.mpr ⟨s1, so_app.mpr ⟨f1, s5, fun x hx b hb => ?_⟩, fun x hx b hb => ?_⟩, fun x hx => ?_⟩
      · rcases f2 x hx with q | q
        · rw [q]; exact pg b hb
        · exact s6 x q b hb
      · rcases List.mem_append.mp hb with q | q
        · rcases f2 b q with r | r
          · rw [r]; exact pl x hx
          · exact s3 x hx b (List.mem_append_left _ r)
        · exact s3 x hx b (List.mem_append_right _ q)
      · rcases List.mem_append.mp hx with q | q
        · exact .inr (List.mem_append_left _ q)
        · rcases List.mem_append.mp q with q | q
          · rcases f2 x q with r | r
            · exact .inl r
            · exact .inr (List.mem_append_right _ (List.mem_append_left _ r))
          · exact .inr (List.mem_append_right _ (List.mem_append_right _ q))
    cases q : (put h c e a).1.2 with
    | none =>
      have eF : flatO h (put h c e a).1 = flat h (put h c e a).1.1 := by unfold flatO; rw [q]
      rw [eF] at i1 i2
      have z := fin _ i1 i2
      have eg : flatO (h + 1) (node n ws (A ++ (put h c e a).1.1 :: B), none) = pre (ws.take (place ws e)) (A.map (flat h)) ++ (flat h (put h c e a).1.1 ++ post (ws.drop (place ws e)) (B.map (flat h))) := by
        show inter ws ((A ++ (put h c e a).1.1 :: B).map (flat h)) = _
        rw [List.map_append, List.map_cons]
        conv => lhs; rw [← List.take_append_drop (place ws e) ws]
        exact inter_app _ _ _ _ _ lenA
      show So (flatO (h + 1) (node n ws (A ++ (put h c e a).1.1 :: B), none)) ∧ ∀ x ∈ flatO (h + 1) (node n ws (A ++ (put h c e a).1.1 :: B), none), _
      rw [eg]
      exact z
    | some p =>
      obtain ⟨w, t⟩ := p
      have eF : flatO h (put h c e a).1 = flat h (put h c e a).1.1 ++ w :: flat h t := by unfold flatO; rw [q]
      rw [eF] at i1 i2
      have z := fin _ i1 i2
      obtain ⟨o1, o2⟩ := put_ok h c e a okc ge
      have hp := o2 _ q
      have hcl : cs.length = A.length + 1 + B.length := by rw [e1, List.length_append, List.length_cons]; omega
      have eg : flatO (h + 1) (wnode n (ws.take (place ws e) ++ w :: ws.drop (place ws e)) (A ++ (put h c e a).1.1 :: t :: B) (put h c e a).2).1 = pre (ws.take (place ws e)) (A.map (flat h)) ++ ((flat h (put h c e a).1.1 ++ w :: flat h t) ++ post (ws.drop (place ws e)) (B.map (flat h))) := by
        have gw : ∀ x ∈ ws.take (place ws e) ++ w :: ws.drop (place ws e), GE x := fun x hx => by
          rcases List.mem_append.mp hx with m | m
          · exact h3 x (List.mem_of_mem_take m)
          · rcases List.mem_cons.mp m with m | m
            · rw [m]; exact hp.1
            · exact h3 x (List.mem_of_mem_drop m)
        have hl' : (A ++ (put h c e a).1.1 :: t :: B).length = (ws.take (place ws e) ++ w :: ws.drop (place ws e)).length + 1 := by
          rw [List.length_append, List.length_cons, List.length_cons, List.length_append, List.length_cons, List.length_take, List.length_drop]; omega
        have hz' : isz (ws.take (place ws e) ++ w :: ws.drop (place ws e)) (A ++ (put h c e a).1.1 :: t :: B).length ≤ 142 := by
          unfold isz at *
          have ha := lsz_app (ws.take (place ws e)) (ws.drop (place ws e))
          rw [List.take_append_drop] at ha
          have : esz w ≤ 24 := esz_le hp.1
          rw [List.length_append, List.length_cons, List.length_cons, lsz_app, lsz_cons]
          omega
        rw [wnode_flat gw hl' hz', List.map_append, List.map_cons, List.map_cons, inter_app _ _ _ _ _ lenA]
        show _ ++ (_ ++ w :: inter (ws.drop (place ws e)) (flat h t :: B.map (flat h))) = _
        rw [inter_cons]
        simp
      show So (flatO (h + 1) (wnode n (ws.take (place ws e) ++ w :: ws.drop (place ws e)) (A ++ (put h c e a).1.1 :: t :: B) (put h c e a).2).1) ∧ ∀ x ∈ flatO (h + 1) (wnode n (ws.take (place ws e) ++ w :: ws.drop (place ws e)) (A ++ (put h c e a).1.1 :: t :: B) (put h c e a).2).1, _
      rw [eg]
      exact z
theorem joinT_flat : ∀ (h : Nat) (c : Tr h) (w : Ent) (d : Tr h), Ok h c → (flat h (joinT h c w d)).Sublist (flat h c ++ w :: flat h d)
  | 0, ⟨n, es⟩, w, ⟨m, fs⟩, _ => List.Sublist.append_left (List.sublist_cons_self w fs) es
  | h + 1, ⟨n, ws, cs⟩, w, ⟨m, us, ds⟩, ok => by
    show (inter (ws ++ w :: us) ((cs ++ ds).map (flat h))).Sublist _
    rw [List.map_append, inter_join ws _ w us _ (by rw [List.length_map, ok.1])]
    exact List.Sublist.refl _
theorem tryJoin_flat {h n : Nat} {ws : List Ent} {cs : List (Tr h)} {l : Nat} {a : Al} {r : Tr (h + 1) × Al} (ok : Ok (h + 1) (node n ws cs)) (e : tryJoin n ws cs l a = some r) : (flat (h + 1) r.1).Sublist (flat (h + 1) (node n ws cs)) := by
  unfold tryJoin at e
  split at e
  · rename_i w c d ew ec ed
    split at e
    · cases e
      have hl := (List.getElem?_eq_some_iff.mp ed).1
      have hlw := (List.getElem?_eq_some_iff.mp ew).1
      have e1 : cs = cs.take l ++ c :: d :: cs.drop (l + 2) := by
        have a1 := split_at ec
        have a2 : cs.drop (l + 1) = d :: cs.drop (l + 2) := by
          rw [List.drop_eq_getElem_cons hl, (List.getElem?_eq_some_iff.mp ed).2]
        rw [a2] at a1
        exact a1
      have e2 := split_at ew
      have lenA : ((cs.take l).map (flat h)).length = (ws.take l).length := by rw [List.length_map, List.length_take, List.length_take]; omega
      have j := joinT_flat h c w d (ok.2.2.2 c (List.mem_of_getElem? ec))
      show (inter (ws.take l ++ ws.drop (l + 1)) ((cs.take l ++ joinT h c w d :: cs.drop (l + 2)).map (flat h))).Sublist (inter ws (cs.map (flat h)))
      have a1 : inter ws (cs.map (flat h)) = pre (ws.take l) ((cs.take l).map (flat h)) ++ (flat h c ++ w :: (flat h d ++ post (ws.drop (l + 1)) ((cs.drop (l + 2)).map (flat h)))) := by
        conv => lhs; rw [e1, e2]
        rw [List.map_append, List.map_cons, List.map_cons, inter_app _ _ _ _ _ lenA]
        show _ ++ (_ ++ w :: inter (ws.drop (l + 1)) (flat h d :: _)) = _
        rw [inter_cons]
      rw [a1, List.map_append, List.map_cons, inter_app _ _ _ _ _ lenA]
      refine List.Sublist.append_left ?_ _
      rw [show flat h c ++ w :: (flat h d ++ post (ws.drop (l + 1)) ((cs.drop (l + 2)).map (flat h))) = (flat h c ++ w :: flat h d) ++ post (ws.drop (l + 1)) ((cs.drop (l + 2)).map (flat h)) by simp]
      exact List.Sublist.append_right j _
    · cases e
  · cases e
theorem joinAts_flat {h n : Nat} {ws : List Ent} {cs : List (Tr h)} {a : Al} (ok : Ok (h + 1) (node n ws cs)) : ∀ ls : List Nat, (flat (h + 1) (joinAts n ws cs a ls).1).Sublist (flat (h + 1) (node n ws cs))
  | [] => List.Sublist.refl _
  | l :: ls => by
    unfold joinAts
    split
    · rename_i r e
      exact tryJoin_flat ok e
    · exact joinAts_flat ok ls
theorem ok_set {h n : Nat} {ws : List Ent} {cs A B : List (Tr h)} {c d : Tr h} (ok : Ok (h + 1) (node n ws cs)) (e1 : cs = A ++ c :: B) (od : Ok h d) : Ok (h + 1) (node n ws (A ++ d :: B)) := by
  obtain ⟨h1, h2, h3, h4⟩ := ok
  have hl : (A ++ d :: B).length = cs.length := by rw [e1, List.length_append, List.length_append, List.length_cons, List.length_cons]
  refine ⟨by rw [hl]; exact h1, by rw [hl]; exact h2, h3, fun x hx => ?_⟩
  rcases List.mem_append.mp hx with m | m
  · exact h4 x (by rw [e1]; exact List.mem_append_left _ m)
  · rcases List.mem_cons.mp m with m | m
    · rw [m]; exact od
    · exact h4 x (by rw [e1]; exact List.mem_append_right _ (List.mem_cons_of_mem _ m))
theorem drop_flat : ∀ (h : Nat) (t : Tr h) (e : Ent) (a : Al), Ok h t → (flat h (drop h t e a).1).Sublist (flat h t)
  | 0, ⟨n, es⟩, e, a, _ => List.filter_sublist
  | h + 1, ⟨n, ws, cs⟩, e, a, ok => by
    obtain ⟨h1, h2, h3, h4⟩ := id ok
    obtain ⟨c, hc⟩ := child_there h1 e
    have okc := h4 c (List.mem_of_getElem? hc)
    have ih := drop_flat h c e a okc
    have hw := place_le ws e
    show (flat (h + 1) (drop (h + 1) (node n ws cs) e a).1).Sublist (flat (h + 1) (node n ws cs))
    rw [drop_eq hc]
    obtain ⟨A, B, e1, e2, e3, e4⟩ := dec hc
    rw [e3, e4]
    have lenA : (A.map (flat h)).length = (ws.take (place ws e)).length := by rw [List.length_map, List.length_take, e2]; omega
    have ef : ∀ d : Tr h, flat (h + 1) (node n ws (A ++ d :: B)) = pre (ws.take (place ws e)) (A.map (flat h)) ++ (flat h d ++ post (ws.drop (place ws e)) (B.map (flat h))) := fun d => by
      show inter ws ((A ++ d :: B).map (flat h)) = _
      rw [List.map_append, List.map_cons]
      conv => lhs; rw [← List.take_append_drop (place ws e) ws]
      exact inter_app _ _ _ _ _ lenA
    have s1 : (flat (h + 1) (node n ws (A ++ (drop h c e a).1 :: B))).Sublist (flat (h + 1) (node n ws cs)) := by
      rw [ef]
      conv => rhs; rw [e1]
      rw [ef]
      exact List.Sublist.append_left (List.Sublist.append_right ih _) _
    split
    · exact (joinAts_flat (ok_set ok e1 (drop_ok h c e a okc)) _).trans s1
    · exact s1
theorem renum_flat : ∀ {h : Nat} (t : Tr h) (m : Nat), flat h (renum t m) = flat h t
  | 0, ⟨_, _⟩, _ => rfl
  | _ + 1, ⟨_, _, _⟩, _ => rfl
theorem shrink_flat : ∀ (h : Nat) (t : Tr h) (a : Al), Ok h t → flat (shrink h t a).1.h (shrink h t a).1.t = flat h t
  | 0, t, a, _ => rfl
  | h + 1, ⟨n, ws, [c]⟩, a, ok => by
    show flat (shrink h (renum c n) (a.give (num c))).1.h (shrink h (renum c n) (a.give (num c))).1.t = _
    rw [shrink_flat h (renum c n) _ (renum_ok (ok.2.2.2 c List.mem_cons_self)), renum_flat]
    have e : ws = [] := by
      have := ok.1
      cases ws with
      | nil => rfl
      | cons w ws => simp at this
    subst e
    rfl
  | h + 1, ⟨n, ws, []⟩, a, _ => rfl
  | h + 1, ⟨n, ws, c :: d :: r⟩, a, _ => rfl
theorem putR_flat {T : AT} {e : Ent} {a : Al} (ok : Ok T.h T.t) (ge : GE e) (so : So (flat T.h T.t)) : So (flat (putR T e a).1.h (putR T e a).1.t) := by
  obtain ⟨h1, _⟩ := put_flat T.h T.t e a ok ge so
  unfold flatO at h1
  unfold putR
  cases q : (put T.h T.t e a).1.2 with
  | none =>
    rw [q] at h1
    exact h1
  | some p =>
    obtain ⟨w, r⟩ := p
    rw [q] at h1
    show So (inter [w] [flat T.h (renum (put T.h T.t e a).1.1 _), flat T.h r])
    rw [renum_flat]
    exact h1
theorem dropR_flat {T : AT} {e : Ent} {a : Al} (ok : Ok T.h T.t) (so : So (flat T.h T.t)) : So (flat (dropR T e a).1.h (dropR T e a).1.t) := by
  unfold dropR
  rw [shrink_flat _ _ _ (drop_ok _ _ _ _ ok)]
  exact so.sublist (drop_flat _ _ _ _ ok)
end K7
namespace K7
/-! ### which entries a tree has -/
def entsL (h : Nat) (cs : List (Tr h)) : List Ent := (cs.map (ents h)).flatten
theorem ents_node {h : Nat} (n : Nat) (ws : List Ent) (cs : List (Tr h)) : ents (h + 1) (node n ws cs) = entsL h cs := rfl
theorem entsL_app {h : Nat} (a b : List (Tr h)) : entsL h (a ++ b) = entsL h a ++ entsL h b := by unfold entsL; rw [List.map_append, List.flatten_append]
theorem entsL_cons {h : Nat} (c : Tr h) (b : List (Tr h)) : entsL h (c :: b) = ents h c ++ entsL h b := rfl
def entsO (h : Nat) (p : Tr h × Option (Ent × Tr h)) : List Ent := ents h p.1 ++ (match p.2 with | none => [] | some (_, r) => ents h r)
theorem wleaf_ents (n : Nat) (es : List Ent) (a : Al) : entsO 0 (wleaf n es a).1 = es := by
  unfold wleaf entsO
  split
  · exact List.append_nil _
  · exact List.take_append_drop _ _
theorem wnode_ents {h : Nat} (n : Nat) (ws : List Ent) (cs : List (Tr h)) (a : Al) : entsO (h + 1) (wnode n ws cs a).1 = entsL h cs := by
  unfold wnode entsO
  split
  · exact List.append_nil _
  · show entsL h (cs.take _) ++ entsL h (cs.drop _) = _
    rw [← entsL_app, List.take_append_drop]
theorem put_ents : ∀ (h : Nat) (t : Tr h) (e : Ent) (a : Al), Ok h t → ∀ x, x ∈ entsO h (put h t e a).1 ↔ x = e ∨ x ∈ ents h t
  | 0, ⟨n, es⟩, e, a, _, x => by
    show x ∈ entsO 0 (wleaf n (srt (es ++ [e])) a).1 ↔ _
    rw [wleaf_ents, srt_mem, List.mem_append, List.mem_singleton]
    exact or_comm
  | h + 1, ⟨n, ws, cs⟩, e, a, ok, x => by
    obtain ⟨h1, h2, h3, h4⟩ := id ok
    obtain ⟨c, hc⟩ := child_there h1 e
    have ih := put_ents h c e a (h4 c (List.mem_of_getElem? hc)) x
    show x ∈ entsO (h + 1) (put (h + 1) (node n ws cs) e a).1 ↔ _ ∨ x ∈ ents (h + 1) (node n ws cs)
    rw [put_eq hc]
    obtain ⟨A, B, e1, e2, e3, e4⟩ := dec hc
    rw [e3, e4, ents_node]
    conv => rhs; rw [e1]
    rw [entsL_app, entsL_cons]
    unfold entsO at ih
    cases q : (put h c e a).1.2 with
    | none =>
      rw [q] at ih
      show x ∈ entsL h (A ++ (put h c e a).1.1 :: B) ++ [] ↔ _
      rw [List.append_nil] at ih ⊢
      rw [entsL_app, entsL_cons]
      simp only [List.mem_append]
      rw [ih]
      constructor
      · intro z
        rcases z with z | (z | z) | z
        · exact .inr (.inl z)
        · exact .inl z
        · exact .inr (.inr (.inl z))
        · exact .inr (.inr (.inr z))
      · intro z
        rcases z with z | z | z | z
        · exact .inr (.inl (.inl z))
        · exact .inl z
        · exact .inr (.inl (.inr z))
        · exact .inr (.inr z)
    | some p =>
      obtain ⟨w, t⟩ := p
      rw [q] at ih
      show x ∈ entsO (h + 1) (wnode n (ws.take (place ws e) ++ w :: ws.drop (place ws e)) (A ++ (put h c e a).1.1 :: t :: B) (put h c e a).2).1 ↔ _
      rw [wnode_ents, entsL_app, entsL_cons, entsL_cons]
      simp only [List.mem_append] at ih ⊢
      constructor
      · intro z
        rcases z with z | z | z | z
        · exact .inr (.inl z)
        · rcases ih.mp (.inl z) with r | r
          · exact .inl r
          · exact .inr (.inr (.inl r))
        · rcases ih.mp (.inr z) with r | r
          · exact .inl r
          · exact .inr (.inr (.inl r))
        · exact .inr (.inr (.inr z))
      · intro z
        rcases z with z | z | z | z
        · rcases ih.mpr (.inl z) with r | r
          · exact .inr (.inl r)
          · exact .inr (.inr (.inl r))
        · exact .inl z
        · rcases ih.mpr (.inr z) with r | r
          · exact .inr (.inl r)
          · exact .inr (.inr (.inl r))
        · exact .inr (.inr (.inr z))
theorem joinT_ents : ∀ (h : Nat) (c : Tr h) (w : Ent) (d : Tr h), ents h (joinT h c w d) = ents h c ++ ents h d
  | 0, ⟨_, _⟩, _, ⟨_, _⟩ => rfl
  | h + 1, ⟨n, ws, cs⟩, w, ⟨m, us, ds⟩ => entsL_app cs ds
theorem tryJoin_ents {h n : Nat} {ws : List Ent} {cs : List (Tr h)} {l : Nat} {a : Al} {r : Tr (h + 1) × Al} (e : tryJoin n ws cs l a = some r) : ents (h + 1) r.1 = ents (h + 1) (node n ws cs) := by
  unfold tryJoin at e
  split at e
  · rename_i w c d ew ec ed
    split at e
    · cases e
      have hl := (List.getElem?_eq_some_iff.mp ed).1
      have e1 : cs = cs.take l ++ c :: d :: cs.drop (l + 2) := by
        have a1 := split_at ec
        have a2 : cs.drop (l + 1) = d :: cs.drop (l + 2) := by
          rw [List.drop_eq_getElem_cons hl, (List.getElem?_eq_some_iff.mp ed).2]
        rw [a2] at a1
        exact a1
      show entsL h (cs.take l ++ joinT h c w d :: cs.drop (l + 2)) = entsL h cs
      conv => rhs; rw [e1]
      rw [entsL_app, entsL_app, entsL_cons, entsL_cons, entsL_cons, joinT_ents, List.append_assoc]
    · cases e
  · cases e
theorem joinAts_ents {h n : Nat} {ws : List Ent} {cs : List (Tr h)} {a : Al} : ∀ ls : List Nat, ents (h + 1) (joinAts n ws cs a ls).1 = ents (h + 1) (node n ws cs)
  | [] => rfl
  | l :: ls => by
    unfold joinAts
    split
    · rename_i r e
      exact tryJoin_ents e
    · exact joinAts_ents ls
theorem drop_ents : ∀ (h : Nat) (t : Tr h) (e : Ent) (a : Al), Ok h t → ∀ x, x ∈ ents h t → x ≠ e → x ∈ ents h (drop h t e a).1
  | 0, ⟨n, es⟩, e, a, _, x, hx, hne => List.mem_filter.mpr ⟨hx, decide_eq_true hne⟩
  | h + 1, ⟨n, ws, cs⟩, e, a, ok, x, hx, hne => by
    obtain ⟨h1, h2, h3, h4⟩ := id ok
    obtain ⟨c, hc⟩ := child_there h1 e
    have ih := drop_ents h c e a (h4 c (List.mem_of_getElem? hc)) x
    show x ∈ ents (h + 1) (drop (h + 1) (node n ws cs) e a).1
    rw [drop_eq hc]
    obtain ⟨A, B, e1, e2, e3, e4⟩ := dec hc
    rw [e3, e4]
    have hx' : x ∈ entsL h cs := hx
    rw [e1, entsL_app, entsL_cons] at hx'
    have z : x ∈ ents (h + 1) (node n ws (A ++ (drop h c e a).1 :: B)) := by
      rw [ents_node, entsL_app, entsL_cons]
      rcases List.mem_append.mp hx' with m | m
      · exact List.mem_append_left _ m
      · rcases List.mem_append.mp m with m | m
        · exact List.mem_append_right _ (List.mem_append_left _ (ih m hne))
        · exact List.mem_append_right _ (List.mem_append_right _ m)
    split
    · rw [joinAts_ents]
      exact z
    · exact z
theorem renum_ents : ∀ {h : Nat} (t : Tr h) (m : Nat), ents h (renum t m) = ents h t
  | 0, ⟨_, _⟩, _ => rfl
  | _ + 1, ⟨_, _, _⟩, _ => rfl
theorem shrink_ents : ∀ (h : Nat) (t : Tr h) (a : Al), ents (shrink h t a).1.h (shrink h t a).1.t = ents h t
  | 0, t, a => rfl
  | h + 1, ⟨n, ws, [c]⟩, a => by
    show ents (shrink h (renum c n) (a.give (num c))).1.h (shrink h (renum c n) (a.give (num c))).1.t = _
    rw [shrink_ents, renum_ents]
    show _ = ents h c ++ []
    rw [List.append_nil]
  | h + 1, ⟨n, ws, []⟩, a => rfl
  | h + 1, ⟨n, ws, c :: d :: r⟩, a => rfl
theorem putR_ents {T : AT} {e : Ent} {a : Al} (ok : Ok T.h T.t) : ∀ x, x = e ∨ x ∈ ents T.h T.t → x ∈ ents (putR T e a).1.h (putR T e a).1.t := by
  intro x hx
  have z := (put_ents T.h T.t e a ok x).mpr hx
  unfold entsO at z
  unfold putR
  cases q : (put T.h T.t e a).1.2 with
  | none =>
    rw [q, List.append_nil] at z
    exact z
  | some p =>
    obtain ⟨w, r⟩ := p
    rw [q] at z
    show x ∈ ents T.h (renum (put T.h T.t e a).1.1 _) ++ (ents T.h r ++ [])
    rw [renum_ents, List.append_nil]
    exact z
theorem dropR_ents {T : AT} {e : Ent} {a : Al} (ok : Ok T.h T.t) : ∀ x, x ∈ ents T.h T.t → x ≠ e → x ∈ ents (dropR T e a).1.h (dropR T e a).1.t := by
  intro x hx hne
  unfold dropR
  rw [shrink_ents]
  exact drop_ents _ _ _ _ ok x hx hne
theorem ok_ents : ∀ (h : Nat) (t : Tr h), Ok h t → ∀ e ∈ ents h t, GE e
  | 0, ⟨n, es⟩, ok => ok.2
  | h + 1, ⟨n, ws, cs⟩, ok => fun e he => by
    obtain ⟨l, hl, he⟩ := List.mem_flatten.mp (show e ∈ (cs.map (ents h)).flatten from he)
    obtain ⟨c, hc, rfl⟩ := List.mem_map.mp hl
    exact ok_ents h c (ok.2.2.2 c hc) e he

/-! ### the leaves in a row -/
def lv : (h : Nat) → Tr h → List (Nat × List Ent)
  | 0, ⟨n, es⟩ => [(n, es)]
  | h + 1, ⟨_, _, cs⟩ => (cs.map (lv h)).flatten
def lvL (h : Nat) (cs : List (Tr h)) : List (Nat × List Ent) := (cs.map (lv h)).flatten
theorem lvL_app {h : Nat} (a b : List (Tr h)) : lvL h (a ++ b) = lvL h a ++ lvL h b := by unfold lvL; rw [List.map_append, List.flatten_append]
theorem lvL_cons {h : Nat} (c : Tr h) (b : List (Tr h)) : lvL h (c :: b) = lv h c ++ lvL h b := rfl
/-- from the leaf on in which x belongs -/
def lvF : (h : Nat) → Tr h → Ent → List (Nat × List Ent)
  | 0, ⟨n, es⟩, _ => [(n, es)]
  | h + 1, ⟨_, ws, cs⟩, x => match cs[place ws x]? with
    | none => []
    | some c => lvF h c x ++ lvL h (cs.drop (place ws x + 1))
theorem lvF_eq {h n : Nat} {ws : List Ent} {cs : List (Tr h)} {x : Ent} {c : Tr h} (hc : cs[place ws x]? = some c) : lvF (h + 1) (node n ws cs) x = lvF h c x ++ lvL h (cs.drop (place ws x + 1)) := by
  show (match cs[place ws x]? with | none => _ | some c => _) = _
  rw [hc]
theorem lv_suffix : ∀ (h : Nat) (t : Tr h) (x : Ent), Ok h t → ∃ Z, lv h t = Z ++ lvF h t x
  | 0, ⟨n, es⟩, x, _ => ⟨[], rfl⟩
  | h + 1, ⟨n, ws, cs⟩, x, ok => by
    obtain ⟨c, hc⟩ := child_there ok.1 x
    obtain ⟨Z, hZ⟩ := lv_suffix h c x (ok.2.2.2 c (List.mem_of_getElem? hc))
    obtain ⟨A, B, e1, e2, e3, e4⟩ := dec hc
    refine ⟨lvL h A ++ Z, ?_⟩
    show lvL h cs = _ ++ lvF (h + 1) (node n ws cs) x
    rw [lvF_eq hc, e4]
    conv => lhs; rw [e1]
    rw [lvL_app, lvL_cons, hZ]
    simp
theorem lv_ents : ∀ (h : Nat) (t : Tr h), ((lv h t).map (·.2)).flatten = ents h t
  | 0, ⟨n, es⟩ => by show es ++ [] = es; rw [List.append_nil]
  | h + 1, ⟨n, ws, cs⟩ => by
    show ((lvL h cs).map (·.2)).flatten = entsL h cs
    induction cs with
    | nil => rfl
    | cons c cs ih => rw [lvL_cons, List.map_append, List.flatten_append, entsL_cons, ih, lv_ents h c]
theorem inter_ents {h : Nat} : ∀ (ws : List Ent) (cs : List (Tr h)), cs.length = ws.length + 1 → (∀ c ∈ cs, (ents h c).Sublist (flat h c)) → (entsL h cs).Sublist (inter ws (cs.map (flat h)))
  | [], [], hl, _ => by simp at hl
  | [], [c], _, hs => by
    show (ents h c ++ []).Sublist (flat h c)
    rw [List.append_nil]
    exact hs c List.mem_cons_self
  | [], _ :: _ :: _, hl, _ => by simp at hl
  | _ :: _, [], hl, _ => by simp at hl
  | w :: ws, c :: cs, hl, hs => by
    rw [entsL_cons, List.map_cons]
    show (ents h c ++ entsL h cs).Sublist (flat h c ++ w :: inter ws (cs.map (flat h)))
    exact (hs c List.mem_cons_self).append ((inter_ents ws cs (by simpa using hl) fun x hx => hs x (List.mem_cons_of_mem _ hx)).cons w)
theorem ents_flat : ∀ (h : Nat) (t : Tr h), Ok h t → (ents h t).Sublist (flat h t)
  | 0, ⟨n, es⟩, _ => List.Sublist.refl _
  | h + 1, ⟨n, ws, cs⟩, ok => inter_ents ws cs ok.1 fun c hc => ents_flat h c (ok.2.2.2 c hc)
theorem in_pre : ∀ (W : List Ent) (F : List (List Ent)) (f : List Ent) (x : Ent), F.length = W.length → f ∈ F → x ∈ f → x ∈ pre W F
  | [], [], _, _, _, h, _ => by cases h
  | [], _ :: _, _, _, h, _, _ => by simp at h
  | _ :: _, [], _, _, h, _, _ => by simp at h
  | w :: W, g :: F, f, x, hl, hf, hx => by
    show x ∈ g ++ w :: pre W F
    rcases List.mem_cons.mp hf with e | m
    · rw [← e]; exact List.mem_append_left _ hx
    · exact List.mem_append_right _ (List.mem_cons_of_mem _ (in_pre W F f x (by simpa using hl) m hx))
theorem lvF_all : ∀ (h : Nat) (t : Tr h) (x : Ent), Ok h t → So (flat h t) → ∀ e ∈ ents h t, leE e x = false → ∃ p ∈ lvF h t x, e ∈ p.2
  | 0, ⟨n, es⟩, x, _, _, e, he, _ => ⟨(n, es), List.mem_cons_self, he⟩
  | h + 1, ⟨n, ws, cs⟩, x, ok, so, e, he, hx => by
    obtain ⟨h1, h2, h3, h4⟩ := id ok
    obtain ⟨c, hc⟩ := child_there h1 x
    have okc := h4 c (List.mem_of_getElem? hc)
    have hw := place_le ws x
    have so0 : So (inter ws (cs.map (flat h))) := so
    have sws : So ws := so0.sublist (walls_sub ws _ (by rw [List.length_map, h1]))
    have ps := place_spec ws x sws
    show ∃ p ∈ lvF (h + 1) (node n ws cs) x, e ∈ p.2
    rw [lvF_eq hc]
    obtain ⟨A, B, e1, e2, e3, e4⟩ := dec hc
    rw [e4]
    have lenA : (A.map (flat h)).length = (ws.take (place ws x)).length := by rw [List.length_map, List.length_take, e2]; omega
    have ef : inter ws (cs.map (flat h)) = pre (ws.take (place ws x)) (A.map (flat h)) ++ (flat h c ++ post (ws.drop (place ws x)) (B.map (flat h))) := by
      rw [e1, List.map_append, List.map_cons]
      conv => lhs; rw [← List.take_append_drop (place ws x) ws]
      exact inter_app _ _ _ _ _ lenA
    rw [ef] at so0
    obtain ⟨s1, s2, s3⟩ := so_app.mp so0
    obtain ⟨s4, s5, s6⟩ := so_app.mp s2
    have he' : e ∈ entsL h cs := he
    rw [e1, entsL_app, entsL_cons] at he'
    rcases List.mem_append.mp he' with m | m
    · exfalso
      obtain ⟨l, hl, hel⟩ := List.mem_flatten.mp m
      obtain ⟨d, hd, rfl⟩ := List.mem_map.mp hl
      have okd : Ok h d := h4 d (by rw [e1]; exact List.mem_append_left _ hd)
      have hin : e ∈ pre (ws.take (place ws x)) (A.map (flat h)) := in_pre _ _ (flat h d) e lenA (List.mem_map.mpr ⟨d, hd, rfl⟩) ((ents_flat h d okd).subset hel)
      obtain ⟨w, hww, z⟩ := pre_le _ _ lenA s1 e hin
      have := leE_trans _ _ _ z (ps.1 w hww)
      rw [hx] at this
      cases this
    · rcases List.mem_append.mp m with m | m
      · obtain ⟨p, hp, z⟩ := lvF_all h c x okc s4 e m hx
        exact ⟨p, List.mem_append_left _ hp, z⟩
      · obtain ⟨l, hl, hel⟩ := List.mem_flatten.mp m
        obtain ⟨d, hd, rfl⟩ := List.mem_map.mp hl
        rw [← lv_ents h d] at hel
        obtain ⟨l2, hl2, hel2⟩ := List.mem_flatten.mp hel
        obtain ⟨p, hp, rfl⟩ := List.mem_map.mp hl2
        exact ⟨p, List.mem_append_right _ (List.mem_flatten.mpr ⟨lv h d, List.mem_map.mpr ⟨d, hd, rfl⟩, hp⟩), hel2⟩
/-- what is read off the leaves, from one on -/
def scan (lo hi : List Int) : List (List Ent) → List Ent
  | [] => []
  | es :: r => (es.filter fun e => leK lo e.1) ++ (match es.getLast? with
    | none => scan lo hi r
    | some z => if leK z.1 hi = true then scan lo hi r else [])
def found {h : Nat} (t : Tr h) (key : List Int) : List Ent := (scan key key ((lvF h t (key, 0, 0)).map (·.2))).filter fun e => leK e.1 key
theorem scan_mem (key : List Int) : ∀ (ls : List (List Ent)), So ls.flatten → ∀ e : Ent, e.1 = key → (∃ l ∈ ls, e ∈ l) → e ∈ scan key key ls
  | [], _, e, _, ⟨l, hl, _⟩ => by cases hl
  | es :: r, so, e, hk, ⟨l, hl, he⟩ => by
    have so' : So (es ++ r.flatten) := so
    obtain ⟨s1, s2, s3⟩ := so_app.mp so'
    unfold scan
    rcases List.mem_cons.mp hl with q | q
    · subst q
      refine List.mem_append_left _ (List.mem_filter.mpr ⟨he, ?_⟩)
      rw [hk]
      exact leK_refl _
    · refine List.mem_append_right _ ?_
      have ih := scan_mem key r s2 e hk ⟨l, q, he⟩
      cases hg : es.getLast? with
      | none => exact ih
      | some z =>
        have hz : z ∈ es := List.mem_of_getLast? hg
        have := leE_key (s3 z hz e (List.mem_flatten.mpr ⟨l, q, he⟩))
        rw [hk] at this
        show e ∈ if leK z.1 key = true then scan key key r else []
        rw [if_pos this]
        exact ih
theorem scan_sub (lo hi : List Int) : ∀ ls : List (List Ent), ∀ e ∈ scan lo hi ls, e ∈ ls.flatten
  | [], e, h => by cases h
  | es :: r, e, h => by
    unfold scan at h
    rw [List.flatten_cons]
    rcases List.mem_append.mp h with m | m
    · exact List.mem_append_left _ (List.mem_filter.mp m).1
    · refine List.mem_append_right _ ?_
      split at m
      · exact scan_sub lo hi r e m
      · split at m
        · exact scan_sub lo hi r e m
        · cases m
theorem found_mem {h : Nat} {t : Tr h} (ok : Ok h t) (so : So (flat h t)) {e : Ent} (he : e ∈ ents h t) : e ∈ found t e.1 := by
  have ge := ok_ents h t ok e he
  have hx : leE e (e.1, 0, 0) = false := by
    unfold leE ltE
    rw [if_pos rfl]
    have : ltS (0, 0) e.2 = true := by
      unfold ltS ltL
      have := ge.p1
      rw [if_neg (by omega)]
      exact decide_eq_true (by omega)
    rw [this]
    rfl
  obtain ⟨Z, hZ⟩ := lv_suffix h t (e.1, 0, 0) ok
  have s1 : So (((lv h t).map (·.2)).flatten) := by rw [lv_ents]; exact so.sublist (ents_flat h t ok)
  rw [hZ, List.map_append, List.flatten_append] at s1
  obtain ⟨p, hp, z⟩ := lvF_all h t (e.1, 0, 0) ok so e he hx
  unfold found
  refine List.mem_filter.mpr ⟨scan_mem _ _ (so_app.mp s1).2.1 e rfl ⟨p.2, List.mem_map.mpr ⟨p, hp, rfl⟩, z⟩, leK_refl _⟩
end K7
namespace K7
/-! ### trees in pages -/
def repLs {α : Type} (R : α → Nat → Mem → Prop) (f : α → Nat) : List α → Nat → Mem → Prop
  | [], _, _ => True
  | c :: cs, nx, M => R c (firstL f cs nx) M ∧ repLs R f cs nx M
def repP : (h : Nat) → Tr h → Nat → Mem → Prop
  | 0, ⟨n, es⟩, nx, M => M n = some (leafPg es nx)
  | h + 1, ⟨n, ws, cs⟩, nx, M => M n = some (innerPg ws (cs.map num)) ∧ repLs (repP h) (first h) cs nx M
theorem firstL_app {α : Type} (f : α → Nat) : ∀ (A B : List α) (nx : Nat), firstL f (A ++ B) nx = firstL f A (firstL f B nx)
  | [], _, _ => rfl
  | _ :: _, _, _ => rfl
theorem repLs_app {α : Type} {R : α → Nat → Mem → Prop} {f : α → Nat} : ∀ (A B : List α) (nx : Nat) (M : Mem), repLs R f (A ++ B) nx M ↔ repLs R f A (firstL f B nx) M ∧ repLs R f B nx M
  | [], B, nx, M => ⟨fun h => ⟨trivial, h⟩, fun h => h.2⟩
  | c :: A, B, nx, M => by
    have ih := repLs_app (R := R) (f := f) A B nx M
    show R c (firstL f (A ++ B) nx) M ∧ repLs R f (A ++ B) nx M ↔ (R c (firstL f A (firstL f B nx)) M ∧ repLs R f A (firstL f B nx) M) ∧ _
    rw [firstL_app, ih]
    exact ⟨fun ⟨a, b, c⟩ => ⟨⟨a, b⟩, c⟩, fun ⟨⟨a, b⟩, c⟩ => ⟨a, b, c⟩⟩
theorem repLs_frame {α : Type} {R : α → Nat → Mem → Prop} {f : α → Nat} {M M' : Mem} : ∀ (A : List α) (nx : Nat), (∀ c ∈ A, ∀ nx, R c nx M → R c nx M') → repLs R f A nx M → repLs R f A nx M'
  | [], _, _, _ => trivial
  | c :: A, nx, h, ⟨h1, h2⟩ => ⟨h c List.mem_cons_self _ h1, repLs_frame A nx (fun d hd => h d (List.mem_cons_of_mem _ hd)) h2⟩
theorem repP_frame : ∀ (h : Nat) (t : Tr h) (nx : Nat) (M M' : Mem), (∀ m ∈ nums h t, M' m = M m) → repP h t nx M → repP h t nx M'
  | 0, ⟨n, es⟩, nx, M, M', hm, hr => by
    show M' n = _
    rw [hm n List.mem_cons_self]
    exact hr
  | h + 1, ⟨n, ws, cs⟩, nx, M, M', hm, ⟨h1, h2⟩ => by
    refine ⟨by rw [hm n List.mem_cons_self]; exact h1, repLs_frame cs nx (fun c hc nx' hr => repP_frame h c nx' M M' (fun m hmm => hm m (List.mem_cons_of_mem _ (List.mem_flatten.mpr ⟨nums h c, List.mem_map.mpr ⟨c, hc, rfl⟩, hmm⟩))) hr) h2⟩
theorem repL_frame {h : Nat} (cs : List (Tr h)) (nx : Nat) {M M' : Mem} (hm : ∀ m ∈ numsL h cs, M' m = M m) (hr : repLs (repP h) (first h) cs nx M) : repLs (repP h) (first h) cs nx M' :=
  repLs_frame cs nx (fun c hc nx' q => repP_frame h c nx' M M' (fun m hmm => hm m (List.mem_flatten.mpr ⟨nums h c, List.mem_map.mpr ⟨c, hc, rfl⟩, hmm⟩)) q) hr
theorem repP_renum : ∀ (h : Nat) (t : Tr h) (l nx : Nat) (M M' : Mem), M' l = M (num t) → (∀ m ∈ (nums h t).tail, M' m = M m) → repP h t nx M → repP h (renum t l) nx M'
  | 0, ⟨n, es⟩, l, nx, M, M', h1, _, hr => by
    show M' l = _
    rw [h1]
    exact hr
  | h + 1, ⟨n, ws, cs⟩, l, nx, M, M', h1, h2, ⟨r1, r2⟩ => ⟨by rw [h1]; exact r1, repL_frame cs nx h2 r2⟩
theorem firstL_ne {α : Type} {f : α → Nat} {A : List α} (h : A ≠ []) (x y : Nat) : firstL f A x = firstL f A y := by
  cases A with
  | nil => exact absurd rfl h
  | cons a A => rfl
theorem first_node {h n : Nat} {ws : List Ent} {cs : List (Tr h)} (hl : cs ≠ []) (x : Nat) : first (h + 1) (node n ws cs) = firstL (first h) cs x := firstL_ne hl 0 x
theorem first_wleaf (n : Nat) (es : List Ent) (a : Al) : first 0 (wleaf n es a).1.1 = n := by unfold wleaf; split <;> rfl
theorem first_wnode {h n : Nat} {ws : List Ent} {cs : List (Tr h)} {a : Al} : first (h + 1) (wnode n ws cs a).1.1 = firstL (first h) cs 0 := by
  unfold wnode
  split
  · rfl
  · show firstL (first h) (cs.take (half (wszs ws.dropLast) + 1)) 0 = _
    cases cs with
    | nil => rfl
    | cons c cs => rfl
theorem first_put : ∀ (h : Nat) (t : Tr h) (e : Ent) (a : Al), Ok h t → first h (put h t e a).1.1 = first h t
  | 0, ⟨n, es⟩, e, a, _ => first_wleaf _ _ _
  | h + 1, ⟨n, ws, cs⟩, e, a, ok => by
    obtain ⟨c, hc⟩ := child_there ok.1 e
    have ih := first_put h c e a (ok.2.2.2 c (List.mem_of_getElem? hc))
    show first (h + 1) (put (h + 1) (node n ws cs) e a).1.1 = firstL (first h) cs 0
    rw [put_eq hc]
    obtain ⟨A, B, e1, e2, e3, e4⟩ := dec hc
    rw [e3, e4]
    conv => rhs; rw [e1]
    rw [firstL_app]
    cases q : (put h c e a).1.2 with
    | none =>
      show firstL (first h) (A ++ (put h c e a).1.1 :: B) 0 = _
      rw [firstL_app]
      show firstL (first h) A (first h (put h c e a).1.1) = firstL (first h) A (first h c)
      rw [ih]
    | some p =>
      obtain ⟨w, t⟩ := p
      show first (h + 1) (wnode n (ws.take (place ws e) ++ w :: ws.drop (place ws e)) (A ++ (put h c e a).1.1 :: t :: B) (put h c e a).2).1.1 = _
      rw [first_wnode, firstL_app]
      show firstL (first h) A (first h (put h c e a).1.1) = firstL (first h) A (first h c)
      rw [ih]
theorem first_joinT : ∀ (h : Nat) (c : Tr h) (w : Ent) (d : Tr h), Ok h c → first h (joinT h c w d) = first h c
  | 0, ⟨_, _⟩, _, ⟨_, _⟩, _ => rfl
  | h + 1, ⟨n, ws, cs⟩, w, ⟨m, us, ds⟩, ok => by
    show firstL (first h) (cs ++ ds) 0 = firstL (first h) cs 0
    rw [firstL_app]
    refine firstL_ne (fun e => ?_) _ _
    have := ok.1
    rw [e] at this
    simp at this
theorem join_cut {α : Type} {cs : List α} {l : Nat} {c d : α} (ec : cs[l]? = some c) (ed : cs[l + 1]? = some d) : cs = cs.take l ++ c :: d :: cs.drop (l + 2) := by
  have hl := (List.getElem?_eq_some_iff.mp ed).1
  have a1 := split_at ec
  have a2 : cs.drop (l + 1) = d :: cs.drop (l + 2) := by
    rw [List.drop_eq_getElem_cons hl, (List.getElem?_eq_some_iff.mp ed).2]
  rw [a2] at a1
  exact a1
theorem first_tryJoin {h n : Nat} {ws : List Ent} {cs : List (Tr h)} {l : Nat} {a : Al} {r : Tr (h + 1) × Al} (ok : Ok (h + 1) (node n ws cs)) (e : tryJoin n ws cs l a = some r) : first (h + 1) r.1 = first (h + 1) (node n ws cs) := by
  unfold tryJoin at e
  split at e
  · rename_i w c d ew ec ed
    split at e
    · cases e
      show firstL (first h) (cs.take l ++ joinT h c w d :: cs.drop (l + 2)) 0 = firstL (first h) cs 0
      conv => rhs; rw [join_cut ec ed]
      rw [firstL_app, firstL_app]
      show firstL (first h) (cs.take l) (first h (joinT h c w d)) = firstL (first h) (cs.take l) (first h c)
      rw [first_joinT h c w d (ok.2.2.2 c (List.mem_of_getElem? ec))]
    · cases e
  · cases e
theorem first_joinAts {h n : Nat} {ws : List Ent} {cs : List (Tr h)} {a : Al} (ok : Ok (h + 1) (node n ws cs)) : ∀ ls : List Nat, first (h + 1) (joinAts n ws cs a ls).1 = first (h + 1) (node n ws cs)
  | [] => rfl
  | l :: ls => by
    unfold joinAts
    split
    · rename_i r e
      exact first_tryJoin ok e
    · exact first_joinAts ok ls
theorem first_drop : ∀ (h : Nat) (t : Tr h) (e : Ent) (a : Al), Ok h t → first h (drop h t e a).1 = first h t
  | 0, ⟨n, es⟩, e, a, _ => rfl
  | h + 1, ⟨n, ws, cs⟩, e, a, ok => by
    obtain ⟨c, hc⟩ := child_there ok.1 e
    have okc := ok.2.2.2 c (List.mem_of_getElem? hc)
    have ih := first_drop h c e a okc
    show first (h + 1) (drop (h + 1) (node n ws cs) e a).1 = firstL (first h) cs 0
    rw [drop_eq hc]
    obtain ⟨A, B, e1, e2, e3, e4⟩ := dec hc
    rw [e3, e4]
    have z : firstL (first h) (A ++ (drop h c e a).1 :: B) 0 = firstL (first h) cs 0 := by
      conv => rhs; rw [e1]
      rw [firstL_app, firstL_app]
      show firstL (first h) A (first h (drop h c e a).1) = firstL (first h) A (first h c)
      rw [ih]
    split
    · rw [first_joinAts (ok_set ok e1 (drop_ok h c e a okc))]
      exact z
    · exact z

/-! ### who owns which numbers -/
structure Own (ns : List Nat) (a : Al) : Prop where
  pos : 1 ≤ a.fresh
  one : ∀ x, List.count x ns + List.count x a.free ≤ 1
  low : ∀ x, x ∈ ns ∨ x ∈ a.free → 1 ≤ x ∧ x < a.fresh
theorem cnt_pos {x : Nat} {l : List Nat} : x ∈ l ↔ 0 < List.count x l := List.count_pos_iff.symm
theorem Own.al {ns : List Nat} {a : Al} (o : Own ns a) (h : a.fresh ≤ 65534) : AlOk a :=
  ⟨h, o.pos, List.nodup_iff_count.mpr fun x => by have := o.one x; omega, fun f hf => o.low f (.inr hf)⟩
theorem Own.not_free {ns : List Nat} {a : Al} (o : Own ns a) {n : Nat} (h : n ∈ ns) : n ∉ a.free := fun m => by
  have := o.one n
  have h1 := cnt_pos.mp h
  have h2 := cnt_pos.mp m
  omega
theorem Own.sub {ns ms : List Nat} {a : Al} (o : Own ns a) (h : ∀ x, List.count x ms ≤ List.count x ns) : Own ms a :=
  ⟨o.pos, fun x => by have := o.one x; have := h x; omega, fun x hx => o.low x (hx.elim (fun m => .inl (cnt_pos.mpr (Nat.lt_of_lt_of_le (cnt_pos.mp m) (h x)))) .inr)⟩
theorem Own.step {ns ms : List Nat} {a b : Al} {k : Nat} (o : Own ns a) (hk : b.fresh = a.fresh + k) (h : ∀ x, List.count x ms + List.count x b.free = List.count x ns + List.count x a.free + List.count x (List.range' a.fresh k)) : Own ms b := by
  have hr : ∀ x, List.count x (List.range' a.fresh k) ≤ 1 ∧ (0 < List.count x (List.range' a.fresh k) → a.fresh ≤ x ∧ x < a.fresh + k) := fun x => by
    refine ⟨List.nodup_iff_count.mp List.nodup_range' x, fun q => ?_⟩
    have := List.mem_range'_1.mp (cnt_pos.mpr q)
    exact this
  have hl : ∀ x, 0 < List.count x ns + List.count x a.free → 1 ≤ x ∧ x < a.fresh := fun x q => by
    refine o.low x ?_
    by_cases z : 0 < List.count x ns
    · exact .inl (cnt_pos.mpr z)
    · exact .inr (cnt_pos.mpr (by omega))
  refine ⟨by have := o.pos; omega, fun x => ?_, fun x hx => ?_⟩
  · rw [h x]
    have a1 := o.one x
    have a2 := hr x
    by_cases z : 0 < List.count x (List.range' a.fresh k)
    · have b1 := a2.2 z
      by_cases y : 0 < List.count x ns + List.count x a.free
      · have := hl x y
        omega
      · omega
    · omega
  · have p : 0 < List.count x ms + List.count x b.free := by
      rcases hx with m | m
      · have := cnt_pos.mp m; omega
      · have := cnt_pos.mp m; omega
    rw [h x] at p
    have pos := o.pos
    by_cases y : 0 < List.count x ns + List.count x a.free
    · have := hl x y
      omega
    · have := (hr x).2 (by omega)
      omega
theorem own_of_whole {ns : List Nat} {a : Al} (h1 : 1 ≤ a.fresh) (w : Whole ns a) : Own ns a := by
  refine ⟨h1, fun x => by rw [w x]; exact List.nodup_iff_count.mp List.nodup_range' x, fun x hx => ?_⟩
  have p : 0 < List.count x ns + List.count x a.free := by
    rcases hx with m | m
    · have := cnt_pos.mp m; omega
    · have := cnt_pos.mp m; omega
  rw [w x] at p
  have := List.mem_range'_1.mp (cnt_pos.mpr p)
  omega
/-- nothing changes but the pages of ns, those that were free and the front -/
def Fra (M M' : Mem) (ns : List Nat) (a : Al) : Prop := ∀ m, m ≠ 0 → m ∉ ns → m ∉ a.free → m < a.fresh → M' m = M m
theorem take_own {a : Al} : a.take.1 ∈ a.free ∨ a.take.1 = a.fresh := by
  unfold Al.take
  cases e : a.free with
  | nil => exact .inr rfl
  | cons f fs => exact .inl List.mem_cons_self
theorem takeM_fra {M : Mem} {a : Al} {m : Nat} (h0 : m ≠ 0) (hf : m ∉ a.free) (hl : m < a.fresh) : takeM M a m = M m := by
  unfold takeM
  rw [setM_ne (fun e => by
    rcases take_own (a := a) with q | q
    · exact hf (e ▸ q)
    · omega), setM_ne h0]
theorem AL.set {M : Mem} {a : Al} (h : AL M a) {n : Nat} {pg : List Int} (h0 : n ≠ 0) (hf : n ∉ a.free) : AL (setM M n pg) a :=
  ⟨by rw [setM_ne (Ne.symm h0)]; exact h.1, FreeL.mono (fun f hff => setM_ne (fun e => hf (by rw [← e]; exact hff))) h.2⟩
end K7
namespace K7
open PySem PySem.Spec PyProof.Rows L2
/-! ### what stays when pages are written -/
def notIns : HO → Prop
  | .ins _ _ _ => False
  | _ => True
theorem But.keep {H H' : Hp} {p : Addr} {C dx : Addr} {fs : List (Str × V)} (b : But [p] H H') (hp : H p = some (.ins C dx fs)) {a : Addr} {o : HO} (h : H a = some o) (ho : notIns o) : H' a = some o := by
  refine b a o ?_ h
  intro m
  rw [List.mem_singleton] at m
  rw [m, hp] at h
  cases h
  exact ho
theorem IsPM.keep {C : Addr} {H H' : Hp} {pm : Addr} {M : Mem} (z : IsPM C H pm M) (b : But [pm] H H') {a : Addr} {o : HO} (h : H a = some o) (ho : notIns o) : H' a = some o := by
  obtain ⟨dx, d, h1⟩ := z.at_
  exact b.keep h1 h ho
theorem IsPM.keepE {C : Addr} {H H' : Hp} {pm : Addr} {M : Mem} (z : IsPM C H pm M) (b : But [pm] H H') {v : V} {e : Ent} (h : IsE H v e) : IsE H' v e := h.tups (z.tups b)
theorem IsPM.keepI {C : Addr} {H H' : Hp} {pm : Addr} {M : Mem} (z : IsPM C H pm M) (b : But [pm] H H') {v : V} {e : List Int} (h : IsI H v e) : IsI H' v e := by
  obtain ⟨a, rfl, h⟩ := h
  exact ⟨a, rfl, z.keep b h trivial⟩
theorem IsPM.keepEL {C : Addr} {H H' : Hp} {pm : Addr} {M : Mem} (z : IsPM C H pm M) (b : But [pm] H H') {v : V} {es : List Ent} (h : IsEL H v es) : IsEL H' v es := by
  obtain ⟨a, vs, rfl, h, h2⟩ := h
  exact ⟨a, vs, rfl, z.keep b h trivial, h2.tups (z.tups b)⟩
theorem IsPM.keepNL {C : Addr} {H H' : Hp} {pm : Addr} {M : Mem} (z : IsPM C H pm M) (b : But [pm] H H') {v : V} {ns : List Nat} (h : IsNL H v ns) : IsNL H' v ns := by
  obtain ⟨a, rfl, h⟩ := h
  exact ⟨a, rfl, z.keep b h trivial⟩
/-- v is None, or a wall and a number -/
def IsSp (H : Hp) (v : V) : Option (Ent × Nat) → Prop
  | none => v = .non
  | some (w, r) => ∃ t x, v = .ref t ∧ H t = some (.tup [x, .int (r : Int)]) ∧ IsE H x w
theorem IsSp.same {H H' : Hp} {v : V} {o : Option (Ent × Nat)} (h : IsSp H v o) (e : Same H H') : IsSp H' v o := by
  cases o with
  | none => exact h
  | some p =>
    obtain ⟨t, x, h1, h2, h3⟩ := h
    exact ⟨t, x, h1, e _ _ h2, h3.same e⟩
/-- writing a leaf, by numbers -/
def wlM (M : Mem) (a : Al) (n : Nat) (es : List Ent) (nx : Nat) : Mem × Option (Ent × Nat) :=
  if lsz es ≤ 116 then (setM M n (leafPg es nx), none)
  else (setM (setM (takeM M a) a.take.1 (leafPg (es.drop (half (szs es))) nx)) n (leafPg (es.take (half (szs es))) a.take.1), some (es.getD (half (szs es)) dE, a.take.1))
def wiM (M : Mem) (a : Al) (n : Nat) (ws : List Ent) (cs : List Nat) : Mem × Option (Ent × Nat) :=
  if isz ws cs.length ≤ 116 then (setM M n (innerPg ws cs), none)
  else (setM (setM (takeM M a) a.take.1 (innerPg (ws.drop (half (wszs ws.dropLast) + 1)) (cs.drop (half (wszs ws.dropLast) + 1)))) n (innerPg (ws.take (half (wszs ws.dropLast))) (cs.take (half (wszs ws.dropLast) + 1))), some (ws.getD (half (wszs ws.dropLast)) dE, a.take.1))
theorem ibT {b : Bool} {A B : Prop} (h : b = true) (x : A) : if b = true then A else B := by rw [if_pos h]; exact x
theorem ibF {b : Bool} {A B : Prop} (h : ¬ b = true) (x : B) : if b = true then A else B := by rw [if_neg h]; exact x
theorem take_le {a : Al} (ok : AlOk a) : a.take.1 ≤ 65534 := by
  rcases take_own (a := a) with q | q
  · have := ok.low _ q; have := ok.most; omega
  · have := ok.most; omega
theorem cut_m1 (xs : List V) : cutV xs none (some (-1)) = xs.dropLast := by
  unfold cutV HT.sIx
  rw [List.drop_zero, List.dropLast_eq_take]
  have e : (-1 + (xs.length : Int)).toNat = xs.length - 1 := by omega
  simp [e]
theorem Paired.dropLast {α β : Type} {R : α → β → Prop} {xs : List α} {ys : List β} (h : Paired R xs ys) : Paired R xs.dropLast ys.dropLast := by
  rw [List.dropLast_eq_take, List.dropLast_eq_take, Paired.length h]
  exact Paired.take _ h
theorem sp_innerP {H : Hp} {Q : VK} {E : XK} {v u : V} {ws : List Ent} {cs : List Nat} (hv : IsEL H v ws) (hu : IsNL H u cs) (ge : ∀ e ∈ ws, GE e) (hl : cs.length = ws.length + 1) (hz : isz ws cs.length ≤ 116)
    (k : Ret H (fun v H' => IsI H' v (innerPg ws cs)) Q) : spInnerP [v, u] H Q E := by
  cases cs with
  | nil => simp at hl
  | cons c ds => exact ⟨v, u, ws, c, ds, rfl, hv, hu, ge, by simpa using hl, hz, k⟩
theorem sp_parts {H : Hp} {Q : VK} {E : XK} {v : V} {ws : List Ent} {cs : List Nat} (hv : IsI H v (innerPg ws cs)) (ge : ∀ e ∈ ws, GE e) (hl : cs.length = ws.length + 1) (hz : isz ws cs.length ≤ 116) (hd : ∀ d ∈ cs, d ≤ 65535)
    (k : Ret H (fun v H' => IsWC H' v ws cs) Q) : spParts [v] H Q E := by
  cases cs with
  | nil => simp at hl
  | cons c ds => exact ⟨v, ws, c, ds, rfl, hv, ge, by simpa using hl, hz, hd, k⟩
section
variable {P : Program} {w : World} {K : PySem.W.Frag} {mg : Str → Option Value} {base : Heap} {C : Addr}
def spChildAt : Sp := fun vs H Q _ => ∃ v u, ∃ ws : List Ent, ∃ e : Ent, vs = [v, u] ∧ IsEL H v ws ∧ IsE H u e ∧ ws.length ≤ 1000 ∧ ∀ H', Same H H' → Q (.int (place ws e : Nat)) H'
abbrev s_child_at : Stmt := top 50
abbrev N_child_at : List Str := ["walls", "entry", "wall"]
theorem sc_child_at : FnScope N_child_at ["walls", "entry"] (defScope s_child_at) := ⟨rfl, rfl, rfl, by decide +kernel, rfl, by decide +kernel, by decide +kernel⟩
theorem ok_child_at (F : At K mg "child_at" s_child_at) (T : Txt K mg C)  : Df P w K mg base "child_at" 1 ["walls", "entry"] spChildAt := by
  refine F.df sc_child_at (fun _ _ _ _ _ _ us hl => match us, hl with | [_, _], _ => rfl) (fun vs H Q E h => ?_) (fun f cdv A outer s H vs Q E hr h => ?_)
  · obtain ⟨v, u, ws, e, rfl, _⟩ := h; rfl
  · obtain ⟨v, u, ws, e, rfl, ⟨a, xs, rfl, ha, hes⟩, hu, hl, k⟩ := h
    refine ⟨_, (pss_one (ps_ret (pe_callB call_len (by rfl) T.len (by decide +kernel) (pa_cons (pe_lc (own := [("wall", 2)]) (g := gName 2) rfl sc_child_at.nd (pi_list (pv 0)) (blkOk_by (own := [("wall", 2)]) (N := N_child_at) (sc := defScope s_child_at) (by decide +kernel)) (fun _ _ _ _ _ => pg_name (i := 2) sc_child_at.nd rfl (Or.inl rfl)) (fun _ _ _ _ _ => pts_one (pt_cmpR (op_leE (hu64 hr)) (pv 2) (pv 1) (nomark _))) (fun _ _ _ _ _ => (pv 2))) pa_nil)))), ?_⟩
    refine ⟨_, rfl, a, rfl, ⟨_, SqL.of ha⟩, fun D hD => lc_list (xs := xs) (fun i H' => Same H H' ∧ ∃ ys, H' D = some (.lst ys) ∧ ys.length = place (ws.take i) e) ⟨L2.Same.new1 hD, [], upd_same, rfl⟩ (fun i H' _ z => SqL.of (z.1 _ _ ha)) ?_ ?_⟩
    · intro i x H' hx ⟨z1, ys, z2, z3⟩
      obtain ⟨f, hf, zf⟩ := Paired.get' hes hx
      refine ⟨rfl, ?_⟩
      have ep : place (ws.take (i + 1)) e = place (ws.take i) e + (if leE f e = true then 1 else 0) := by
        unfold place
        rw [take_snoc hf, List.filter_append, List.length_append]
        by_cases q : leE f e = true
        · rw [if_pos q, List.filter_cons_of_pos (by simpa using q)]; rfl
        · rw [if_neg q, List.filter_cons_of_neg (by simpa using q)]; rfl
      have pl := place_le (ws.take i) e
      rw [List.length_take] at pl
      refine ⟨_, rfl, _, rfl, f, e, zf.same z1, hu.same z1, _, rfl, ?_⟩
      by_cases q : leE f e = true
      · rw [if_pos q] at ep
        refine ibT q ⟨_, rfl, ys, z2, sz_lt (by omega), L2.Same.mut z1 hD, _, upd_same, ?_⟩
        rw [List.length_append, z3, ep]
        rfl
      · rw [if_neg q] at ep
        exact ibF q ⟨z1, ys, z2, by rw [z3, ep]; rfl⟩
    · intro H' ⟨z1, ys, z2, z3⟩
      rw [hes.length, List.take_length] at z3
      refine ⟨_, ys.length, rfl, .inl ⟨_, SqL.of z2, rfl⟩, ?_⟩
      rw [z3]
      exact k _ z1
def spNewTree (C : Addr) : Sp := fun vs H Q _ => ∃ pm M a, vs = [.ref pm] ∧ IsPM C H pm M ∧ AL M a ∧ AlOk a ∧ ∀ H', But [pm] H H' → IsPM C H' pm (setM (takeM M a) a.take.1 (leafPg [] 0)) → Q (.int (a.take.1 : Int)) H'
abbrev s_new_tree : Stmt := top 49
abbrev N_new_tree : List Str := ["pages", "number"]
theorem sc_new_tree : FnScope N_new_tree ["pages"] (defScope s_new_tree) := ⟨rfl, rfl, rfl, by decide +kernel, rfl, by decide +kernel, by decide +kernel⟩
theorem ok_new_tree (F : At K mg "new_tree" s_new_tree) (T : Txt K mg C) (D_leaf_page : Df P w K mg base "leaf_page" 4 ["entries", "number"] spLeafP) (M_allocate : Dm P w K mg base C "allocate" 7 ["self"] (spAlloc C)) (M_write : Dm P w K mg base C "write" 5 ["self", "number", "page"] (spWrite C)) : Df P w K mg base "new_tree" 8 ["pages"] (spNewTree C) := by
  refine F.df sc_new_tree (fun _ _ _ _ _ _ us hl => match us, hl with | [_], _ => rfl) (fun vs H Q E h => ?_) (fun f cdv A outer s H vs Q E hr h => ?_)
  · obtain ⟨pm, M, a, rfl, _⟩ := h; rfl
  · obtain ⟨pm, M, a, rfl, hM, hA, ok, k⟩ := h
    refine ⟨_, (pss_cons (ps_set (i := 1) sc_new_tree.nd rfl (Or.inl rfl) (pe_md0 T.cl M_allocate (hr.mono (by omega)) (pv 0)))
  (pss_cons (ps_expr (pe_md T.cl M_write (hr.mono (by omega)) (pv 0) (pa_cons (pv 1) (pa_cons (pe_cd D_leaf_page (hr.mono (by omega)) (pa_cons (pe_lst pa_nil) (pa_cons pe_int pa_nil))) pa_nil))))
  (pss_one (ps_ret (pv 1))))), ?_⟩
    have tl := take_le ok
    obtain ⟨dx, d, hpm⟩ := hM.at_
    refine ⟨_, rfl, pm, _, _, rfl, hpm, pf_no d (by decide +kernel), ?_⟩
    refine ⟨pm, M, a, rfl, hM, hA, ok, fun H1 b1 q1 => ?_⟩
    obtain ⟨dx1, d1, hpm1⟩ := q1.at_
    refine ⟨_, rfl, pm, _, _, rfl, hpm1, pf_no d1 (by decide +kernel), _, rfl, ?_⟩
    refine ⟨Nat.zero_le _, fun p hp => ?_⟩
    refine ⟨_, [], 0, rfl, ⟨p, [], rfl, upd_same, .nil⟩, (fun _ h => by cases h), (by decide), (by decide), fun v H2 e2 z2 => ?_⟩
    have s := (L2.Same.new1 (o := .lst []) hp).trans e2
    refine ⟨pm, _, a.take.1, v, _, rfl, q1.same s, by omega, z2, leafPg_ok (fun _ h => by cases h) (by decide), fun H3 b3 q3 => ?_⟩
    exact ⟨_, rfl, k _ ((b1.trans (.of s)).trans b3) q3⟩
def spWLeaf (C : Addr) : Sp := fun vs H Q _ => ∃ pm M a, ∃ n : Nat, ∃ v, ∃ es : List Ent, ∃ nx : Nat, vs = [.ref pm, .int (n : Int), v, .int (nx : Int)] ∧ IsPM C H pm M ∧ AL M a ∧ AlOk a ∧ n ≤ 65535 ∧ IsEL H v es ∧ (∀ e ∈ es, GE e) ∧ lsz es ≤ 140 ∧ nx ≤ 65535 ∧
  ∀ u H', But [pm] H H' → IsPM C H' pm (wlM M a n es nx).1 → IsSp H' u (wlM M a n es nx).2 → Q u H'
abbrev s_write_leaf : Stmt := top 53
abbrev N_write_leaf : List Str := ["pages", "number", "entries", "late", "many", "right", "entry"]
theorem sc_write_leaf : FnScope N_write_leaf ["pages", "number", "entries", "late"] (defScope s_write_leaf) := ⟨rfl, rfl, rfl, by decide +kernel, rfl, by decide +kernel, by decide +kernel⟩
theorem ok_write_leaf (F : At K mg "write_leaf" s_write_leaf) (T : Txt K mg C) (D_half_of : Df P w K mg base "half_of" 1 ["sizes"] spHalf) (D_leaf_size : Df P w K mg base "leaf_size" 2 ["entries"] spLsz) (D_leaf_page : Df P w K mg base "leaf_page" 4 ["entries", "number"] spLeafP) (D_entry_size : Df P w K mg base "entry_size" 1 ["entry"] spEsz) (M_allocate : Dm P w K mg base C "allocate" 7 ["self"] (spAlloc C)) (M_write : Dm P w K mg base C "write" 5 ["self", "number", "page"] (spWrite C)) : Df P w K mg base "write_leaf" 8 ["pages", "number", "entries", "late"] (spWLeaf C) := by
  refine F.df sc_write_leaf (fun _ _ _ _ _ _ us hl => match us, hl with | [_, _, _, _], _ => rfl) (fun vs H Q E h => ?_) (fun f cdv A outer s H vs Q E hr h => ?_)
  · obtain ⟨pm, M, a, n, v, es, nx, rfl, _⟩ := h; rfl
  · obtain ⟨pm, M, a, n, v, es, nx, rfl, hM, hA, ok, hn, hv, ge, hz, hx, k⟩ := h
    refine ⟨_, (pss_cons (ps_if (pt_cmpR op_le (pe_cd D_leaf_size (hr.mono (by omega)) (pa_cons (pv 2) pa_nil)) (pe_glI T.c_ROOM) (nomark _))
  (pss_cons (ps_expr (pe_md T.cl M_write (hr.mono (by omega)) (pv 0) (pa_cons (pv 1) (pa_cons (pe_cd D_leaf_page (hr.mono (by omega)) (pa_cons (pv 2) (pa_cons (pv 3) pa_nil))) pa_nil))))
  (pss_one (ps_ret pe_non)))
  pss_nil)
  (pss_cons (ps_set (i := 4) sc_write_leaf.nd rfl (Or.inl rfl) (pe_cd D_half_of (hr.mono (by omega)) (pa_cons (pe_lc (own := [("entry", 6)]) (g := gName 6) (tt := tYes) rfl sc_write_leaf.nd (pi_list (pv 2)) (blkOk_by (own := [("entry", 6)]) (N := N_write_leaf) (sc := defScope s_write_leaf) (by decide +kernel)) (fun _ _ _ _ _ => pg_name (i := 6) sc_write_leaf.nd rfl (Or.inl rfl)) (fun _ _ _ _ _ => pts_nil) (fun _ _ _ _ _ => (pe_cd D_entry_size (hr.mono (by omega)) (pa_cons (pv 6) pa_nil)))) pa_nil)))
  (pss_cons (ps_set (i := 5) sc_write_leaf.nd rfl (Or.inl rfl) (pe_md0 T.cl M_allocate (hr.mono (by omega)) (pv 0)))
  (pss_cons (ps_expr (pe_md T.cl M_write (hr.mono (by omega)) (pv 0) (pa_cons (pv 5) (pa_cons (pe_cd D_leaf_page (hr.mono (by omega)) (pa_cons (pe_slice sl_list (pv 2) (po_some (pv 4)) po_none) (pa_cons (pv 3) pa_nil))) pa_nil))))
  (pss_cons (ps_expr (pe_md T.cl M_write (hr.mono (by omega)) (pv 0) (pa_cons (pv 1) (pa_cons (pe_cd D_leaf_page (hr.mono (by omega)) (pa_cons (pe_slice sl_list (pv 2) po_none (po_some (pv 4))) (pa_cons (pv 5) pa_nil))) pa_nil))))
  (pss_one (ps_ret (pe_tup (pa_cons (pe_ix ix_list (pv 2) (pv 4) (fun _ _ => rfl)) (pa_cons (pv 5) pa_nil)))))))))), ?_⟩
    have tl := take_le ok
    have h5 := len_of_lsz ge
    refine ⟨_, rfl, v, es, rfl, hv, by omega, fun H1 e1 => ?_⟩
    refine ⟨_, _, rfl, rfl, ?_⟩
    unfold wlM at k
    by_cases c : lsz es ≤ 116
    · rw [if_pos c] at k
      refine ⟨_, rfl, ifT (by omega) ?_⟩
      obtain ⟨dx, d, hpm⟩ := hM.at_
      refine ⟨_, rfl, pm, _, _, rfl, e1 _ _ hpm, pf_no d (by decide +kernel), _, rfl, ?_⟩
      refine ⟨_, rfl, _, rfl, v, es, nx, rfl, hv.same e1, ge, c, hx, fun u H2 e2 z2 => ?_⟩
      refine ⟨pm, _, n, u, _, rfl, hM.same (e1.trans e2), hn, z2, leafPg_ok ge c, fun H3 b3 q3 => ?_⟩
      exact k _ _ ((But.of (e1.trans e2)).trans b3) q3 rfl
    · rw [if_neg c] at k
      refine ⟨_, rfl, ifF (by omega) ?_⟩
      obtain ⟨g1, g2, g3, g4, g5⟩ := leaf_halves ge (by omega) hz
      obtain ⟨va, xs, rfl, ha, hes⟩ := hv
      refine ⟨_, rfl, va, rfl, ⟨_, SqL.of (e1 _ _ ha)⟩, fun D hD => lc_list (xs := xs) (fun i H' => Same H H' ∧ H' D = some (.lst (iv (szs (es.take i)))) ∧ i ≤ xs.length) ⟨e1.new hD, upd_same, Nat.zero_le _⟩ (fun i H' _ z => SqL.of (z.1 _ _ ha)) ?_ ?_⟩
      · intro i x H' hx ⟨z1, z2, z3⟩
        obtain ⟨e, he, ze⟩ := Paired.get' hes hx
        have hi := (List.getElem?_eq_some_iff.mp hx).1
        refine ⟨rfl, ?_⟩
        have hfD : H D = none := e1.free hD
        refine ⟨_, rfl, x, e, rfl, ze.same z1, _, z2, sz_lt ?_, L2.Same.mut z1 hfD, ?_, hi⟩
        · rw [iv_len, szs_len, List.length_take]
          omega
        · rw [upd_same, take_snoc he]
          unfold szs
          rw [List.map_append, ← iv_app]
          rfl
      · intro H2 ⟨z1, z2, z3⟩
        rw [hes.length, List.take_length] at z2
        refine ⟨D, szs es, rfl, z2, by rw [szs_len]; exact g3, by rw [szs_len]; omega, fun H3 e3 => ?_⟩
        have e13 := z1.trans e3
        obtain ⟨dx, d, hpm⟩ := hM.at_
        refine ⟨_, rfl, pm, _, _, rfl, e13 _ _ hpm, pf_no d (by decide +kernel), ?_⟩
        have M3 := hM.same e13
        refine ⟨pm, M, a, rfl, M3, hA, ok, fun H4 b4 q4 => ?_⟩
        obtain ⟨dx4, d4, hpm4⟩ := q4.at_
        have hv4 := M3.keepEL b4 (v := .ref va) (es := es) ⟨va, xs, rfl, e13 _ _ ha, hes.same e13⟩
        obtain ⟨va', xs4, hva, ha4, hes4⟩ := hv4
        cases hva
        refine ⟨_, rfl, pm, _, _, rfl, hpm4, pf_no d4 (by decide +kernel), _, rfl, _, rfl, _, rfl, _, rfl, ?_⟩
        refine ⟨va, _, rfl, SqL.of ha4, fun p hp => ?_⟩
        have s5 := L2.Same.new1 (o := .lst (cutV xs4 (some ((half (szs es) : Nat) : Int)) none)) hp
        refine ⟨_, rfl, _, es.drop (half (szs es)), nx, rfl, ⟨p, _, rfl, upd_same, ?_⟩, fun e he => ge e (List.mem_of_mem_drop he), g5, hx, fun u H6 e6 z6 => ?_⟩
        · rw [cut_from]
          exact Paired.drop _ (hes4.same (L2.Same.new1 hp))
        have e46 := s5.trans e6
        refine ⟨pm, _, a.take.1, u, _, rfl, q4.same e46, by omega, z6, leafPg_ok (fun e he => ge e (List.mem_of_mem_drop he)) g5, fun H7 b7 q7 => ?_⟩
        obtain ⟨dx7, d7, hpm7⟩ := q7.at_
        have M6 := q4.same e46
        have hv7 := M6.keepEL b7 (v := .ref va) (es := es) ⟨va, xs4, rfl, e46 _ _ ha4, hes4.same e46⟩
        obtain ⟨va', xs7, hva, ha7, hes7⟩ := hv7
        cases hva
        refine ⟨_, rfl, pm, _, _, rfl, hpm7, pf_no d7 (by decide +kernel), _, rfl, _, rfl, _, rfl, ?_⟩
        refine ⟨_, rfl, va, _, rfl, SqL.of ha7, fun p7 hp7 => ?_⟩
        have s8 := L2.Same.new1 (o := .lst (cutV xs7 none (some ((half (szs es) : Nat) : Int)))) hp7
        refine ⟨_, rfl, _, es.take (half (szs es)), a.take.1, rfl, ⟨p7, _, rfl, upd_same, ?_⟩, fun e he => ge e (List.mem_of_mem_take he), g4, by omega, fun u8 H8 e8 z8 => ?_⟩
        · rw [cut_to]
          exact Paired.take _ (hes7.same (L2.Same.new1 hp7))
        have e78 := s8.trans e8
        refine ⟨pm, _, n, u8, _, rfl, q7.same e78, hn, z8, leafPg_ok (fun e he => ge e (List.mem_of_mem_take he)) g4, fun H9 b9 q9 => ?_⟩
        have M8 := q7.same e78
        have hv9 := M8.keepEL b9 (v := .ref va) (es := es) ⟨va, xs7, rfl, e78 _ _ ha7, hes7.same e78⟩
        obtain ⟨va', xs9, hva, ha9, hes9⟩ := hv9
        cases hva
        have hget : es[half (szs es)]? = some (es.getD (half (szs es)) dE) := by
          rw [List.getD_eq_getElem?_getD, List.getElem?_eq_getElem g2]; rfl
        obtain ⟨x, hx9, zx⟩ := Paired.get hes9 hget
        refine ⟨_, rfl, _, rfl, va, _, _, _, rfl, rfl, SqL.of ha9, atI_nat hx9, _, rfl, (by show 2 ≤ sizeLine; decide), fun t ht => ?_⟩
        have s10 := L2.Same.new1 (o := .tup [x, V.int ((a.take.1 : Nat) : Int)]) ht
        have bb : But [pm] H H9 := (((But.of e13).trans b4).trans (But.of e46)).trans ((b7.trans (But.of e78)).trans b9)
        exact k _ _ (bb.trans (.of s10)) (q9.same s10) ⟨t, x, rfl, upd_same, zx.same s10⟩
def spWInner (C : Addr) : Sp := fun vs H Q _ => ∃ pm M a, ∃ n : Nat, ∃ v u, ∃ ws : List Ent, ∃ cs : List Nat, vs = [.ref pm, .int (n : Int), v, u] ∧ IsPM C H pm M ∧ AL M a ∧ AlOk a ∧ n ≤ 65535 ∧ IsEL H v ws ∧ IsNL H u cs ∧ (∀ e ∈ ws, GE e) ∧ cs.length = ws.length + 1 ∧ isz ws cs.length ≤ 142 ∧
  ∀ u H', But [pm] H H' → IsPM C H' pm (wiM M a n ws cs).1 → IsSp H' u (wiM M a n ws cs).2 → Q u H'
abbrev s_write_inner : Stmt := top 54
abbrev N_write_inner : List Str := ["pages", "number", "walls", "children", "many", "right", "wall"]
theorem sc_write_inner : FnScope N_write_inner ["pages", "number", "walls", "children"] (defScope s_write_inner) := ⟨rfl, rfl, rfl, by decide +kernel, rfl, by decide +kernel, by decide +kernel⟩
theorem ok_write_inner (F : At K mg "write_inner" s_write_inner) (T : Txt K mg C) (D_half_of : Df P w K mg base "half_of" 1 ["sizes"] spHalf) (D_inner_size : Df P w K mg base "inner_size" 3 ["walls", "children"] spIsz) (D_inner_page : Df P w K mg base "inner_page" 4 ["walls", "children"] spInnerP) (D_entry_size : Df P w K mg base "entry_size" 1 ["entry"] spEsz) (M_allocate : Dm P w K mg base C "allocate" 7 ["self"] (spAlloc C)) (M_write : Dm P w K mg base C "write" 5 ["self", "number", "page"] (spWrite C)) : Df P w K mg base "write_inner" 8 ["pages", "number", "walls", "children"] (spWInner C) := by
  refine F.df sc_write_inner (fun _ _ _ _ _ _ us hl => match us, hl with | [_, _, _, _], _ => rfl) (fun vs H Q E h => ?_) (fun f cdv A outer s H vs Q E hr h => ?_)
  · obtain ⟨pm, M, a, n, v, u, ws, cs, rfl, _⟩ := h; rfl
  · obtain ⟨pm, M, a, n, v, u, ws, cs, rfl, hM, hA, ok, hn, hv, hu, ge, hl, hz, k⟩ := h
    refine ⟨_, (pss_cons (ps_if (pt_cmpR op_le (pe_cd D_inner_size (hr.mono (by omega)) (pa_cons (pv 2) (pa_cons (pv 3) pa_nil))) (pe_glI T.c_ROOM) (nomark _))
  (pss_cons (ps_expr (pe_md T.cl M_write (hr.mono (by omega)) (pv 0) (pa_cons (pv 1) (pa_cons (pe_cd D_inner_page (hr.mono (by omega)) (pa_cons (pv 2) (pa_cons (pv 3) pa_nil))) pa_nil))))
  (pss_one (ps_ret pe_non)))
  pss_nil)
  (pss_cons (ps_set (i := 4) sc_write_inner.nd rfl (Or.inl rfl) (pe_cd D_half_of (hr.mono (by omega)) (pa_cons (pe_lc (own := [("wall", 6)]) (g := gName 6) (tt := tYes) rfl sc_write_inner.nd (pi_list (pe_slice sl_list (pv 2) po_none (po_some (pe_un un_neg pe_int)))) (blkOk_by (own := [("wall", 6)]) (N := N_write_inner) (sc := defScope s_write_inner) (by decide +kernel)) (fun _ _ _ _ _ => pg_name (i := 6) sc_write_inner.nd rfl (Or.inl rfl)) (fun _ _ _ _ _ => pts_nil) (fun _ _ _ _ _ => (pe_op op_add (pe_cd D_entry_size (hr.mono (by omega)) (pa_cons (pv 6) pa_nil)) pe_int))) pa_nil)))
  (pss_cons (ps_set (i := 5) sc_write_inner.nd rfl (Or.inl rfl) (pe_md0 T.cl M_allocate (hr.mono (by omega)) (pv 0)))
  (pss_cons (ps_expr (pe_md T.cl M_write (hr.mono (by omega)) (pv 0) (pa_cons (pv 5) (pa_cons (pe_cd D_inner_page (hr.mono (by omega)) (pa_cons (pe_slice sl_list (pv 2) (po_some (pe_op op_add (pv 4) pe_int)) po_none) (pa_cons (pe_slice sl_list (pv 3) (po_some (pe_op op_add (pv 4) pe_int)) po_none) pa_nil))) pa_nil))))
  (pss_cons (ps_expr (pe_md T.cl M_write (hr.mono (by omega)) (pv 0) (pa_cons (pv 1) (pa_cons (pe_cd D_inner_page (hr.mono (by omega)) (pa_cons (pe_slice sl_list (pv 2) po_none (po_some (pv 4))) (pa_cons (pe_slice sl_list (pv 3) po_none (po_some (pe_op op_add (pv 4) pe_int))) pa_nil))) pa_nil))))
  (pss_one (ps_ret (pe_tup (pa_cons (pe_ix ix_list (pv 2) (pv 4) (fun _ _ => rfl)) (pa_cons (pv 5) pa_nil)))))))))), ?_⟩
    have tl := take_le ok
    have h5 := len_of_lsz ge
    have hz' : lsz ws + 2 * cs.length ≤ 142 := hz
    obtain ⟨ua, rfl, hua⟩ := hu
    refine ⟨_, rfl, _, rfl, v, ua, _, ws, rfl, hv, hua, by omega, fun H1 e1 => ?_⟩
    rw [nv_len]
    refine ⟨_, _, rfl, rfl, ?_⟩
    unfold wiM at k
    by_cases c : isz ws cs.length ≤ 116
    · rw [if_pos c] at k
      refine ⟨_, rfl, ifT (by omega) ?_⟩
      obtain ⟨dx, d, hpm⟩ := hM.at_
      refine ⟨_, rfl, pm, _, _, rfl, e1 _ _ hpm, pf_no d (by decide +kernel), _, rfl, ?_⟩
      refine ⟨_, rfl, _, rfl, sp_innerP (E := E0) (hv.same e1) ⟨ua, rfl, e1 _ _ hua⟩ ge hl c fun u H2 e2 z2 => ?_⟩
      refine ⟨pm, _, n, u, _, rfl, hM.same (e1.trans e2), hn, z2, innerPg_ok ge hl c, fun H3 b3 q3 => ?_⟩
      exact k _ _ ((But.of (e1.trans e2)).trans b3) q3 rfl
    · rw [if_neg c] at k
      refine ⟨_, rfl, ifF (by omega) ?_⟩
      obtain ⟨g1, g2, g3, g4, g5⟩ := inner_halves ge (by rw [← hl]; omega) (by rw [← hl]; exact hz)
      obtain ⟨va, xs, rfl, ha, hes⟩ := hv
      have hdl : ws.dropLast.length = ws.length - 1 := List.length_dropLast
      refine ⟨_, rfl, _, rfl, _, rfl, va, _, rfl, SqL.of (e1 _ _ ha), fun p0 hp0 => ?_⟩
      have e2 : Same H (upd H1 p0 (.lst (cutV xs none (some (-1))))) := e1.new hp0
      have hfp : H p0 = none := e1.free hp0
      have hz0 : upd H1 p0 (.lst (cutV xs none (some (-1)))) p0 = some (.lst xs.dropLast) := by rw [upd_same, cut_m1]
      have hdL : IsEs H xs.dropLast ws.dropLast := Paired.dropLast hes
      generalize upd H1 p0 (.lst (cutV xs none (some (-1)))) = H2 at *
      refine ⟨p0, rfl, ⟨_, SqL.of hz0⟩, fun D hD => lc_list (xs := xs.dropLast) (fun i H' => Same H2 H' ∧ H' D = some (.lst (iv (wszs (ws.dropLast.take i)))) ∧ i ≤ xs.dropLast.length) ⟨L2.Same.new1 hD, upd_same, Nat.zero_le _⟩ (fun i H' _ z => SqL.of (z.1 _ _ hz0)) ?_ ?_⟩
      · intro i x H' hx ⟨z1, z2, z3⟩
        obtain ⟨e, he, ze⟩ := Paired.get' hdL hx
        have hi := (List.getElem?_eq_some_iff.mp hx).1
        refine ⟨rfl, ?_⟩
        refine ⟨_, rfl, x, e, rfl, (ze.same e2).same z1, _, _, rfl, rfl, _, z2, sz_lt ?_, L2.Same.mut z1 hD, ?_, hi⟩
        · rw [iv_len, wszs_len, List.length_take]
          omega
        · rw [upd_same, take_snoc he]
          unfold wszs
          rw [List.map_append, ← iv_app]
          rfl
      · intro H3' ⟨z1, z2, z3⟩
        rw [hdL.length, List.take_length] at z2
        refine ⟨D, wszs ws.dropLast, rfl, z2, by rw [wszs_len]; omega, by rw [wszs_len]; omega, fun H3 e3 => ?_⟩
        have e13 := (e2.trans z1).trans e3
        obtain ⟨dx, d, hpm⟩ := hM.at_
        refine ⟨_, rfl, pm, _, _, rfl, e13 _ _ hpm, pf_no d (by decide +kernel), ?_⟩
        have M3 := hM.same e13
        refine ⟨pm, M, a, rfl, M3, hA, ok, fun H4 b4 q4 => ?_⟩
        generalize half (wszs ws.dropLast) = m at *
        obtain ⟨dx4, d4, hpm4⟩ := q4.at_
        have hv4 := M3.keepEL b4 (v := .ref va) (es := ws) ⟨va, xs, rfl, e13 _ _ ha, hes.same e13⟩
        have hu4 := M3.keep b4 (e13 _ _ hua) trivial
        obtain ⟨va', xs4, hva, ha4, hes4⟩ := hv4
        cases hva
        refine ⟨_, rfl, pm, _, _, rfl, hpm4, pf_no d4 (by decide +kernel), _, rfl, ?_⟩
        refine ⟨_, rfl, _, rfl, _, _, rfl, rfl, _, rfl, va, _, rfl, SqL.of ha4, fun p hp => ?_⟩
        have s5 := L2.Same.new1 (o := .lst (cutV xs4 (some ((m : Int) + 1)) none)) hp
        refine ⟨_, rfl, _, rfl, _, _, rfl, rfl, _, rfl, ua, _, rfl, SqL.of (s5 _ _ hu4), fun p' hp' => ?_⟩
        have s6 := s5.new (o := .lst (cutV (nv cs) (some ((m : Int) + 1)) none)) hp'
        have hc1 : cutV xs4 (some ((m : Int) + 1)) none = xs4.drop (m + 1) := cut_from (m + 1)
        have hc2 : cutV (nv cs) (some ((m : Int) + 1)) none = nv (cs.drop (m + 1)) := (cut_from (m + 1)).trans (by unfold nv; rw [List.map_drop])
        have h1 : upd (upd H4 p (.lst (cutV xs4 (some ((m : Int) + 1)) none))) p' (.lst (cutV (nv cs) (some ((m : Int) + 1)) none)) p = some (.lst (xs4.drop (m + 1))) := by
          rw [(L2.Same.new1 hp') _ _ upd_same, hc1]
        refine sp_innerP (E := E0) (ws := ws.drop (m + 1)) (cs := cs.drop (m + 1)) ⟨p, _, rfl, h1, Paired.drop _ (hes4.same s6)⟩ ⟨p', rfl, by rw [upd_same, hc2]⟩ (fun e he => ge e (List.mem_of_mem_drop he)) (by rw [List.length_drop, List.length_drop]; omega)
          (by rw [List.length_drop, show cs.length - (m + 1) = ws.length - m by omega]; exact g5) fun u H6 e6 z6 => ?_
        have e46 := s6.trans e6
        refine ⟨pm, _, a.take.1, u, _, rfl, q4.same e46, by omega, z6, innerPg_ok (fun e he => ge e (List.mem_of_mem_drop he)) (by rw [List.length_drop, List.length_drop]; omega)
          (by rw [List.length_drop, show cs.length - (m + 1) = ws.length - m by omega]; exact g5), fun H7 b7 q7 => ?_⟩
        obtain ⟨dx7, d7, hpm7⟩ := q7.at_
        have M6 := q4.same e46
        have hv7 := M6.keepEL b7 (v := .ref va) (es := ws) ⟨va, xs4, rfl, e46 _ _ ha4, hes4.same e46⟩
        have hu7 := M6.keep b7 (e46 _ _ hu4) trivial
        obtain ⟨va', xs7, hva, ha7, hes7⟩ := hv7
        cases hva
        refine ⟨_, rfl, pm, _, _, rfl, hpm7, pf_no d7 (by decide +kernel), _, rfl, ?_⟩
        refine ⟨_, rfl, _, rfl, _, rfl, va, _, rfl, SqL.of ha7, fun p7 hp7 => ?_⟩
        have s8 := L2.Same.new1 (o := .lst (cutV xs7 none (some ((m : Nat) : Int)))) hp7
        refine ⟨_, rfl, _, rfl, _, _, rfl, rfl, _, rfl, ua, _, rfl, SqL.of (s8 _ _ hu7), fun p8 hp8 => ?_⟩
        have s9 := s8.new (o := .lst (cutV (nv cs) none (some ((m : Int) + 1)))) hp8
        have hc3 : cutV (nv cs) none (some ((m : Int) + 1)) = nv (cs.take (m + 1)) := (cut_to (m + 1)).trans (by unfold nv; rw [List.map_take])
        have h8 : upd (upd H7 p7 (.lst (cutV xs7 none (some ((m : Nat) : Int))))) p8 (.lst (cutV (nv cs) none (some ((m : Int) + 1)))) p7 = some (.lst (xs7.take m)) := by
          rw [(L2.Same.new1 hp8) _ _ upd_same, cut_to]
        have gz : isz (ws.take m) (cs.take (m + 1)).length ≤ 116 := by rw [List.length_take, Nat.min_eq_left (by omega)]; exact g4
        have gl : (cs.take (m + 1)).length = (ws.take m).length + 1 := by rw [List.length_take, List.length_take]; omega
        refine sp_innerP (E := E0) (ws := ws.take m) (cs := cs.take (m + 1)) ⟨p7, _, rfl, h8, Paired.take _ (hes7.same s9)⟩ ⟨p8, rfl, by rw [upd_same, hc3]⟩ (fun e he => ge e (List.mem_of_mem_take he)) gl gz fun u8 H8 e8 z8 => ?_
        have e78 := s9.trans e8
        refine ⟨pm, _, n, u8, _, rfl, q7.same e78, hn, z8, innerPg_ok (fun e he => ge e (List.mem_of_mem_take he)) gl gz, fun H9 b9 q9 => ?_⟩
        have M8 := q7.same e78
        have hv9 := M8.keepEL b9 (v := .ref va) (es := ws) ⟨va, xs7, rfl, e78 _ _ ha7, hes7.same e78⟩
        obtain ⟨va', xs9, hva, ha9, hes9⟩ := hv9
        cases hva
        have hget : ws[m]? = some (ws.getD m dE) := by
          rw [List.getD_eq_getElem?_getD, List.getElem?_eq_getElem (by omega)]; rfl
        obtain ⟨x, hx9, zx⟩ := Paired.get hes9 hget
        refine ⟨_, rfl, _, rfl, va, _, _, _, rfl, rfl, SqL.of ha9, atI_nat hx9, _, rfl, (by show 2 ≤ sizeLine; decide), fun t ht => ?_⟩
        have s10 := L2.Same.new1 (o := .tup [x, V.int ((a.take.1 : Nat) : Int)]) ht
        have bb : But [pm] H H9 := (((But.of e13).trans b4).trans (But.of e46)).trans ((b7.trans (But.of e78)).trans b9)
        exact k _ _ (bb.trans (.of s10)) (q9.same s10) ⟨t, x, rfl, upd_same, zx.same s10⟩
end
end K7
namespace K7
/-! ### steps over pages -/
theorem cnt0 {x : Nat} {l : List Nat} : x ∉ l ↔ List.count x l = 0 := List.count_eq_zero.symm
structure Step (M M' : Mem) (a a' : Al) (ns ns' : List Nat) : Prop where
  al : AL M' a'
  fra : Fra M M' ns a
  own : ∃ k, a'.fresh = a.fresh + k ∧ ∀ x, List.count x ns' + List.count x a'.free = List.count x ns + List.count x a.free + List.count x (List.range' a.fresh k)
theorem Step.refl {M : Mem} {a : Al} {ns : List Nat} (h : AL M a) : Step M M a a ns ns := ⟨h, fun _ _ _ _ _ => rfl, 0, rfl, fun x => by simp⟩
theorem Step.trans {M M1 M2 : Mem} {a a1 a2 : Al} {ns ns1 ns2 : List Nat} (s : Step M M1 a a1 ns ns1) (t : Step M1 M2 a1 a2 ns1 ns2) : Step M M2 a a2 ns ns2 := by
  obtain ⟨k, k1, k2⟩ := s.own
  obtain ⟨j, j1, j2⟩ := t.own
  refine ⟨t.al, fun m m0 m1 m2 m3 => ?_, k + j, by omega, fun x => ?_⟩
  · have z := k2 m
    have nr : m ∉ List.range' a.fresh k := fun q => by
      have := (List.mem_range'_1.mp q).1
      omega
    rw [cnt0.mp m1, cnt0.mp m2, cnt0.mp nr] at z
    rw [t.fra m m0 (cnt0.mpr (by omega)) (cnt0.mpr (by omega)) (by omega)]
    exact s.fra m m0 m1 m2 m3
  · have z := k2 x
    have y := j2 x
    rw [k1] at y
    rw [range_cnt]
    omega
theorem Step.frame {M M' : Mem} {a a' : Al} {ns ns' ms ms' : List Nat} (r : List Nat) (s : Step M M' a a' ns ns') (h : ∀ x, List.count x ms = List.count x ns + List.count x r) (h' : ∀ x, List.count x ms' = List.count x ns' + List.count x r) : Step M M' a a' ms ms' := by
  obtain ⟨k, k1, k2⟩ := s.own
  refine ⟨s.al, fun m m0 m1 m2 m3 => s.fra m m0 (cnt0.mpr ?_) m2 m3, k, k1, fun x => ?_⟩
  · have := cnt0.mp m1
    rw [h m] at this
    omega
  · have z := k2 x
    rw [h, h']
    omega
theorem Step.cnt {M M' : Mem} {a a' : Al} {ns ns' ms ms' : List Nat} (s : Step M M' a a' ns ns') (h : ∀ x, List.count x ms = List.count x ns) (h' : ∀ x, List.count x ms' = List.count x ns') : Step M M' a a' ms ms' :=
  s.frame [] (fun x => by rw [h]; simp) (fun x => by rw [h']; simp)
theorem Step.owns {M M' : Mem} {a a' : Al} {ns ns' : List Nat} (s : Step M M' a a' ns ns') (o : Own ns a) : Own ns' a' := by
  obtain ⟨k, k1, k2⟩ := s.own
  exact o.step k1 k2
/-- what is owned besides stays -/
theorem Step.keep {M M' : Mem} {a a' : Al} {ns ns' ms : List Nat} (s : Step M M' a a' ns ns') (o : Own ms a) {r : List Nat} (h : ∀ x, List.count x ms = List.count x ns + List.count x r) {m : Nat} (hm : m ∈ r) : M' m = M m := by
  have p := cnt_pos.mp hm
  have z := h m
  have y := o.one m
  have l := o.low m (.inl (cnt_pos.mpr (by omega)))
  exact s.fra m (by omega) (cnt0.mpr (by omega)) (cnt0.mpr (by omega)) l.2
theorem Own.ne0 {ns : List Nat} {a : Al} (o : Own ns a) {n : Nat} (h : n ∈ ns) : n ≠ 0 := by have := o.low n (.inl h); omega
theorem Own.lt {ns : List Nat} {a : Al} (o : Own ns a) {n : Nat} (h : n ∈ ns) : n < a.fresh := (o.low n (.inl h)).2
theorem Own.hd {n : Nat} {ns : List Nat} {a : Al} (o : Own (n :: ns) a) : n ∉ ns := fun m => by
  have := o.one n
  rw [List.count_cons_self] at this
  have := cnt_pos.mp m
  omega
theorem Own.tl {n : Nat} {ns : List Nat} {a : Al} (o : Own (n :: ns) a) : Own ns a := o.sub fun x => by rw [cnt_cons x n ns]; omega
theorem Own.one_ {n : Nat} {ns : List Nat} {a : Al} (o : Own (n :: ns) a) : Own [n] a := o.sub fun x => by rw [cnt_cons x n ns]; omega
theorem Own.take {ns : List Nat} {a : Al} (o : Own ns a) : a.take.1 ∉ ns ∧ a.take.1 ≠ 0 := by
  rcases take_own (a := a) with q | q
  · refine ⟨fun m => o.not_free m q, ?_⟩
    have := o.low _ (.inr q)
    omega
  · refine ⟨fun m => ?_, ?_⟩
    · have := o.lt m
      omega
    · have := o.pos
      omega
theorem Step.set {M : Mem} {a : Al} {ns : List Nat} (h : AL M a) (o : Own ns a) {n : Nat} (hn : n ∈ ns) (pg : List Int) : Step M (setM M n pg) a a ns ns :=
  ⟨h.set (o.ne0 hn) (o.not_free hn), fun m _ m1 _ _ => setM_ne (fun e => m1 (by rw [e]; exact hn)), 0, rfl, fun x => by simp⟩
theorem Step.take {M : Mem} {a : Al} {ns : List Nat} (h : AL M a) (o : Own ns a) (hf : a.fresh ≤ 65534) : Step M (takeM M a) a a.take.2 ns (a.take.1 :: ns) := by
  obtain ⟨k, _, k2, k3⟩ := take_cnt a
  refine ⟨takeM_AL h (o.al hf), fun m m0 _ m2 m3 => takeM_fra m0 m2 m3, k, k2, fun x => ?_⟩
  have := k3 x
  rw [cnt_cons]
  omega
theorem Step.give {M : Mem} {a : Al} {n : Nat} {ns : List Nat} (h : AL M a) (o : Own (n :: ns) a) (hf : a.fresh ≤ 65534) : Step M (giveM M a n) a (a.give n) (n :: ns) ns := by
  have hn : n ∈ n :: ns := List.mem_cons_self
  refine ⟨giveM_AL h (o.al hf) (o.ne0 hn) (o.not_free hn), fun m m0 m1 _ _ => ?_, 0, rfl, fun x => ?_⟩
  · unfold giveM
    rw [setM_ne m0, setM_ne (fun e => m1 (by rw [e]; exact hn))]
  · show List.count x ns + List.count x (n :: a.free) = _
    rw [cnt_cons x n a.free, cnt_cons x n ns]
    simp
    omega
/-- what a put leaves -/
def numsR (h : Nat) (p : Tr h × Option (Ent × Tr h)) : List Nat := nums h p.1 ++ numsO h p.2
def repO (h : Nat) (p : Tr h × Option (Ent × Tr h)) (nx : Nat) (M : Mem) : Prop := match p.2 with
  | none => repP h p.1 nx M
  | some (_, r) => repP h p.1 (first h r) M ∧ repP h r nx M
def nmO {h : Nat} (o : Option (Ent × Tr h)) : Option (Ent × Nat) := o.map fun p => (p.1, num p.2)
theorem wlM_out (M : Mem) (a : Al) (n : Nat) (es : List Ent) (nx : Nat) : (wlM M a n es nx).2 = nmO (wleaf n es a).1.2 := by
  unfold wlM wleaf
  split <;> rfl
theorem wiM_out {h : Nat} (M : Mem) (a : Al) (n : Nat) (ws : List Ent) (cs : List (Tr h)) : (wiM M a n ws (cs.map num)).2 = nmO (wnode n ws cs a).1.2 := by
  unfold wiM wnode
  rw [List.length_map]
  split <;> rfl
theorem wleaf_step {M : Mem} {a : Al} {n : Nat} (es : List Ent) (nx : Nat) (h : AL M a) (o : Own [n] a) (hf : a.fresh ≤ 65534) :
    Step M (wlM M a n es nx).1 a (wleaf n es a).2 [n] (numsR 0 (wleaf n es a).1) ∧ repO 0 (wleaf n es a).1 nx (wlM M a n es nx).1 := by
  unfold wlM wleaf
  split
  · exact ⟨Step.set h o List.mem_cons_self _, setM_same⟩
  · have t := Step.take h o hf
    have ot := t.owns o
    have nt := o.take
    have ne : a.take.1 ≠ n := fun e => nt.1 (by rw [e]; exact List.mem_cons_self)
    have s1 := Step.set t.al ot List.mem_cons_self (leafPg (es.drop (half (szs es))) nx)
    have s2 := Step.set s1.al ot (List.mem_cons_of_mem _ List.mem_cons_self) (leafPg (es.take (half (szs es))) a.take.1)
    refine ⟨((t.trans s1).trans s2).cnt (fun _ => rfl) (fun x => ?_), setM_same, ?_⟩
    · show List.count x ([n] ++ [a.take.1]) = _
      rw [List.count_append, cnt_cons x a.take.1 [n]]
      omega
    · show setM (setM _ _ _) _ _ a.take.1 = _
      rw [setM_ne ne, setM_same]
theorem repL_set {h : Nat} {cs : List (Tr h)} {nx : Nat} {M : Mem} {n : Nat} {pg : List Int} (hn : n ∉ numsL h cs) (hr : repLs (repP h) (first h) cs nx M) : repLs (repP h) (first h) cs nx (setM M n pg) :=
  repL_frame cs nx (fun m hm => setM_ne fun e => hn (by rw [← e]; exact hm)) hr
theorem wnode_step {h : Nat} {M : Mem} {a : Al} {n : Nat} {ws : List Ent} {cs : List (Tr h)} {nx : Nat} (hA : AL M a) (o : Own (n :: numsL h cs) a) (hf : a.fresh ≤ 65534)
    (ge : ∀ e ∈ ws, GE e) (hl : cs.length = ws.length + 1) (hz : isz ws cs.length ≤ 142) (hr : repLs (repP h) (first h) cs nx M) :
    Step M (wiM M a n ws (cs.map num)).1 a (wnode n ws cs a).2 (n :: numsL h cs) (numsR (h + 1) (wnode n ws cs a).1) ∧ repO (h + 1) (wnode n ws cs a).1 nx (wiM M a n ws (cs.map num)).1 := by
  unfold wiM wnode
  rw [List.length_map]
  split
  · refine ⟨(Step.set hA o List.mem_cons_self _).cnt (fun _ => rfl) (fun x => ?_), setM_same, repL_set o.hd hr⟩
    show List.count x ((n :: numsL h cs) ++ []) = _
    rw [List.append_nil]
  · rename_i hc
    obtain ⟨g1, g2, g3, g4, g5⟩ := inner_halves ge (by rw [← hl]; omega) (by rw [← hl]; exact hz)
    generalize half (wszs ws.dropLast) = m at *
    have t := Step.take hA o hf
    have ot := t.owns o
    have nt := o.take
    have ne : a.take.1 ≠ n := fun e => nt.1 (by rw [e]; exact List.mem_cons_self)
    have s1 := Step.set t.al ot List.mem_cons_self (innerPg (ws.drop (m + 1)) ((cs.map num).drop (m + 1)))
    have s2 := Step.set s1.al ot (List.mem_cons_of_mem _ List.mem_cons_self) (innerPg (ws.take m) ((cs.map num).take (m + 1)))
    have en : numsL h cs = numsL h (cs.take (m + 1)) ++ numsL h (cs.drop (m + 1)) := by rw [← numsL_app, List.take_append_drop]
    have hr3 : repLs (repP h) (first h) cs nx (setM (setM (takeM M a) a.take.1 (innerPg (ws.drop (m + 1)) ((cs.map num).drop (m + 1)))) n (innerPg (ws.take m) ((cs.map num).take (m + 1)))) :=
      repL_set o.hd (repL_set (fun q => nt.1 (List.mem_cons_of_mem _ q)) (repL_frame cs nx (fun x hx => takeM_fra (o.ne0 (List.mem_cons_of_mem _ hx)) (o.not_free (List.mem_cons_of_mem _ hx)) (o.lt (List.mem_cons_of_mem _ hx))) hr))
    have e0 : cs = cs.take (m + 1) ++ cs.drop (m + 1) := (List.take_append_drop _ _).symm
    replace hr3 := (repLs_app (cs.take (m + 1)) (cs.drop (m + 1)) nx _).mp (by rw [← e0]; exact hr3)
    have ned : cs.drop (m + 1) ≠ [] := fun e => by
      have := congrArg List.length e
      rw [List.length_drop] at this
      simp at this
      omega
    refine ⟨((t.trans s1).trans s2).cnt (fun _ => rfl) (fun x => ?_), ⟨?_, ?_⟩, ?_, ?_⟩
    · show List.count x ((n :: numsL h (cs.take (m + 1))) ++ (a.take.1 :: numsL h (cs.drop (m + 1)))) = _
      rw [List.count_append, cnt_cons x a.take.1 (n :: numsL h cs), cnt_cons x n (numsL h cs), cnt_cons x n (numsL h (cs.take (m + 1))), cnt_cons x a.take.1 (numsL h (cs.drop (m + 1))), en, List.count_append]
      omega
    · rw [List.map_take]
      exact setM_same
    · have := hr3.1
      rw [firstL_ne ned nx 0] at this
      exact this
    · show setM (setM _ _ _) _ _ a.take.1 = _
      rw [setM_ne ne, setM_same, List.map_drop]
    · exact hr3.2
theorem kids {h n : Nat} {M M1 : Mem} {a a1 : Al} {A C B C' : List (Tr h)} {nx : Nat} (o : Own (n :: numsL h (A ++ (C ++ B))) a) (s : Step M M1 a a1 (numsL h C) (numsL h C')) (hr : repLs (repP h) (first h) (A ++ (C ++ B)) nx M)
    (hr' : repLs (repP h) (first h) C' (firstL (first h) B nx) M1) (hf : ∀ y, firstL (first h) C' y = firstL (first h) C y) :
    Step M M1 a a1 (n :: numsL h (A ++ (C ++ B))) (n :: numsL h (A ++ (C' ++ B))) ∧ repLs (repP h) (first h) (A ++ (C' ++ B)) nx M1 ∧ M1 n = M n := by
  have en : ∀ (D : List (Tr h)) (x : Nat), List.count x (n :: numsL h (A ++ (D ++ B))) = List.count x (numsL h D) + List.count x (n :: (numsL h A ++ numsL h B)) := fun D x => by
    rw [cnt_cons, cnt_cons x n (numsL h A ++ numsL h B), numsL_app, numsL_app, List.count_append, List.count_append, List.count_append]
    omega
  have kp : ∀ m ∈ n :: (numsL h A ++ numsL h B), M1 m = M m := fun m hm => s.keep o (en C) hm
  refine ⟨s.frame _ (en C) (en C'), ?_, kp n List.mem_cons_self⟩
  rw [repLs_app, repLs_app] at hr
  rw [repLs_app, repLs_app]
  refine ⟨?_, hr', ?_⟩
  · have r1 := hr.1
    rw [firstL_app] at r1 ⊢
    rw [hf]
    exact repL_frame A _ (fun m hm => kp m (List.mem_cons_of_mem _ (List.mem_append_left _ hm))) r1
  · exact repL_frame B _ (fun m hm => kp m (List.mem_cons_of_mem _ (List.mem_append_right _ hm))) hr.2.2
theorem put_none {h n : Nat} {ws : List Ent} {M M1 : Mem} {a a1 : Al} {A B : List (Tr h)} {c c' : Tr h} {nx : Nat} (o : Own (n :: numsL h (A ++ c :: B)) a) (hr : repP (h + 1) (node n ws (A ++ c :: B)) nx M)
    (s : Step M M1 a a1 (nums h c) (numsR h (c', none))) (hr' : repO h (c', none) (firstL (first h) B nx) M1) (hf : first h c' = first h c) (hn : num c' = num c) :
    Step M M1 a a1 (nums (h + 1) (node n ws (A ++ c :: B))) (numsR (h + 1) (node n ws (A ++ c' :: B), none)) ∧ repO (h + 1) (node n ws (A ++ c' :: B), none) nx M1 := by
  have k := kids (n := n) (A := A) (C := [c]) (C' := [c']) (B := B) (nx := nx) o (s.cnt (fun x => by rw [numsL_cons, List.count_append]; simp [numsL]) (fun x => by rw [numsL_cons, List.count_append]; simp [numsL, numsR, numsO])) hr.2 ⟨hr', trivial⟩ (fun y => hf)
  refine ⟨k.1.cnt (fun _ => rfl) (fun x => ?_), ?_, k.2.1⟩
  · show List.count x ((n :: numsL h (A ++ c' :: B)) ++ []) = _
    rw [List.append_nil]
    rfl
  · have z := hr.1
    rw [k.2.2, z, List.map_append, List.map_append, List.map_cons, List.map_cons, hn]
theorem put_some {h n : Nat} {ws : List Ent} {M M1 : Mem} {a a1 : Al} {A B : List (Tr h)} {c c' t : Tr h} {w : Ent} {nx : Nat} (o : Own (n :: numsL h (A ++ c :: B)) a) (hr : repP (h + 1) (node n ws (A ++ c :: B)) nx M)
    (s : Step M M1 a a1 (nums h c) (numsR h (c', some (w, t)))) (hr' : repO h (c', some (w, t)) (firstL (first h) B nx) M1) (hf : first h c' = first h c) :
    Step M M1 a a1 (nums (h + 1) (node n ws (A ++ c :: B))) (n :: numsL h (A ++ c' :: t :: B)) ∧ repLs (repP h) (first h) (A ++ c' :: t :: B) nx M1 := by
  have k := kids (n := n) (A := A) (C := [c]) (C' := [c', t]) (B := B) (nx := nx) o (s.cnt (fun x => by rw [numsL_cons, List.count_append]; simp [numsL]) (fun x => by rw [numsL_cons, numsL_cons, List.count_append, List.count_append]; simp [numsL, numsR, numsO])) hr.2 ⟨hr'.1, hr'.2, trivial⟩ (fun y => hf)
  exact ⟨k.1, k.2.1⟩
theorem first_in : ∀ (h : Nat) (t : Tr h), Ok h t → first h t ∈ nums h t
  | 0, ⟨n, es⟩, _ => List.mem_cons_self
  | h + 1, ⟨n, ws, cs⟩, ok => by
    obtain ⟨h1, _, _, h4⟩ := ok
    cases cs with
    | nil => simp at h1
    | cons c cs =>
      refine List.mem_cons_of_mem _ ?_
      show first h c ∈ nums h c ++ _
      exact List.mem_append_left _ (first_in h c (h4 c List.mem_cons_self))
theorem firstL_in {h : Nat} {B : List (Tr h)} (ok : ∀ b ∈ B, Ok h b) (nx : Nat) : firstL (first h) B nx = nx ∨ firstL (first h) B nx ∈ numsL h B := by
  cases B with
  | nil => exact .inl rfl
  | cons b B => exact .inr (List.mem_append_left _ (first_in h b (ok b List.mem_cons_self)))
theorem kid_in {h : Nat} {A B : List (Tr h)} {c : Tr h} {x : Nat} (m : x ∈ nums h c) : x ∈ numsL h (A ++ c :: B) := by
  rw [numsL_app, numsL_cons]
  exact List.mem_append_right _ (List.mem_append_left _ m)
theorem kid_own {h n : Nat} {A B : List (Tr h)} {c : Tr h} {a : Al} (o : Own (n :: numsL h (A ++ c :: B)) a) : Own (nums h c) a := o.sub fun x => by
  rw [cnt_cons, numsL_app, numsL_cons, List.count_append, List.count_append]
  omega
theorem nums_le {h n : Nat} {cs : List (Tr h)} {a : Al} (o : Own (n :: numsL h cs) a) (hf : a.fresh ≤ 65535) : ∀ d ∈ cs.map num, d ≤ 65535 := fun d hd => by
  obtain ⟨c, hc, rfl⟩ := List.mem_map.mp hd
  have := o.lt (List.mem_cons_of_mem _ (List.mem_flatten.mpr ⟨nums h c, List.mem_map.mpr ⟨c, hc, rfl⟩, num_mem h c⟩))
  omega
/-- what the walls and children are behind a child's split, fits into two pages -/
theorem late_fits {h n : Nat} {ws : List Ent} {A B : List (Tr h)} {c c' t : Tr h} {w : Ent} {i : Nat} (ok : Ok (h + 1) (node n ws (A ++ c :: B))) (gw : GE w) :
    (∀ x ∈ ws.take i ++ w :: ws.drop i, GE x) ∧ (A ++ c' :: t :: B).length = (ws.take i ++ w :: ws.drop i).length + 1 ∧ isz (ws.take i ++ w :: ws.drop i) (A ++ c' :: t :: B).length ≤ 142 := by
  obtain ⟨h1, h2, h3, h4⟩ := ok
  refine ⟨fun x hx => ?_, ?_, ?_⟩
  · rcases List.mem_append.mp hx with m | m
    · exact h3 x (List.mem_of_mem_take m)
    · rcases List.mem_cons.mp m with m | m
      · rw [m]; exact gw
      · exact h3 x (List.mem_of_mem_drop m)
  · rw [List.length_append, List.length_cons] at h1
    rw [List.length_append, List.length_cons, List.length_cons, List.length_append, List.length_cons, List.length_take, List.length_drop]
    omega
  · unfold isz at *
    have ha := lsz_app (ws.take i) (ws.drop i)
    rw [List.take_append_drop] at ha
    have : esz w ≤ 24 := esz_le gw
    rw [List.length_append, List.length_cons] at h1 h2
    rw [List.length_append, List.length_cons, List.length_cons, lsz_app, lsz_cons]
    omega
/-- the page of a tree's root -/
def pgT : (h : Nat) → Tr h → Nat → List Int
  | 0, ⟨_, es⟩, nx => leafPg es nx
  | _ + 1, ⟨_, ws, cs⟩, _ => innerPg ws (cs.map num)
theorem repP_pg : ∀ {h : Nat} {t : Tr h} {nx : Nat} {M : Mem}, repP h t nx M → M (num t) = some (pgT h t nx)
  | 0, ⟨_, _⟩, _, _, r => r
  | _ + 1, ⟨_, _, _⟩, _, _, r => r.1
theorem join_step : ∀ (h : Nat) (c : Tr h) (w : Ent) (d : Tr h) (nx : Nat) (M : Mem) (a : Al), AL M a → Own (nums h c ++ nums h d) a → a.fresh ≤ 65534 → Ok h d → repP h c (first h d) M → repP h d nx M →
    Step M (giveM (setM M (num c) (pgT h (joinT h c w d) nx)) a (num d)) a (a.give (num d)) (nums h c ++ nums h d) (nums h (joinT h c w d)) ∧ repP h (joinT h c w d) nx (giveM (setM M (num c) (pgT h (joinT h c w d) nx)) a (num d)) := by
  intro h c w d nx M a hA o hf okd r1 r2
  obtain ⟨rc, ec⟩ := nums_head h c
  obtain ⟨rd, ed⟩ := nums_head h d
  have en : ∀ x, List.count x (nums h c ++ nums h d) = List.count x [num d, num c] + List.count x (rc ++ rd) := fun x => by
    rw [ec, ed, List.count_append, List.count_append, cnt_cons x (num c) rc, cnt_cons x (num d) rd, cnt_cons x (num d) [num c]]
    omega
  have o2 : Own [num d, num c] a := o.sub fun x => by rw [en x]; omega
  have s1 := Step.set hA o2 (List.mem_cons_of_mem _ List.mem_cons_self) (pgT h (joinT h c w d) nx)
  have s2 := Step.give s1.al (s1.owns o2) hf
  have s := s1.trans s2
  have hnd : num d ≠ num c := fun e => by
    have := o2.one (num d)
    rw [e] at this
    simp at this
    omega
  have kp : ∀ m ∈ rc ++ rd, giveM (setM M (num c) (pgT h (joinT h c w d) nx)) a (num d) m = M m := fun m hm => s.keep o en hm
  have hnc : giveM (setM M (num c) (pgT h (joinT h c w d) nx)) a (num d) (num c) = some (pgT h (joinT h c w d) nx) := by
    unfold giveM
    rw [setM_ne (o2.ne0 (List.mem_cons_of_mem _ List.mem_cons_self)), setM_ne (Ne.symm hnd), setM_same]
  refine ⟨s.frame _ en (fun x => ?_), ?_⟩
  · have j := joinT_cnt h c w d x
    have e := en x
    rw [List.count_append] at e
    rw [cnt_cons x (num d) [num c]] at e
    omega
  · cases h with
    | zero =>
      obtain ⟨n, es⟩ := c
      obtain ⟨m, fs⟩ := d
      exact hnc
    | succ h =>
      obtain ⟨n, ws, cs⟩ := c
      obtain ⟨m, us, ds⟩ := d
      cases ec
      cases ed
      refine ⟨hnc, ?_⟩
      rw [repLs_app]
      have nd : ds ≠ [] := fun e => by
        have := okd.1
        rw [e] at this
        simp at this
      have q1 := r1.2
      have e1 : first (h + 1) (node m us ds) = firstL (first h) ds nx := firstL_ne nd 0 nx
      rw [e1] at q1
      exact ⟨repL_frame cs _ (fun x hx => kp x (List.mem_append_left _ hx)) q1, repL_frame ds _ (fun x hx => kp x (List.mem_append_right _ hx)) r2.2⟩
end K7
namespace K7
open PySem PySem.Spec PyProof.Rows L2
theorem nv_map_get {h : Nat} {cs : List (Tr h)} {i : Nat} {c : Tr h} (hc : cs[i]? = some c) : (nv (cs.map num))[i]? = some (.int ((num c : Nat) : Int)) := nv_get (by rw [List.getElem?_map, hc]; rfl)
theorem late_nums {h : Nat} {A B : List (Tr h)} {c c' t : Tr h} (hn : num c' = num c) : ((A ++ c :: B).map num).take (A.length + 1) ++ num t :: ((A ++ c :: B).map num).drop (A.length + 1) = (A ++ c' :: t :: B).map num := by
  rw [← List.map_take, ← List.map_drop, List.take_append, List.drop_append, List.take_of_length_le (by omega), List.drop_of_length_le (by omega), show A.length + 1 - A.length = 1 by omega]
  simp [hn]
theorem nv_take (N : List Nat) (i : Nat) : nv (N.take i) = (nv N).take i := by unfold nv; rw [List.map_take]
theorem nv_drop (N : List Nat) (i : Nat) : nv (N.drop i) = (nv N).drop i := by unfold nv; rw [List.map_drop]
theorem nv_cons (n : Nat) (N : List Nat) : nv (n :: N) = .int ((n : Nat) : Int) :: nv N := rfl
theorem nv_splice (N : List Nat) (i n : Nat) : cutV (nv N) none (some ((i : Int) + 1)) ++ V.int (n : Int) :: (cutV (nv N) (some ((i : Int) + 1)) none ++ []) = nv (N.take (i + 1) ++ n :: N.drop (i + 1)) := by
  rw [show (i : Int) + 1 = ((i + 1 : Nat) : Int) by omega, cut_to, cut_from, List.append_nil, nv_app, nv_cons, nv_take, nv_drop]
section
variable {P : Program} {w : World} {K : PySem.W.Frag} {mg : Str → Option Value} {base : Heap} {C : Addr}
def spPutLt (C : Addr) (hn : Nat) : Sp := fun vs H Q _ => ∃ h, h < hn ∧ ∃ pm M a, ∃ t : Tr h, ∃ nx v e, vs = [.ref pm, .int (num t : Int), v] ∧ IsPM C H pm M ∧ AL M a ∧ repP h t nx M ∧ Ok h t ∧ GE e ∧ IsE H v e ∧ Own (nums h t) a ∧ a.fresh + h + 1 ≤ 65534 ∧ nx ≤ 65535 ∧
  ∀ u H' M', But [pm] H H' → IsPM C H' pm M' → Step M M' a (put h t e a).2 (nums h t) (numsR h (put h t e a).1) → repO h (put h t e a).1 nx M' → IsSp H' u (nmO (put h t e a).1.2) → Q u H'
abbrev s_put_below : Stmt := top 52
abbrev N_put_below : List Str := ["pages", "number", "entry", "page", "walls", "children", "at", "split", "wall", "right", "late"]
theorem sc_put_below : FnScope N_put_below ["pages", "number", "entry"] (defScope s_put_below) := ⟨rfl, rfl, rfl, by decide +kernel, rfl, by decide +kernel, by decide +kernel⟩
theorem ok_put_below (F : At K mg "put_below" s_put_below) (T : Txt K mg C) (D_is_leaf : Df P w K mg base "is_leaf" 3 ["page"] spIsLeaf) (D_inner_parts : Df P w K mg base "inner_parts" 3 ["page"] spParts) (D_child_at : Df P w K mg base "child_at" 1 ["walls", "entry"] spChildAt) (D_write_inner : Df P w K mg base "write_inner" 8 ["pages", "number", "walls", "children"] (spWInner C)) (D_write_leaf : Df P w K mg base "write_leaf" 8 ["pages", "number", "entries", "late"] (spWLeaf C)) (D_leaf_next : Df P w K mg base "leaf_next" 3 ["page"] spLeafN) (D_leaf_entries : Df P w K mg base "leaf_entries" 3 ["page"] spLeafE) (M_read : Dm P w K mg base C "read" 4 ["self", "number"] (spRead C)) : ∀ hn, Df P w K mg base "put_below" (9 + hn) ["pages", "number", "entry"] (spPutLt C hn) := by
  intro hn
  induction hn with
  | zero =>
    show Df P w K mg base "put_below" (8 + 1) ["pages", "number", "entry"] (spPutLt C 0)
    exact F.df sc_put_below (fun _ _ _ _ _ _ us hl => match us, hl with | [_, _, _], _ => rfl) (fun vs H Q E h => by obtain ⟨_, hl, _⟩ := h; omega) (fun f cdv A outer s H vs Q E hr h => by obtain ⟨_, hl, _⟩ := h; omega)
  | succ hn D_put_below =>
    show Df P w K mg base "put_below" ((9 + hn) + 1) ["pages", "number", "entry"] (spPutLt C (hn + 1))
    refine F.df sc_put_below (fun _ _ _ _ _ _ us hl => match us, hl with | [_, _, _], _ => rfl) (fun vs H Q E h => ?_) (fun f cdv A outer s H vs Q E hr h => ?_)
    · obtain ⟨h, hl, pm, M, a, t, nx, v, e, rfl, _⟩ := h; rfl
    · obtain ⟨h, hl, pm, M, a, t, nx, v, e, rfl, hM, hA, hrep, hok, ge, hv, own, hf, hx, k⟩ := h
      refine ⟨_, (pss_cons (ps_set (i := 3) sc_put_below.nd rfl (Or.inl rfl) (pe_md T.cl M_read (hr.mono (by omega)) (pv 0) (pa_cons (pv 1) pa_nil)))
  (pss_cons (ps_if (pt_val (pe_cd D_is_leaf (hr.mono (by omega)) (pa_cons (pv 3) pa_nil)))
  (pss_one (ps_ret (pe_cd D_write_leaf (hr.mono (by omega)) (pa_cons (pv 0) (pa_cons (pv 1) (pa_cons (pe_callB (cr_sortedE (hu64 hr)) (by rfl) T.sorted (by decide +kernel) (pa_cons (pe_lst (StX.pa_star (pe_cd D_leaf_entries (hr.mono (by omega)) (pa_cons (pv 3) pa_nil)) (pa_cons (pv 2) pa_nil))) pa_nil)) (pa_cons (pe_cd D_leaf_next (hr.mono (by omega)) (pa_cons (pv 3) pa_nil)) pa_nil)))))))
  pss_nil)
  (pss_cons (ps_asg (pe_cd D_inner_parts (hr.mono (by omega)) (pa_cons (pv 3) pa_nil)) (pg_tup (by rfl) (pgs_cons (pg_name (i := 4) sc_put_below.nd rfl (Or.inl rfl)) (pgs_cons (pg_name (i := 5) sc_put_below.nd rfl (Or.inl rfl)) pgs_nil))))
  (pss_cons (ps_set (i := 6) sc_put_below.nd rfl (Or.inl rfl) (pe_cd D_child_at (hr.mono (by omega)) (pa_cons (pv 4) (pa_cons (pv 2) pa_nil))))
  (pss_cons (ps_set (i := 7) sc_put_below.nd rfl (Or.inl rfl) (pe_cd D_put_below (hr.mono (by omega)) (pa_cons (pv 0) (pa_cons (pe_ix ix_list (pv 5) (pv 6) (fun _ _ => rfl)) (pa_cons (pv 2) pa_nil)))))
  (pss_cons (ps_if (pt_cmpR op_isN (pv 7) pe_non (nomark _))
  (pss_one (ps_ret pe_non))
  pss_nil)
  (pss_cons (ps_asg (pv 7) (pg_tup (by rfl) (pgs_cons (pg_name (i := 8) sc_put_below.nd rfl (Or.inl rfl)) (pgs_cons (pg_name (i := 9) sc_put_below.nd rfl (Or.inl rfl)) pgs_nil))))
  (pss_cons (ps_set (i := 10) sc_put_below.nd rfl (Or.inl rfl) (pe_lst (StX.pa_star (pe_slice sl_list (pv 5) po_none (po_some (pe_op op_add (pv 6) pe_int))) (pa_cons (pv 9) (StX.pa_star (pe_slice sl_list (pv 5) (po_some (pe_op op_add (pv 6) pe_int)) po_none) pa_nil)))))
  (pss_one (ps_ret (pe_cd D_write_inner (hr.mono (by omega)) (pa_cons (pv 0) (pa_cons (pv 1) (pa_cons (pe_lst (StX.pa_star (pe_slice sl_list (pv 4) po_none (po_some (pv 6))) (pa_cons (pv 8) (StX.pa_star (pe_slice sl_list (pv 4) (po_some (pv 6)) po_none) pa_nil)))) (pa_cons (pv 10) pa_nil))))))))))))))), ?_⟩
      obtain ⟨dx, d, hpm⟩ := hM.at_
      have hnum := own.lt (num_mem h t)
      cases h with
      | zero =>
        obtain ⟨n, es⟩ := t
        obtain ⟨hz, hge⟩ := hok
        have hMn : M n = some (leafPg es nx) := hrep
        have hn' : n < a.fresh := hnum
        refine ⟨_, rfl, pm, _, _, rfl, hpm, pf_no d (by decide +kernel), _, rfl, pm, M, n, _, rfl, hM, by omega, hMn, fun g H1 e1 z1 => ?_⟩
        refine ⟨_, rfl, g, _, 3, rfl, z1, leafPg_kind es nx, .inl rfl, fun H2 e2 => ?_⟩
        refine ⟨_, rfl, ifT rfl ?_⟩
        refine ⟨_, rfl, _, rfl, _, rfl, g, es, nx, rfl, z1.same e2, hge, hz, fun l H3 e3 z3 => ?_⟩
        obtain ⟨⟨la, xs, rfl, hla, hes⟩, _⟩ := z3
        refine ⟨la, _, rfl, .inr (SqL.of hla), ?_⟩
        have e13 := (e1.trans e2).trans e3
        refine ⟨_, rfl, ?_⟩
        refine ⟨?_, fun p hp => ?_⟩
        · rw [List.length_append, hes.length]
          have := len_of_lsz hge
          exact sz_of (by show es.length + 1 ≤ 100000; omega)
        have s4 := L2.Same.new1 (o := .lst (xs ++ [v])) hp
        refine ⟨p, _, es ++ [e], rfl, upd_same, Paired.append (hes.same s4) (.cons ((hv.same e13).same s4) .nil), fun q ys H5 hq e5 hq5 hys => ?_⟩
        have e15 := (e13.trans s4).trans e5
        refine ⟨_, rfl, g, es, nx, rfl, (((z1.same e2).same e3).same s4).same e5, hz, hx, fun H6 e6 => ?_⟩
        have e16 := e15.trans e6
        have ow1 : Own [n] a := own
        refine ⟨pm, M, a, n, _, srt (es ++ [e]), nx, rfl, hM.same e16, hA, own.al (by omega), by omega, ⟨q, ys, rfl, e6 _ _ hq5, hys.same e6⟩, fun x hxx => ?_, ?_, hx, fun u H7 b7 q7 z7 => ?_⟩
        · rcases List.mem_append.mp (srt_mem.mp hxx) with m | m
          · exact hge x m
          · rw [List.mem_singleton.mp m]; exact ge
        · rw [srt_lsz]
          have := esz_le ge
          omega
        have ws := wleaf_step (srt (es ++ [e])) nx hA ow1 (by omega)
        rw [wlM_out] at z7
        exact k u H7 _ ((But.of e16).trans b7) q7 ws.1 ws.2 z7
      | succ h =>
        obtain ⟨n, wl, cs⟩ := t
        obtain ⟨hl1, hz, hge, hoks⟩ := id hok
        obtain ⟨hMn, hreps⟩ := id hrep
        have hn' : n < a.fresh := hnum
        have own' : Own (n :: numsL h cs) a := own
        refine ⟨_, rfl, pm, _, _, rfl, hpm, pf_no d (by decide +kernel), _, rfl, pm, M, n, _, rfl, hM, by omega, hMn, fun g H1 e1 z1 => ?_⟩
        refine ⟨_, rfl, g, _, 4, rfl, z1, innerPg_kind _ _, .inr rfl, fun H2 e2 => ?_⟩
        refine ⟨_, rfl, ifF (by decide) ?_⟩
        refine ⟨_, rfl, sp_parts (E := E0) (z1.same e2) hge (by rw [List.length_map]; exact hl1) (by rw [List.length_map]; exact hz) (nums_le own' (by omega)) fun u3 H3 e3 z3 => ?_⟩
        obtain ⟨t3, x3, y3, rfl, ht3, hx3, hy3⟩ := z3
        refine ⟨t3, _, rfl, SqT.of ht3, rfl, _, _, rfl, _, _, rfl, rfl, ?_⟩
        have e13 := (e1.trans e2).trans e3
        have h5 := len_of_lsz hge
        have hz' : lsz wl + 2 * cs.length ≤ 116 := hz
        refine ⟨_, rfl, _, rfl, x3, v, wl, e, rfl, hx3, hv.same e13, by omega, fun H4 e4 => ?_⟩
        have e14 := e13.trans e4
        obtain ⟨c, hc⟩ := child_there hl1 e
        obtain ⟨ya, rfl, hya⟩ := hy3
        refine ⟨_, rfl, _, rfl, _, rfl, ya, _, _, _, rfl, rfl, SqL.of (e4 _ _ hya), atI_nat (nv_map_get hc), _, rfl, ?_⟩
        obtain ⟨A', B', ec1, ec2, ec3, ec4⟩ := dec hc
        rw [put_eq hc, ec3, ec4] at k
        subst ec1
        have okc := hoks c (List.mem_of_getElem? hc)
        have okB : ∀ b ∈ B', Ok h b := fun b hb => hoks b (List.mem_append_right _ (List.mem_cons_of_mem _ hb))
        have hx' : firstL (first h) B' nx ≤ 65535 := by
          rcases firstL_in okB nx with q | q
          · omega
          · have : firstL (first h) B' nx ∈ numsL h (A' ++ c :: B') := by
              rw [numsL_app, numsL_cons]
              exact List.mem_append_right _ (List.mem_append_right _ q)
            have := own'.lt (List.mem_cons_of_mem _ this)
            omega
        have f1 := first_put h c e a okc
        have f2 := num_put h c e a
        have f3 := put_ok h c e a okc ge
        obtain ⟨j, j1, j2, _⟩ := put_cnt h c e a okc
        have M4 := hM.same e14
        refine ⟨h, by omega, pm, M, a, c, firstL (first h) B' nx, v, e, rfl, M4, hA, ((repLs_app A' (c :: B') nx M).mp hreps).2.1, okc, ge, hv.same e14, kid_own own', by omega, hx', fun u H5 M1 b5 q5 st r5 z5 => ?_⟩
        generalize put h c e a = pc at *
        obtain ⟨⟨c', o⟩, a1⟩ := pc
        have hy5 := M4.keep b5 (e4 _ _ hya) trivial
        have hx5 := M4.keepEL b5 (hx3.same e4)
        have b05 := (But.of e14).trans b5
        cases o with
        | none =>
          obtain rfl : u = .non := z5
          refine ⟨_, rfl, rfl, _, rfl, ifT rfl ?_⟩
          have pn := put_none (ws := wl) own' hrep st r5 f1 f2
          exact k .non H5 M1 b05 q5 pn.1 pn.2 rfl
        | some p =>
          obtain ⟨w1, t⟩ := p
          obtain ⟨tt, x5, rfl, htt, hx5'⟩ := z5
          have htt : H5 tt = some (.tup [x5, .int ((num t : Nat) : Int)]) := htt
          refine ⟨_, rfl, rfl, _, rfl, ifF (fun q => by cases q) ?_⟩
          refine ⟨_, rfl, tt, _, rfl, SqT.of htt, rfl, _, _, rfl, _, _, rfl, rfl, ?_⟩
          refine ⟨_, rfl, _, rfl, _, _, rfl, rfl, _, rfl, ya, _, rfl, SqL.of hy5, fun p1 hp1 => ?_⟩
          have s1 := L2.Same.new1 (o := .lst (cutV (nv ((A' ++ c :: B').map num)) none (some (((place wl e : Nat) : Int) + 1)))) hp1
          refine ⟨p1, _, rfl, .inr (SqL.of upd_same), _, rfl, ?_⟩
          refine ⟨_, rfl, _, rfl, _, _, rfl, rfl, _, rfl, ya, _, rfl, SqL.of (s1 _ _ hy5), fun p2 hp2 => ?_⟩
          have s2 := s1.new (o := .lst (cutV (nv ((A' ++ c :: B').map num)) (some (((place wl e : Nat) : Int) + 1)) none)) hp2
          refine ⟨p2, _, rfl, .inr (SqL.of upd_same), ?_⟩
          have eN : cutV (nv ((A' ++ c :: B').map num)) none (some (((place wl e : Nat) : Int) + 1)) ++ V.int ((num t : Nat) : Int) :: (cutV (nv ((A' ++ c :: B').map num)) (some (((place wl e : Nat) : Int) + 1)) none ++ []) = nv ((A' ++ c' :: t :: B').map num) := by
            rw [nv_splice, ← ec2, late_nums (t := t) f2]
          have gw := (f3.2 _ rfl).1
          have lf := late_fits (c' := c') (t := t) (i := place wl e) hok gw
          have hlen : (A' ++ c' :: t :: B').length ≤ 100 := by
            have := lf.2.2
            unfold isz at this
            omega
          refine ⟨?_, fun p3 hp3 => ?_⟩
          · have q := congrArg List.length eN
            rw [nv_len, List.length_map] at q
            exact Nat.le_trans (Nat.le_of_eq q) (sz_of (by omega))
          rw [eN]
          have s3 := s2.new (o := .lst (nv ((A' ++ c' :: t :: B').map num))) hp3
          have hz3 : upd (upd (upd H5 p1 (.lst (cutV (nv ((A' ++ c :: B').map num)) none (some (((place wl e : Nat) : Int) + 1))))) p2 (.lst (cutV (nv ((A' ++ c :: B').map num)) (some (((place wl e : Nat) : Int) + 1)) none))) p3 (.lst (nv ((A' ++ c' :: t :: B').map num))) p3 = some (.lst (nv ((A' ++ c' :: t :: B').map num))) := upd_same
          generalize upd (upd (upd H5 p1 (.lst (cutV (nv ((A' ++ c :: B').map num)) none (some (((place wl e : Nat) : Int) + 1))))) p2 (.lst (cutV (nv ((A' ++ c :: B').map num)) (some (((place wl e : Nat) : Int) + 1)) none))) p3 (.lst (nv ((A' ++ c' :: t :: B').map num))) = H6 at *
          obtain ⟨xa, xs, rfl, hxa, hxs⟩ := hx5.same s3
          refine ⟨_, rfl, _, rfl, ?_⟩
          refine ⟨_, rfl, _, rfl, _, rfl, xa, _, rfl, SqL.of hxa, fun p4 hp4 => ?_⟩
          have s4 := L2.Same.new1 (o := .lst (cutV xs none (some ((place wl e : Nat) : Int)))) hp4
          refine ⟨p4, _, rfl, .inr (SqL.of upd_same), _, rfl, ?_⟩
          refine ⟨_, rfl, _, rfl, _, rfl, xa, _, rfl, SqL.of (s4 _ _ hxa), fun p5 hp5 => ?_⟩
          have s5 := s4.new (o := .lst (cutV xs (some ((place wl e : Nat) : Int)) none)) hp5
          refine ⟨p5, _, rfl, .inr (SqL.of upd_same), ?_⟩
          refine ⟨?_, fun p6 hp6 => ?_⟩
          · rw [cut_to, cut_from, List.append_nil, List.length_append, List.length_cons, List.length_take, List.length_drop, hxs.length]
            exact sz_of (by omega)
          have s6 := s5.new (o := .lst (cutV xs none (some ((place wl e : Nat) : Int)) ++ x5 :: (cutV xs (some ((place wl e : Nat) : Int)) none ++ []))) hp6
          refine ⟨_, rfl, ?_⟩
          have s36 := s3.trans s6
          have ps := put_some (ws := wl) own' hrep st r5 f1
          have own1 := ps.1.owns own'
          have hf1 : a1.fresh ≤ 65534 := by
            have : a1.fresh = a.fresh + j := j2
            omega
          have wst := wnode_step ps.1.al own1 hf1 lf.1 lf.2.1 lf.2.2 ps.2
          refine ⟨pm, M1, a1, n, .ref p6, .ref p3, wl.take (place wl e) ++ w1 :: wl.drop (place wl e), (A' ++ c' :: t :: B').map num, rfl, q5.same s36, ps.1.al, own1.al hf1, by omega, ⟨p6, _, rfl, upd_same, ?_⟩, ⟨p3, rfl, s6 _ _ hz3⟩, lf.1, by rw [List.length_map]; exact lf.2.1, by rw [List.length_map]; exact lf.2.2, fun u H7 b7 q7 z7 => ?_⟩
          · rw [cut_to, cut_from, List.append_nil] at s6 s36 ⊢
            exact Paired.append (Paired.take _ (hxs.same s6)) (.cons (hx5'.same s36) (Paired.drop _ (hxs.same s6)))
          rw [wiM_out] at z7
          exact k u H7 _ ((b05.trans (.of s36)).trans b7) q7 (ps.1.trans wst.1) wst.2 z7
end
end K7
namespace K7
open PySem PySem.Spec PyProof.Rows L2
theorem iteZ {α : Type} {c : Prop} [Decidable c] {x y : α} {Q : α → Prop} (h1 : c → Q x) (h2 : ¬ c → Q y) : Q (if c then x else y) := by
  split
  · rename_i h; exact h1 h
  · rename_i h; exact h2 h
section
variable {P : Program} {w : World} {K : PySem.W.Frag} {mg : Str → Option Value} {base : Heap} {C : Addr}
def spSmall : Sp := fun vs H Q _ => ∃ v h, ∃ t : Tr h, ∃ nx, vs = [v] ∧ IsI H v (pgT h t nx) ∧ Ok h t ∧ (∀ m ∈ nums h t, m ≤ 65535) ∧ ∀ H', Same H H' → Q (.bl (decide (tsz t < 30))) H'
abbrev s_is_small : Stmt := top 57
abbrev N_is_small : List Str := ["page", "walls", "children"]
theorem sc_is_small : FnScope N_is_small ["page"] (defScope s_is_small) := ⟨rfl, rfl, rfl, by decide +kernel, rfl, by decide +kernel, by decide +kernel⟩
theorem ok_is_small (F : At K mg "is_small" s_is_small) (T : Txt K mg C) (D_is_leaf : Df P w K mg base "is_leaf" 3 ["page"] spIsLeaf) (D_inner_parts : Df P w K mg base "inner_parts" 3 ["page"] spParts) (D_inner_size : Df P w K mg base "inner_size" 3 ["walls", "children"] spIsz) (D_leaf_size : Df P w K mg base "leaf_size" 2 ["entries"] spLsz) (D_leaf_entries : Df P w K mg base "leaf_entries" 3 ["page"] spLeafE) : Df P w K mg base "is_small" 4 ["page"] spSmall := by
  refine F.df sc_is_small (fun _ _ _ _ _ _ us hl => match us, hl with | [_], _ => rfl) (fun vs H Q E h => ?_) (fun f cdv A outer s H vs Q E hr h => ?_)
  · obtain ⟨v, h, t, nx, rfl, _⟩ := h; rfl
  · obtain ⟨v, h, t, nx, rfl, hv, ok, hm, k⟩ := h
    refine ⟨_, (pss_cons (ps_if (pt_val (pe_cd D_is_leaf (hr.mono (by omega)) (pa_cons (pv 0) pa_nil)))
  (pss_one (ps_ret (pe_cmpR op_lt (pe_cd D_leaf_size (hr.mono (by omega)) (pa_cons (pe_cd D_leaf_entries (hr.mono (by omega)) (pa_cons (pv 0) pa_nil)) pa_nil)) (pe_glI T.c_FEW) (nomark _))))
  pss_nil)
  (pss_cons (ps_asg (pe_cd D_inner_parts (hr.mono (by omega)) (pa_cons (pv 0) pa_nil)) (pg_tup (by rfl) (pgs_cons (pg_name (i := 1) sc_is_small.nd rfl (Or.inl rfl)) (pgs_cons (pg_name (i := 2) sc_is_small.nd rfl (Or.inl rfl)) pgs_nil))))
  (pss_one (ps_ret (pe_cmpR op_lt (pe_cd D_inner_size (hr.mono (by omega)) (pa_cons (pv 1) (pa_cons (pv 2) pa_nil))) (pe_glI T.c_FEW) (nomark _)))))), ?_⟩
    cases h with
    | zero =>
      obtain ⟨n, es⟩ := t
      obtain ⟨hz, hge⟩ := ok
      have h5 := len_of_lsz hge
      refine ⟨_, rfl, v, _, 3, rfl, hv, leafPg_kind es nx, .inl rfl, fun H2 e2 => ?_⟩
      refine ⟨_, rfl, ifT rfl ?_⟩
      refine ⟨_, rfl, v, es, nx, rfl, hv.same e2, hge, hz, fun l H3 e3 z3 => ?_⟩
      refine ⟨l, es, rfl, z3.1, by omega, fun H4 e4 => ?_⟩
      refine ⟨_, _, rfl, rfl, ?_⟩
      have e : decide (((lsz es : Nat) : Int) < 30) = decide (tsz (leaf n es) < 30) := by
        show _ = decide (lsz es < 30)
        by_cases c : lsz es < 30
        · rw [decide_eq_true c, decide_eq_true (by omega)]
        · rw [decide_eq_false c, decide_eq_false (by omega)]
      show Q (.bl (decide (((lsz es : Nat) : Int) < 30))) H4
      rw [e]
      exact k _ ((e2.trans e3).trans e4)
    | succ h =>
      obtain ⟨n, wl, cs⟩ := t
      obtain ⟨hl, hz, hge, hoks⟩ := ok
      have h5 := len_of_lsz hge
      have hz' : lsz wl + 2 * cs.length ≤ 116 := hz
      refine ⟨_, rfl, v, _, 4, rfl, hv, innerPg_kind _ _, .inr rfl, fun H2 e2 => ?_⟩
      refine ⟨_, rfl, ifF (by decide) ?_⟩
      refine ⟨_, rfl, sp_parts (E := E0) (cs := cs.map num) (ws := wl) (hv.same e2) hge (by rw [List.length_map]; exact hl) (by rw [List.length_map]; exact hz) (fun d hd => ?_) fun u3 H3 e3 z3 => ?_⟩
      · obtain ⟨c, hc, rfl⟩ := List.mem_map.mp hd
        exact hm _ (List.mem_cons_of_mem _ (List.mem_flatten.mpr ⟨nums h c, List.mem_map.mpr ⟨c, hc, rfl⟩, num_mem h c⟩))
      obtain ⟨t3, x3, y3, rfl, ht3, hx3, hy3⟩ := z3
      refine ⟨t3, _, rfl, SqT.of ht3, rfl, _, _, rfl, _, _, rfl, rfl, ?_⟩
      obtain ⟨ya, rfl, hya⟩ := hy3
      refine ⟨_, rfl, _, rfl, x3, ya, _, wl, rfl, hx3, hya, by omega, fun H4 e4 => ?_⟩
      refine ⟨_, _, rfl, rfl, ?_⟩
      rw [nv_len, List.length_map]
      have e : decide (((isz wl cs.length : Nat) : Int) < 30) = decide (tsz (node n wl cs) < 30) := by
        show _ = decide (isz wl cs.length < 30)
        by_cases c : isz wl cs.length < 30
        · rw [decide_eq_true c, decide_eq_true (by omega)]
        · rw [decide_eq_false c, decide_eq_false (by omega)]
      show Q (.bl (decide (((isz wl cs.length : Nat) : Int) < 30))) H4
      rw [e]
      exact k _ ((e2.trans e3).trans e4)
def spJoin2 (C : Addr) : Sp := fun vs H Q _ => ∃ pm M a x w h, ∃ c d : Tr h, ∃ nx, vs = [.ref pm, x, .int (num c : Int), .int (num d : Int)] ∧ IsPM C H pm M ∧ AL M a ∧ repP h c (first h d) M ∧ repP h d nx M ∧ Ok h c ∧ Ok h d ∧ GE w ∧ IsE H x w ∧ Own (nums h c ++ nums h d) a ∧ a.fresh ≤ 65534 ∧ nx ≤ 65535 ∧
  (tsz (joinT h c w d) ≤ 116 → ∀ H' M', But [pm] H H' → IsPM C H' pm M' → Step M M' a (a.give (num d)) (nums h c ++ nums h d) (nums h (joinT h c w d)) → repP h (joinT h c w d) nx M' → Q (.bl true) H') ∧
  (¬ tsz (joinT h c w d) ≤ 116 → ∀ H', Same H H' → Q (.bl false) H')
abbrev s_join_two : Stmt := top 59
abbrev N_join_two : List Str := ["pages", "wall", "left", "right", "one", "other", "entries", "walls", "children"]
theorem sc_join_two : FnScope N_join_two ["pages", "wall", "left", "right"] (defScope s_join_two) := ⟨rfl, rfl, rfl, by decide +kernel, rfl, by decide +kernel, by decide +kernel⟩
theorem ok_join_two (F : At K mg "join_two" s_join_two) (T : Txt K mg C) (D_is_leaf : Df P w K mg base "is_leaf" 3 ["page"] spIsLeaf) (D_leaf_size : Df P w K mg base "leaf_size" 2 ["entries"] spLsz) (D_leaf_page : Df P w K mg base "leaf_page" 4 ["entries", "number"] spLeafP) (D_inner_size : Df P w K mg base "inner_size" 3 ["walls", "children"] spIsz) (D_inner_page : Df P w K mg base "inner_page" 4 ["walls", "children"] spInnerP) (D_leaf_entries : Df P w K mg base "leaf_entries" 3 ["page"] spLeafE) (D_leaf_next : Df P w K mg base "leaf_next" 3 ["page"] spLeafN) (D_inner_parts : Df P w K mg base "inner_parts" 3 ["page"] spParts) (M_release : Dm P w K mg base C "release" 9 ["self", "number"] (spRelease C)) (M_read : Dm P w K mg base C "read" 4 ["self", "number"] (spRead C)) (M_write : Dm P w K mg base C "write" 5 ["self", "number", "page"] (spWrite C)) : Df P w K mg base "join_two" 10 ["pages", "wall", "left", "right"] (spJoin2 C) := by
  refine F.df sc_join_two (fun _ _ _ _ _ _ us hl => match us, hl with | [_, _, _, _], _ => rfl) (fun vs H Q E h => ?_) (fun f cdv A outer s H vs Q E hr h => ?_)
  · obtain ⟨pm, M, a, x, w, h, c, d, nx, rfl, _⟩ := h; rfl
  · obtain ⟨pm, M, a, x, w1, h, c, d, nx, rfl, hM, hA, r1, r2, okc, okd, gw, hx, own, hf, hnx, kt, kf⟩ := h
    refine ⟨_, (pss_cons (ps_par (i := 4) (j := 5) (by rfl) sc_join_two.nd rfl rfl (by decide) rfl rfl (pa_cons (pe_md T.cl M_read (hr.mono (by omega)) (pv 0) (pa_cons (pv 2) pa_nil)) (pa_cons (pe_md T.cl M_read (hr.mono (by omega)) (pv 0) (pa_cons (pv 3) pa_nil)) pa_nil)) (by rfl))
  (pss_cons (ps_if (pt_val (pe_cd D_is_leaf (hr.mono (by omega)) (pa_cons (pv 4) pa_nil)))
  (pss_cons (ps_set (i := 6) sc_join_two.nd rfl (Or.inl rfl) (pe_lst (StX.pa_star (pe_cd D_leaf_entries (hr.mono (by omega)) (pa_cons (pv 4) pa_nil)) (StX.pa_star (pe_cd D_leaf_entries (hr.mono (by omega)) (pa_cons (pv 5) pa_nil)) pa_nil))))
  (pss_cons (ps_if (pt_cmpR op_gt (pe_cd D_leaf_size (hr.mono (by omega)) (pa_cons (pv 6) pa_nil)) (pe_glI T.c_ROOM) (nomark _))
  (pss_one (ps_ret pe_bl))
  pss_nil)
  (pss_one (ps_expr (pe_md T.cl M_write (hr.mono (by omega)) (pv 0) (pa_cons (pv 2) (pa_cons (pe_cd D_leaf_page (hr.mono (by omega)) (pa_cons (pv 6) (pa_cons (pe_cd D_leaf_next (hr.mono (by omega)) (pa_cons (pv 5) pa_nil)) pa_nil))) pa_nil)))))))
  (pss_cons (ps_set (i := 7) sc_join_two.nd rfl (Or.inl rfl) (pe_lst (StX.pa_star (pe_ix ix_tup (pe_cd D_inner_parts (hr.mono (by omega)) (pa_cons (pv 4) pa_nil)) pe_int (fun _ _ => rfl)) (pa_cons (pv 1) (StX.pa_star (pe_ix ix_tup (pe_cd D_inner_parts (hr.mono (by omega)) (pa_cons (pv 5) pa_nil)) pe_int (fun _ _ => rfl)) pa_nil)))))
  (pss_cons (ps_set (i := 8) sc_join_two.nd rfl (Or.inl rfl) (pe_lst (StX.pa_star (pe_ix ix_tup (pe_cd D_inner_parts (hr.mono (by omega)) (pa_cons (pv 4) pa_nil)) pe_int (fun _ _ => rfl)) (StX.pa_star (pe_ix ix_tup (pe_cd D_inner_parts (hr.mono (by omega)) (pa_cons (pv 5) pa_nil)) pe_int (fun _ _ => rfl)) pa_nil))))
  (pss_cons (ps_if (pt_cmpR op_gt (pe_cd D_inner_size (hr.mono (by omega)) (pa_cons (pv 7) (pa_cons (pv 8) pa_nil))) (pe_glI T.c_ROOM) (nomark _))
  (pss_one (ps_ret pe_bl))
  pss_nil)
  (pss_one (ps_expr (pe_md T.cl M_write (hr.mono (by omega)) (pv 0) (pa_cons (pv 2) (pa_cons (pe_cd D_inner_page (hr.mono (by omega)) (pa_cons (pv 7) (pa_cons (pv 8) pa_nil))) pa_nil)))))))))
  (pss_cons (ps_expr (pe_md T.cl M_release (hr.mono (by omega)) (pv 0) (pa_cons (pv 3) pa_nil)))
  (pss_one (ps_ret pe_bl))))), ?_⟩
    obtain ⟨dx, dd, hpm⟩ := hM.at_
    have lc := own.lt (List.mem_append_left _ (num_mem h c))
    have ld := own.lt (List.mem_append_right _ (num_mem h d))
    have js := join_step h c w1 d nx M a hA own hf okd r1 r2
    have oc : Own (nums h c) a := own.sub fun x => by rw [List.count_append]; omega
    have od : Own (nums h d) a := own.sub fun x => by rw [List.count_append]; omega
    have hmd : num d ∈ nums h c ++ nums h d := List.mem_append_right _ (num_mem h d)
    have ho2 : num c ∈ nums h c ++ nums h d := List.mem_append_left _ (num_mem h c)
    have hj := repP_pg js.2
    have al1 := (Step.set hA own ho2 (pgT h (joinT h c w1 d) nx)).al
    have nd := own.ne0 hmd
    have nfd := own.not_free hmd
    refine ⟨_, rfl, pm, _, _, rfl, hpm, pf_no dd (by decide +kernel), _, rfl, pm, M, num c, _, rfl, hM, by omega, repP_pg r1, fun g H1 e1 z1 => ?_⟩
    refine ⟨_, rfl, pm, _, _, rfl, e1 _ _ hpm, pf_no dd (by decide +kernel), _, rfl, pm, M, num d, _, rfl, hM.same e1, by omega, repP_pg r2, fun g2 H2 e2 z2 => ?_⟩
    have z1 := z1.same e2
    have e12 := e1.trans e2
    refine ⟨_, _, rfl, ?_⟩
    cases h with
    | zero =>
      obtain ⟨n, es⟩ := c
      obtain ⟨m, fs⟩ := d
      obtain ⟨hz1, hge1⟩ := okc
      obtain ⟨hz2, hge2⟩ := okd
      have l1 := len_of_lsz hge1
      have l2 := len_of_lsz hge2
      refine ⟨_, rfl, g, _, 3, rfl, z1, leafPg_kind es _, .inl rfl, fun H3 e3 => ?_⟩
      refine ⟨_, rfl, ifT rfl ?_⟩
      refine ⟨_, rfl, g, es, m, rfl, z1.same e3, hge1, hz1, fun l4 H4 e4 z4 => ?_⟩
      obtain ⟨⟨a4, x4, rfl, ha4, hx4⟩, _⟩ := z4
      refine ⟨a4, _, rfl, .inr (SqL.of ha4), ?_⟩
      refine ⟨_, rfl, g2, fs, nx, rfl, (z2.same e3).same e4, hge2, hz2, fun l5 H5 e5 z5 => ?_⟩
      obtain ⟨⟨a5, x5, rfl, ha5, hx5⟩, _⟩ := z5
      refine ⟨a5, _, rfl, .inr (SqL.of ha5), ?_⟩
      refine ⟨?_, fun p hp => ?_⟩
      · rw [List.length_append, List.append_nil, hx4.length, hx5.length]
        exact sz_of (by omega)
      have s6 := L2.Same.new1 (o := .lst (x4 ++ (x5 ++ []))) hp
      have hE : IsEL (upd H5 p (.lst (x4 ++ (x5 ++ [])))) (.ref p) (es ++ fs) := by
        rw [List.append_nil] at s6 ⊢
        exact ⟨p, _, rfl, upd_same, Paired.append ((hx4.same e5).same s6) (hx5.same s6)⟩
      generalize upd H5 p (.lst (x4 ++ (x5 ++ []))) = H6 at *
      have e26 := ((e3.trans e4).trans e5).trans s6
      have ge' : ∀ e ∈ es ++ fs, GE e := fun e he => (List.mem_append.mp he).elim (hge1 e) (hge2 e)
      refine ⟨_, rfl, .ref p, es ++ fs, rfl, hE, by rw [List.length_append]; omega, fun H7 e7 => ?_⟩
      have et : tsz (joinT 0 ⟨n, es⟩ w1 ⟨m, fs⟩) = lsz (es ++ fs) := rfl
      rw [et] at kt kf
      refine ⟨_, _, rfl, rfl, ?_⟩
      by_cases c : lsz (es ++ fs) ≤ 116
      · refine ⟨_, rfl, ifF (by omega) ?_⟩
        refine ⟨_, rfl, pm, _, _, rfl, e7 _ _ (e26 _ _ (e12 _ _ hpm)), pf_no dd (by decide +kernel), _, rfl, ?_⟩
        refine ⟨_, rfl, _, rfl, g2, fs, nx, rfl, (z2.same e26).same e7, hz2, hnx, fun H8 e8 => ?_⟩
        refine ⟨.ref p, es ++ fs, nx, rfl, (hE.same e7).same e8, ge', c, hnx, fun u H9 e9 z9 => ?_⟩
        have e19 := ((e12.trans e26).trans e7).trans (e8.trans e9)
        refine ⟨pm, _, n, u, _, rfl, hM.same e19, by have : n < a.fresh := lc; omega, z9, leafPg_ok ge' c, fun HA bA qA => ?_⟩
        obtain ⟨dx1, d1, hpm1⟩ := qA.at_
        have lmm : m < a.fresh := ld
        have ndm : m ≠ 0 := nd
        refine ⟨_, rfl, pm, _, _, rfl, hpm1, pf_no d1 (by decide +kernel), _, rfl, pm, _, a, m, rfl, qA, al1, own.al hf, by omega, lmm, nfd, fun HB bB qB => ?_⟩
        exact kt c HB _ (((But.of e19).trans bA).trans bB) qB js.1 js.2
      · refine ⟨_, rfl, ifT (by omega) ?_⟩
        exact kf c _ ((e12.trans e26).trans e7)
    | succ h =>
      obtain ⟨n, wl, cs⟩ := c
      obtain ⟨m, us, ds⟩ := d
      obtain ⟨hl1, hz1, hge1, hok1⟩ := okc
      obtain ⟨hl2, hz2, hge2, hok2⟩ := okd
      have l1 := len_of_lsz hge1
      have l2 := len_of_lsz hge2
      have hz1' : lsz wl + 2 * cs.length ≤ 116 := hz1
      have hz2' : lsz us + 2 * ds.length ≤ 116 := hz2
      have oc' : Own (n :: numsL h cs) a := oc
      have od' : Own (m :: numsL h ds) a := od
      have pl1 : (cs.map num).length = wl.length + 1 := by rw [List.length_map]; exact hl1
      have pl2 : (ds.map num).length = us.length + 1 := by rw [List.length_map]; exact hl2
      have pz1 : isz wl (cs.map num).length ≤ 116 := by rw [List.length_map]; exact hz1
      have pz2 : isz us (ds.map num).length ≤ 116 := by rw [List.length_map]; exact hz2
      have pn1 := nums_le oc' (by omega)
      have pn2 := nums_le od' (by omega)
      refine ⟨_, rfl, g, _, 4, rfl, z1, innerPg_kind _ _, .inr rfl, fun H3 e3 => ?_⟩
      refine ⟨_, rfl, ifF (by decide) ?_⟩
      -- the walls
      refine ⟨_, rfl, sp_parts (E := E0) (z1.same e3) hge1 pl1 pz1 pn1 fun u4 H4 e4 z4 => ?_⟩
      obtain ⟨t4, x4, y4, rfl, ht4, hx4, hy4⟩ := z4
      refine ⟨t4, _, 0, _, rfl, rfl, SqT.of ht4, atI_nat (j := 0) rfl, ?_⟩
      obtain ⟨a4, v4, rfl, ha4, hv4⟩ := hx4
      refine ⟨a4, _, rfl, .inr (SqL.of ha4), _, rfl, ?_⟩
      have z2a := (z2.same e3).same e4
      refine ⟨_, rfl, sp_parts (E := E0) z2a hge2 pl2 pz2 pn2 fun u5 H5 e5 z5 => ?_⟩
      obtain ⟨t5, x5, y5, rfl, ht5, hx5, hy5⟩ := z5
      refine ⟨t5, _, 0, _, rfl, rfl, SqT.of ht5, atI_nat (j := 0) rfl, ?_⟩
      obtain ⟨a5, v5, rfl, ha5, hv5⟩ := hx5
      refine ⟨a5, _, rfl, .inr (SqL.of ha5), ?_⟩
      refine ⟨?_, fun p hp => ?_⟩
      · rw [List.length_append, List.length_cons, List.append_nil, hv4.length, hv5.length]
        exact sz_of (by omega)
      have s6 := L2.Same.new1 (o := .lst (v4 ++ x :: (v5 ++ []))) hp
      have e25 := (e3.trans e4).trans e5
      have hE : IsEL (upd H5 p (.lst (v4 ++ x :: (v5 ++ [])))) (.ref p) (wl ++ w1 :: us) := by
        rw [List.append_nil] at s6 ⊢
        exact ⟨p, _, rfl, upd_same, Paired.append ((hv4.same e5).same s6) (.cons (((hx.same e12).same e25).same s6) (hv5.same s6))⟩
      generalize upd H5 p (.lst (v4 ++ x :: (v5 ++ []))) = H6 at *
      have e26 := e25.trans s6
      -- the children
      refine ⟨_, rfl, sp_parts (E := E0) (z1.same e26) hge1 pl1 pz1 pn1 fun u7 H7 e7 z7 => ?_⟩
      obtain ⟨t7, x7, y7, rfl, ht7, hx7, hy7⟩ := z7
      refine ⟨t7, _, 1, _, rfl, rfl, SqT.of ht7, atI_nat (j := 1) rfl, ?_⟩
      obtain ⟨a7, rfl, ha7⟩ := hy7
      refine ⟨a7, _, rfl, .inr (SqL.of ha7), ?_⟩
      refine ⟨_, rfl, sp_parts (E := E0) ((z2.same e26).same e7) hge2 pl2 pz2 pn2 fun u8 H8 e8 z8 => ?_⟩
      obtain ⟨t8, x8, y8, rfl, ht8, hx8, hy8⟩ := z8
      refine ⟨t8, _, 1, _, rfl, rfl, SqT.of ht8, atI_nat (j := 1) rfl, ?_⟩
      obtain ⟨a8, rfl, ha8⟩ := hy8
      refine ⟨a8, _, rfl, .inr (SqL.of ha8), ?_⟩
      have eN : nv (cs.map num) ++ (nv (ds.map num) ++ []) = nv ((cs ++ ds).map num) := by
        rw [List.append_nil, List.map_append, nv_app]
      have hlN : (nv ((cs ++ ds).map num)).length = (cs ++ ds).length := by rw [nv_len, List.length_map]
      refine ⟨?_, fun q hq => ?_⟩
      · rw [eN, hlN, List.length_append]
        exact sz_of (by omega)
      rw [eN]
      have e28 := ((e26.trans e7).trans e8).new (o := .lst (nv ((cs ++ ds).map num))) hq
      have hE9 := (hE.same (e7.trans e8)).same (L2.Same.new1 (o := .lst (nv ((cs ++ ds).map num))) hq)
      have hq9 : upd H8 q (.lst (nv ((cs ++ ds).map num))) q = some (.lst (nv ((cs ++ ds).map num))) := upd_same
      generalize upd H8 q (.lst (nv ((cs ++ ds).map num))) = H9 at *
      have ge' : ∀ e ∈ wl ++ w1 :: us, GE e := fun e he => by
        rcases List.mem_append.mp he with m | m
        · exact hge1 e m
        · rcases List.mem_cons.mp m with m | m
          · rw [m]; exact gw
          · exact hge2 e m
      refine ⟨_, rfl, _, rfl, .ref p, q, _, wl ++ w1 :: us, rfl, hE9, hq9, by rw [List.length_append, List.length_cons]; omega, fun HA eA => ?_⟩
      have et : tsz (joinT (h + 1) ⟨n, wl, cs⟩ w1 ⟨m, us, ds⟩) = isz (wl ++ w1 :: us) (cs ++ ds).length := rfl
      rw [et] at kt kf
      rw [hlN]
      refine ⟨_, _, rfl, rfl, ?_⟩
      by_cases c : isz (wl ++ w1 :: us) (cs ++ ds).length ≤ 116
      · refine ⟨_, rfl, ifF (by omega) ?_⟩
        have hlc : ((cs ++ ds).map num).length = (wl ++ w1 :: us).length + 1 := by
          rw [List.length_map, List.length_append, List.length_append, List.length_cons]; omega
        have hzc : isz (wl ++ w1 :: us) ((cs ++ ds).map num).length ≤ 116 := by rw [List.length_map]; exact c
        refine ⟨_, rfl, pm, _, _, rfl, eA _ _ (e28 _ _ (e12 _ _ hpm)), pf_no dd (by decide +kernel), _, rfl, ?_⟩
        refine ⟨_, rfl, _, rfl, sp_innerP (E := E0) (hE9.same eA) ⟨q, rfl, eA _ _ hq9⟩ ge' hlc hzc fun u HB eB zB => ?_⟩
        have e1B := ((e12.trans e28).trans eA).trans eB
        have lnn : n < a.fresh := lc
        refine ⟨pm, _, n, u, _, rfl, hM.same e1B, by omega, zB, innerPg_ok ge' hlc hzc, fun HC bC qC => ?_⟩
        obtain ⟨dx1, d1, hpm1⟩ := qC.at_
        have lmm : m < a.fresh := ld
        have ndm : m ≠ 0 := nd
        refine ⟨_, rfl, pm, _, _, rfl, hpm1, pf_no d1 (by decide +kernel), _, rfl, pm, _, a, m, rfl, qC, al1, own.al hf, by omega, lmm, nfd, fun HD bD qD => ?_⟩
        exact kt c HD _ (((But.of e1B).trans bC).trans bD) qD js.1 js.2
      · refine ⟨_, rfl, ifT (by omega) ?_⟩
        exact kf c _ ((e12.trans e28).trans eA)
end
end K7
namespace K7
open PySem PySem.Spec PyProof.Rows L2
theorem tryJoin_eq {h n : Nat} {ws : List Ent} {cs : List (Tr h)} {l : Nat} {a : Al} {w : Ent} {c d : Tr h} (ew : ws[l]? = some w) (ec : cs[l]? = some c) (ed : cs[l + 1]? = some d) :
    tryJoin n ws cs l a = if tsz (joinT h c w d) ≤ 116 then some (node n (ws.take l ++ ws.drop (l + 1)) (cs.take l ++ joinT h c w d :: cs.drop (l + 2)), a.give (num d)) else none := by
  unfold tryJoin
  rw [ew, ec, ed]
theorem joinAts_cons {h n : Nat} {ws : List Ent} {cs : List (Tr h)} {a : Al} (l : Nat) (ls : List Nat) : joinAts n ws cs a (l :: ls) = match tryJoin n ws cs l a with | some r => r | none => joinAts n ws cs a ls := rfl
theorem two_reps {h n : Nat} {ws : List Ent} {cs : List (Tr h)} {l nx : Nat} {M : Mem} {c d : Tr h} (ec : cs[l]? = some c) (ed : cs[l + 1]? = some d) (hr : repP (h + 1) (node n ws cs) nx M) :
    repP h c (first h d) M ∧ repP h d (firstL (first h) (cs.drop (l + 2)) nx) M := by
  have q := hr.2
  rw [join_cut ec ed, repLs_app] at q
  exact ⟨q.2.1, q.2.2.1⟩
theorem tryJoin_step {h n : Nat} {ws : List Ent} {cs : List (Tr h)} {l nx : Nat} {M M1 : Mem} {a : Al} {w : Ent} {c d : Tr h} (ok : Ok (h + 1) (node n ws cs)) (o : Own (n :: numsL h cs) a) (ec : cs[l]? = some c) (ed : cs[l + 1]? = some d) (hr : repP (h + 1) (node n ws cs) nx M)
    (s : Step M M1 a (a.give (num d)) (nums h c ++ nums h d) (nums h (joinT h c w d))) (rj : repP h (joinT h c w d) (firstL (first h) (cs.drop (l + 2)) nx) M1) (ws' : List Ent) :
    Step M (setM M1 n (innerPg ws' ((cs.take l ++ joinT h c w d :: cs.drop (l + 2)).map num))) a (a.give (num d)) (nums (h + 1) (node n ws cs)) (nums (h + 1) (node n ws' (cs.take l ++ joinT h c w d :: cs.drop (l + 2)))) ∧
      repP (h + 1) (node n ws' (cs.take l ++ joinT h c w d :: cs.drop (l + 2))) nx (setM M1 n (innerPg ws' ((cs.take l ++ joinT h c w d :: cs.drop (l + 2)).map num))) := by
  have okc := ok.2.2.2 c (List.mem_of_getElem? ec)
  have e0 := join_cut ec ed
  generalize hA' : cs.take l = A at *
  generalize hB' : cs.drop (l + 2) = B at *
  subst e0
  have k := kids (n := n) (A := A) (C := [c, d]) (C' := [joinT h c w d]) (B := B) (nx := nx) o (s.cnt (fun x => by rw [numsL_cons, numsL_cons, List.count_append, List.count_append, List.count_append]; simp [numsL]) (fun x => by rw [numsL_cons, List.count_append]; simp [numsL])) hr.2 ⟨rj, trivial⟩ (fun y => first_joinT h c w d okc)
  have o1 := k.1.owns o
  exact ⟨k.1.trans (Step.set k.1.al o1 List.mem_cons_self _), setM_same, repL_set o1.hd k.2.1⟩
theorem joins_own {h n : Nat} {cs : List (Tr h)} {l : Nat} {a : Al} {c d : Tr h} (o : Own (n :: numsL h cs) a) (ec : cs[l]? = some c) (ed : cs[l + 1]? = some d) : Own (nums h c ++ nums h d) a := by
  rw [join_cut ec ed] at o
  refine o.sub fun x => ?_
  rw [cnt_cons, numsL_app, numsL_cons, numsL_cons, List.count_append, List.count_append, List.count_append, List.count_append]
  omega
theorem nv_cut2 (N : List Nat) (i : Nat) {x : Nat} (hx : N[i]? = some x) (y : Nat) (e : x = y) : cutV (nv N) none (some ((i : Int) + 1)) ++ (cutV (nv N) (some ((i : Int) + 2)) none ++ []) = nv (N.take i ++ y :: N.drop (i + 2)) := by
  rw [show (i : Int) + 1 = ((i + 1 : Nat) : Int) by omega, show (i : Int) + 2 = ((i + 2 : Nat) : Int) by omega, cut_to, cut_from, List.append_nil, nv_app, nv_cons, nv_take, nv_drop, take_snoc (nv_get hx), e]
  simp
section
variable {P : Program} {w : World} {K : PySem.W.Frag} {mg : Str → Option Value} {base : Heap} {C : Addr}
def spJoinAt (C : Addr) : Sp := fun vs H Q _ => ∃ pm M a h, ∃ n : Nat, ∃ ws : List Ent, ∃ cs : List (Tr h), ∃ nx i : Nat, vs = [.ref pm, .int (n : Int), .int (i : Int)] ∧ IsPM C H pm M ∧ AL M a ∧ repP (h + 1) (node n ws cs) nx M ∧ Ok (h + 1) (node n ws cs) ∧ Own (nums (h + 1) (node n ws cs)) a ∧ a.fresh ≤ 65534 ∧ nx ≤ 65535 ∧ i ≤ ws.length ∧
  ∀ H' M', But [pm] H H' → IsPM C H' pm M' → Step M M' a (joinAts n ws cs a (lefts i ws.length)).2 (nums (h + 1) (node n ws cs)) (nums (h + 1) (joinAts n ws cs a (lefts i ws.length)).1) → repP (h + 1) (joinAts n ws cs a (lefts i ws.length)).1 nx M' → Q .non H'
abbrev s_join_at : Stmt := top 58
abbrev N_join_at : List Str := ["pages", "number", "at", "walls", "children", "left", "late", "one"]
theorem sc_join_at : FnScope N_join_at ["pages", "number", "at"] (defScope s_join_at) := ⟨rfl, rfl, rfl, by decide +kernel, rfl, by decide +kernel, by decide +kernel⟩
theorem ok_join_at (F : At K mg "join_at" s_join_at) (T : Txt K mg C) (D_inner_parts : Df P w K mg base "inner_parts" 3 ["page"] spParts) (D_join_two : Df P w K mg base "join_two" 10 ["pages", "wall", "left", "right"] (spJoin2 C)) (D_inner_page : Df P w K mg base "inner_page" 4 ["walls", "children"] spInnerP) (M_read : Dm P w K mg base C "read" 4 ["self", "number"] (spRead C)) (M_write : Dm P w K mg base C "write" 5 ["self", "number", "page"] (spWrite C)) : Df P w K mg base "join_at" 11 ["pages", "number", "at"] (spJoinAt C) := by
  refine F.df sc_join_at (fun _ _ _ _ _ _ us hl => match us, hl with | [_, _, _], _ => rfl) (fun vs H Q E h => ?_) (fun f cdv A outer s H vs Q E hr h => ?_)
  · obtain ⟨pm, M, a, h, n, ws, cs, nx, i, rfl, _⟩ := h; rfl
  · obtain ⟨pm, M, a, h, n, wl, cs, nx, i, rfl, hM, hA, hrep, hok, own, hf, hnx, hi, k⟩ := h
    refine ⟨_, (pss_cons (ps_asg (pe_cd D_inner_parts (hr.mono (by omega)) (pa_cons (pe_md T.cl M_read (hr.mono (by omega)) (pv 0) (pa_cons (pv 1) pa_nil)) pa_nil)) (pg_tup (by rfl) (pgs_cons (pg_name (i := 3) sc_join_at.nd rfl (Or.inr rfl)) (pgs_cons (pg_name (i := 4) sc_join_at.nd rfl (Or.inl rfl)) pgs_nil))))
  (pss_one (ps_for PassesOwn.never rfl (pi_list (pe_lc (own := [("one", 7)]) (g := gName 7) rfl sc_join_at.nd (pi_tup (pe_tup (pa_cons (pv 2) (pa_cons (pe_op op_sub (pv 2) pe_int) pa_nil)))) (blkOk_by (own := [("one", 7)]) (N := N_join_at) (sc := defScope s_join_at) (by decide +kernel)) (fun _ _ _ _ _ => pg_name (i := 7) sc_join_at.nd rfl (Or.inl rfl)) (fun _ _ _ _ _ => pts_one (pt_chain op_le op_lt pe_int (pv 7) (pe_callB (call_lenK K) (by rfl) T.len (by decide +kernel) (pa_cons (pv 3) pa_nil)))) (fun _ _ _ _ _ => (pv 7)))) (pg_name (i := 5) sc_join_at.nd rfl (Or.inl rfl))
  (pss_one (ps_if (pt_val (pe_cd D_join_two (hr.mono (by omega)) (pa_cons (pv 0) (pa_cons (pe_ix ix_list (pv 3) (pv 5) (fun _ _ => rfl)) (pa_cons (pe_ix ix_list (pv 4) (pv 5) (fun _ _ => rfl)) (pa_cons (pe_ix ix_list (pv 4) (pe_op op_add (pv 5) pe_int) (fun _ _ => rfl)) pa_nil))))))
  (pss_cons (ps_set (i := 6) sc_join_at.nd rfl (Or.inl rfl) (pe_lst (StX.pa_star (pe_slice sl_list (pv 3) po_none (po_some (pv 5))) (StX.pa_star (pe_slice sl_list (pv 3) (po_some (pe_op op_add (pv 5) pe_int)) po_none) pa_nil))))
  (pss_cons (ps_expr (pe_md T.cl M_write (hr.mono (by omega)) (pv 0) (pa_cons (pv 1) (pa_cons (pe_cd D_inner_page (hr.mono (by omega)) (pa_cons (pv 6) (pa_cons (pe_lst (StX.pa_star (pe_slice sl_list (pv 4) po_none (po_some (pe_op op_add (pv 5) pe_int))) (StX.pa_star (pe_slice sl_list (pv 4) (po_some (pe_op op_add (pv 5) pe_int)) po_none) pa_nil))) pa_nil))) pa_nil))))
  (pss_one ps_retN)))
  pss_nil))))), ?_⟩
    obtain ⟨dx, dd, hpm⟩ := hM.at_
    obtain ⟨hl1, hz, hge, hoks⟩ := id hok
    obtain ⟨hMn, hreps⟩ := id hrep
    have hn' : n < a.fresh := own.lt (num_mem (h + 1) (node n wl cs))
    have own' : Own (n :: numsL h cs) a := own
    have h5 := len_of_lsz hge
    have hz' : lsz wl + 2 * cs.length ≤ 116 := hz
    refine ⟨_, rfl, pm, _, _, rfl, hpm, pf_no dd (by decide +kernel), _, rfl, pm, M, n, _, rfl, hM, by omega, hMn, fun g H1 e1 z1 => ?_⟩
    refine sp_parts (E := E0) z1 hge (by rw [List.length_map]; exact hl1) (by rw [List.length_map]; exact hz) (nums_le own' (by omega)) fun u3 H2 e2 z3 => ?_
    obtain ⟨t3, x3, y3, rfl, ht3, hx3, hy3⟩ := z3
    refine ⟨t3, _, rfl, SqT.of ht3, rfl, _, _, rfl, _, _, rfl, rfl, ?_⟩
    obtain ⟨ya, rfl, hya⟩ := hy3
    obtain ⟨xa, xs, rfl, hxa, hxs⟩ := hx3
    have e12 := e1.trans e2
    -- the list of the left ones
    refine ⟨_, rfl, _, rfl, _, _, rfl, rfl, by show 2 ≤ sizeLine; decide, fun tp htp => ?_⟩
    have n3 := L2.Same.new1 (o := .tup [V.int ((i : Nat) : Int), V.int (((i : Nat) : Int) - 1)]) htp
    refine ⟨tp, rfl, ⟨_, SqT.of upd_same⟩, fun D hD => lc_tup (xs := [V.int ((i : Nat) : Int), V.int (((i : Nat) : Int) - 1)]) (fun j H' => Same (upd H2 tp (.tup [V.int ((i : Nat) : Int), V.int (((i : Nat) : Int) - 1)])) H' ∧ j ≤ 2 ∧ H' D = some (.lst (nv ((if 1 ≤ j ∧ i < wl.length then [i] else []) ++ (if 2 ≤ j ∧ 1 ≤ i then [i - 1] else []))))) ⟨L2.Same.new1 hD, Nat.zero_le _, ?_⟩ (fun j H' _ z => SqT.of (z.1 _ _ upd_same)) ?_ ?_⟩
    · rw [upd_same]
      simp
      rfl
    · intro j x H' hx ⟨z1, z2, z3⟩
      have fD : upd H2 tp (.tup [V.int ((i : Nat) : Int), V.int (((i : Nat) : Int) - 1)]) D = none := hD
      have hxa' := z1 _ _ (n3 _ _ hxa)
      have hj : j = 0 ∨ j = 1 := by
        have := (List.getElem?_eq_some_iff.mp hx).1
        simp at this
        omega
      refine ⟨rfl, ?_⟩
      rcases hj with rfl | rfl
      · obtain rfl : V.int ((i : Nat) : Int) = x := by simpa using hx
        refine ⟨_, rfl, _, _, rfl, rfl, _, rfl, ifT (by omega) ⟨_, rfl, _, wl.length, rfl, .inl ⟨_, SqL.of hxa', hxs.length.symm⟩, _, _, rfl, rfl, ?_⟩⟩
        refine ⟨_, rfl, ?_⟩
        by_cases c : i < wl.length
        · refine ibT (decide_eq_true (by omega)) ⟨_, rfl, _, z3, by simp; decide, L2.Same.mut z1 fD, by omega, ?_⟩
          rw [upd_same]
          simp [c]
          rfl
        · refine ibF (fun q => c (by have := of_decide_eq_true q; omega)) ⟨z1, by omega, ?_⟩
          rw [z3]
          simp [c]
      · obtain rfl : V.int (((i : Nat) : Int) - 1) = x := by simpa using hx
        by_cases c1 : 1 ≤ i
        · refine ⟨_, rfl, _, _, rfl, rfl, _, rfl, ifT (by omega) ⟨_, rfl, _, wl.length, rfl, .inl ⟨_, SqL.of hxa', hxs.length.symm⟩, _, _, rfl, rfl, ?_⟩⟩
          refine ⟨_, rfl, ?_⟩
          refine ibT (decide_eq_true (by omega)) ⟨_, rfl, _, z3, ?_, L2.Same.mut z1 fD, by omega, ?_⟩
          · rw [nv_len]
            split <;> simp <;> decide
          · rw [upd_same]
            have q : V.int (((i : Nat) : Int) - 1) = V.int ((i - 1 : Nat) : Int) := by
              congr 1
              omega
            rw [q, if_neg (show ¬ (2 ≤ 1 ∧ 1 ≤ i) by omega), if_pos (show 2 ≤ 1 + 1 ∧ 1 ≤ i from ⟨by omega, c1⟩), List.append_nil, nv_app]
            by_cases c : i < wl.length
            · rw [if_pos ⟨Nat.le_refl _, c⟩, if_pos ⟨by omega, c⟩]
              rfl
            · rw [if_neg (fun z => c z.2), if_neg (fun z => c z.2)]
              rfl
        · refine ⟨_, rfl, _, _, rfl, rfl, _, rfl, ifF (by omega) ⟨_, rfl, ibF (by simp) ⟨z1, by omega, ?_⟩⟩⟩
          rw [z3]
          simp [c1]
    · intro H3 ⟨e3, _, hD3⟩
      have hD3 : H3 D = some (.lst (nv (lefts i wl.length))) := by
        rw [hD3]
        unfold lefts
        simp
      have e23 := n3.trans e3
      refine ⟨D, rfl, ⟨_, SqL.of hD3⟩, for_list (xs := nv (lefts i wl.length)) (fun j σ H' => ∃ t5 t6 t7, σ = [some (.ref pm), some (.int (n : Int)), some (.int (i : Int)), some (.ref xa), some (.ref ya), t5, t6, t7] ∧ Same H3 H' ∧ joinAts n wl cs a (lefts i wl.length) = joinAts n wl cs a ((lefts i wl.length).drop j)) ⟨_, _, _, rfl, L2.Same.refl _, rfl⟩ (fun j σ H' _ ⟨_, _, _, _, z, _⟩ => SqL.of (z _ _ hD3)) ?_ ?_⟩
      · rintro j x σ H4 hx ⟨t5, t6, t7, rfl, e4, ej⟩
        obtain ⟨l, hl, rfl⟩ := nv_get' hx
        have hlw : l < wl.length := by
          have m := List.mem_of_getElem? hl
          unfold lefts at m
          rcases List.mem_append.mp m with m | m
          · split at m
            · rw [List.mem_singleton.mp m]; assumption
            · cases m
          · split at m
            · rw [List.mem_singleton.mp m]; omega
            · cases m
        have ew := List.getElem?_eq_getElem hlw
        have ec := List.getElem?_eq_getElem (show l < cs.length by omega)
        have ed := List.getElem?_eq_getElem (show l + 1 < cs.length by omega)
        generalize wl[l] = wv at *
        generalize cs[l] = c at *
        generalize cs[l + 1] = dv at *
        have ejc : (lefts i wl.length).drop j = l :: (lefts i wl.length).drop (j + 1) := by
          have hj := (List.getElem?_eq_some_iff.mp hl).1
          rw [List.drop_eq_getElem_cons hj, (List.getElem?_eq_some_iff.mp hl).2]
        rw [ejc, joinAts_cons, tryJoin_eq ew ec ed] at ej
        have e14 := (e12.trans e23).trans e4
        have e24 := e23.trans e4
        obtain ⟨x, hxl, zx⟩ := Paired.get hxs ew
        refine ⟨_, rfl, _, rfl, _, rfl, xa, _, _, _, rfl, rfl, SqL.of (e24 _ _ hxa), atI_nat hxl, ?_⟩
        refine ⟨_, rfl, _, rfl, ya, _, _, _, rfl, rfl, SqL.of (e24 _ _ hya), atI_nat (nv_map_get ec), ?_⟩
        refine ⟨_, rfl, _, rfl, _, _, rfl, rfl, ya, _, _, _, rfl, rfl, SqL.of (e24 _ _ hya), atI_nat (j := l + 1) (nv_map_get ed), ?_⟩
        have okc := hoks c (List.mem_of_getElem? ec)
        have okd := hoks dv (List.mem_of_getElem? ed)
        have gw := hge wv (List.mem_of_getElem? ew)
        have tr := two_reps ec ed hrep
        have hx' : firstL (first h) (cs.drop (l + 2)) nx ≤ 65535 := by
          rcases firstL_in (B := cs.drop (l + 2)) (fun b hb => hoks b (List.mem_of_mem_drop hb)) nx with q | q
          · omega
          · obtain ⟨z, hz1, hz2⟩ := List.mem_flatten.mp q
            obtain ⟨b, hb, rfl⟩ := List.mem_map.mp hz1
            have : firstL (first h) (cs.drop (l + 2)) nx ∈ numsL h cs := List.mem_flatten.mpr ⟨nums h b, List.mem_map.mpr ⟨b, List.mem_of_mem_drop hb, rfl⟩, hz2⟩
            have := own'.lt (List.mem_cons_of_mem _ this)
            omega
        have M4 := hM.same e14
        refine ⟨pm, M, a, x, wv, h, c, dv, _, rfl, M4, hA, tr.1, tr.2, okc, okd, gw, zx.same e24, joins_own own' ec ed, hf, hx', fun fits H5 M1 b5 q5 st r5 => ?_, fun nf H5 e5 => ?_⟩
        · rw [if_pos fits] at ej
          have ts := tryJoin_step hok own' ec ed hrep st r5 (wl.take l ++ wl.drop (l + 1))
          refine ⟨_, rfl, ibT rfl ?_⟩
          have hxa5 := M4.keep b5 (e24 _ _ hxa) trivial
          have hya5 := M4.keep b5 (e24 _ _ hya) trivial
          have hxs5 : IsEs H5 xs wl := (hxs.same e24).tups (M4.tups b5)
          refine ⟨_, rfl, _, rfl, _, rfl, xa, _, rfl, SqL.of hxa5, fun p1 hp1 => ?_⟩
          have s1 := L2.Same.new1 (o := .lst (cutV xs none (some ((l : Nat) : Int)))) hp1
          refine ⟨p1, _, rfl, .inr (SqL.of upd_same), ?_⟩
          refine ⟨_, rfl, _, rfl, _, _, rfl, rfl, _, rfl, xa, _, rfl, SqL.of (s1 _ _ hxa5), fun p2 hp2 => ?_⟩
          have s2 := s1.new (o := .lst (cutV xs (some (((l : Nat) : Int) + 1)) none)) hp2
          refine ⟨p2, _, rfl, .inr (SqL.of upd_same), ?_⟩
          have eX : cutV xs none (some ((l : Nat) : Int)) ++ (cutV xs (some (((l : Nat) : Int) + 1)) none ++ []) = xs.take l ++ xs.drop (l + 1) := by
            rw [show ((l : Nat) : Int) + 1 = ((l + 1 : Nat) : Int) by omega, cut_to, cut_from, List.append_nil]
          have hlx := hxs.length
          refine ⟨?_, fun p3 hp3 => ?_⟩
          · rw [eX, List.length_append, List.length_take, List.length_drop]
            exact sz_of (by omega)
          rw [eX]
          have s3 := s2.new (o := .lst (xs.take l ++ xs.drop (l + 1))) hp3
          have hE3 : IsEL (upd (upd (upd H5 p1 (.lst (cutV xs none (some ((l : Nat) : Int))))) p2 (.lst (cutV xs (some (((l : Nat) : Int) + 1)) none))) p3 (.lst (xs.take l ++ xs.drop (l + 1)))) (.ref p3) (wl.take l ++ wl.drop (l + 1)) :=
            ⟨p3, _, rfl, upd_same, Paired.append (Paired.take _ (hxs5.same s3)) (Paired.drop _ (hxs5.same s3))⟩
          generalize upd (upd (upd H5 p1 (.lst (cutV xs none (some ((l : Nat) : Int))))) p2 (.lst (cutV xs (some (((l : Nat) : Int) + 1)) none))) p3 (.lst (xs.take l ++ xs.drop (l + 1))) = H6 at *
          obtain ⟨dx5, d5, hpm5⟩ := q5.at_
          refine ⟨_, rfl, pm, _, _, rfl, s3 _ _ hpm5, pf_no d5 (by decide +kernel), _, rfl, _, rfl, ?_⟩
          refine ⟨_, rfl, _, rfl, _, _, rfl, rfl, _, rfl, ya, _, rfl, SqL.of (s3 _ _ hya5), fun p4 hp4 => ?_⟩
          have s4 := L2.Same.new1 (o := .lst (cutV (nv (cs.map num)) none (some (((l : Nat) : Int) + 1)))) hp4
          refine ⟨p4, _, rfl, .inr (SqL.of upd_same), ?_⟩
          refine ⟨_, rfl, _, rfl, _, _, rfl, rfl, _, rfl, ya, _, rfl, SqL.of (s4 _ _ (s3 _ _ hya5)), fun p5 hp5 => ?_⟩
          have s5 := s4.new (o := .lst (cutV (nv (cs.map num)) (some (((l : Nat) : Int) + 2)) none)) hp5
          refine ⟨p5, _, rfl, .inr (SqL.of upd_same), ?_⟩
          have eN : cutV (nv (cs.map num)) none (some (((l : Nat) : Int) + 1)) ++ (cutV (nv (cs.map num)) (some (((l : Nat) : Int) + 2)) none ++ []) = nv ((cs.take l ++ joinT h c wv dv :: cs.drop (l + 2)).map num) := by
            rw [nv_cut2 (cs.map num) l (x := num c) (by rw [List.getElem?_map, ec]; rfl) (num (joinT h c wv dv)) (num_joinT h c wv dv).symm, List.map_append, List.map_cons, List.map_take, List.map_drop]
          have hlc : (cs.take l ++ joinT h c wv dv :: cs.drop (l + 2)).length = (wl.take l ++ wl.drop (l + 1)).length + 1 := by
            rw [List.length_append, List.length_cons, List.length_append, List.length_take, List.length_take, List.length_drop, List.length_drop]
            omega
          have hzc : isz (wl.take l ++ wl.drop (l + 1)) (cs.take l ++ joinT h c wv dv :: cs.drop (l + 2)).length ≤ 116 := by
            have q1 := lsz_take_le wl l
            have q2 := lsz_app (wl.take l) (wl.drop l)
            rw [List.take_append_drop] at q2
            have q3 : lsz (wl.drop (l + 1)) ≤ lsz (wl.drop l) := by
              rw [show wl.drop (l + 1) = (wl.drop l).drop 1 by rw [List.drop_drop]]
              exact lsz_drop_le _ _
            have q4 : (wl.take l ++ wl.drop (l + 1)).length + 1 = wl.length := by
              rw [List.length_append, List.length_take, List.length_drop]; omega
            unfold isz
            rw [lsz_app, hlc]
            omega
          refine ⟨?_, fun p6 hp6 => ?_⟩
          · rw [eN, nv_len, List.length_map, hlc, List.length_append, List.length_take, List.length_drop]
            exact sz_of (by omega)
          rw [eN]
          have s6 := s5.new (o := .lst (nv ((cs.take l ++ joinT h c wv dv :: cs.drop (l + 2)).map num))) hp6
          refine sp_innerP (E := E0) (hE3.same s6) ⟨p6, rfl, upd_same⟩ (fun e he => ?_) (by rw [List.length_map]; exact hlc) (by rw [List.length_map]; exact hzc) fun u H7 e7 z7 => ?_
          · rcases List.mem_append.mp he with m | m
            · exact hge e (List.mem_of_mem_take m)
            · exact hge e (List.mem_of_mem_drop m)
          have s37 := (s3.trans s6).trans e7
          refine ⟨pm, M1, n, u, _, rfl, q5.same s37, by omega, z7, innerPg_ok (fun e he => ?_) (by rw [List.length_map]; exact hlc) (by rw [List.length_map]; exact hzc), fun H8 b8 q8 => ?_⟩
          · rcases List.mem_append.mp he with m | m
            · exact hge e (List.mem_of_mem_take m)
            · exact hge e (List.mem_of_mem_drop m)
          rw [ej] at k
          exact k _ _ (((But.of e14).trans b5).trans ((But.of s37).trans b8)) q8 ts.1 ts.2
        · rw [if_neg nf] at ej
          exact ⟨_, rfl, ibF (by simp) ⟨_, _, _, rfl, e4.trans e5, ej⟩⟩
      · rintro σ H4 ⟨t5, t6, t7, rfl, e4, ej⟩
        rw [nv_len, List.drop_length] at ej
        rw [ej] at k
        exact k _ M (.of ((e12.trans e23).trans e4)) (hM.same ((e12.trans e23).trans e4)) (Step.refl hA) hrep
end
end K7
namespace K7
open PySem PySem.Spec PyProof.Rows L2
theorem cl_ints : ∀ ns : List Int, PyData.canLayAll0 (ns.map .int) = true
  | [] => by simp [PyData.canLayAll0]
  | n :: ns => by rw [List.map_cons, PyData.canLayAll0, cl_ints ns, PyData.canLay0]; rfl
theorem cl_pI (ns : List Int) : (pI ns).canLay0 = true := by
  unfold pI
  rw [PyData.canLay0]
  exact cl_ints ns
theorem cl_enc (e : Ent) : (enc e).canLay0 = true := by
  unfold enc
  have h2 : (PyData.tuple [.int e.2.1, .int e.2.2]).canLay0 = true := by
    rw [PyData.canLay0]
    exact cl_ints [e.2.1, e.2.2]
  rw [PyData.canLay0, PyData.canLayAll0, PyData.canLayAll0, PyData.canLayAll0, cl_pI, h2]
  rfl
theorem cl_encs : ∀ es : List Ent, PyData.canLayAll0 (es.map enc) = true
  | [] => by simp [PyData.canLayAll0]
  | e :: es => by rw [List.map_cons, PyData.canLayAll0, cl_enc, cl_encs es]; rfl
theorem shaped_of {d : PyData} (h1 : d.canLay0 = true) (h2 : d.depth ≤ 64) : SeqAt.shaped d = true := by
  unfold SeqAt.shaped
  rw [h1, decide_eq_true h2]
  rfl
theorem shaped_enc (e : Ent) : SeqAt.shaped (enc e) = true := shaped_of (cl_enc e) (by rw [depth_enc]; decide)
def lE (es : List Ent) : PyData := .list (es.map enc)
theorem cl_lE (es : List Ent) : (lE es).canLay0 = true := by
  unfold lE
  rw [PyData.canLay0]
  exact cl_encs es
theorem depth_lE (es : List Ent) : (lE es).depth ≤ 3 := by
  unfold lE
  rw [PyData.depth]
  have := depth_encs es
  omega
theorem shaped_lE (es : List Ent) : SeqAt.shaped (lE es) = true := shaped_of (cl_lE es) (by have := depth_lE es; omega)
theorem IsEL.dp {K : PySem.W.Frag} {H : Hp} {v : V} {es : List Ent} (h : IsEL H v es) : Dp K H v (lE es) := by
  obtain ⟨a, vs, rfl, h1, h2⟩ := h
  exact .lst (SqL.of h1) h2.dp
def lN (ns : List Nat) : PyData := .list (ns.map fun (n : Nat) => .int (n : Int))
theorem lN_eq (ns : List Nat) : lN ns = .list ((ns.map fun (n : Nat) => (n : Int)).map .int) := by
  unfold lN
  rw [List.map_map]
  rfl
theorem cl_lN (ns : List Nat) : (lN ns).canLay0 = true := by
  rw [lN_eq, PyData.canLay0]
  exact cl_ints _
theorem shaped_lN (ns : List Nat) : SeqAt.shaped (lN ns) = true := shaped_of (cl_lN ns) (by rw [lN_eq, PyData.depth, depth_ints]; decide)
theorem IsNL.dp {K : PySem.W.Frag} {H : Hp} {v : V} {ns : List Nat} (h : IsNL H v ns) : Dp K H v (lN ns) := by
  obtain ⟨a, rfl, h1⟩ := h
  rw [lN_eq]
  refine .lst (SqL.of h1) ?_
  have e : nv ns = iv (ns.map fun (n : Nat) => (n : Int)) := by unfold nv iv; rw [List.map_map]; rfl
  rw [e]
  exact dp_ints _
theorem eqv_nil_E (es : List Ent) : PyData.eqv (lE es) (.list []) = decide (es = []) := by
  cases es with
  | nil => rw [decide_eq_true rfl]; exact PySem.SeqAt.eqv_refl _ (cl_lE [])
  | cons e es =>
    rw [decide_eq_false (by simp)]
    unfold lE
    rw [List.map_cons]
    simp [PyData.eqv, PyData.eqvAll]
theorem shaped_nil : SeqAt.shaped (.list []) = true := shaped_lE []
theorem drop_kid {h n : Nat} {ws : List Ent} {M M1 : Mem} {a a1 : Al} {A B : List (Tr h)} {c c' : Tr h} {nx : Nat} (o : Own (n :: numsL h (A ++ c :: B)) a) (hr : repP (h + 1) (node n ws (A ++ c :: B)) nx M)
    (s : Step M M1 a a1 (nums h c) (nums h c')) (hr' : repP h c' (firstL (first h) B nx) M1) (hf : first h c' = first h c) (hn : num c' = num c) :
    Step M M1 a a1 (nums (h + 1) (node n ws (A ++ c :: B))) (nums (h + 1) (node n ws (A ++ c' :: B))) ∧ repP (h + 1) (node n ws (A ++ c' :: B)) nx M1 := by
  have k := kids (n := n) (A := A) (C := [c]) (C' := [c']) (B := B) (nx := nx) o (s.cnt (fun x => by rw [numsL_cons, List.count_append]; simp [numsL]) (fun x => by rw [numsL_cons, List.count_append]; simp [numsL])) hr.2 ⟨hr', trivial⟩ (fun y => hf)
  refine ⟨k.1, ?_, k.2.1⟩
  have z := hr.1
  rw [k.2.2, z, List.map_append, List.map_append, List.map_cons, List.map_cons, hn]
section
variable {P : Program} {w : World} {K : PySem.W.Frag} {mg : Str → Option Value} {base : Heap} {C : Addr}
def spDropLt (C : Addr) (hn : Nat) : Sp := fun vs H Q _ => ∃ h, h < hn ∧ ∃ pm M a, ∃ t : Tr h, ∃ nx v e, vs = [.ref pm, .int (num t : Int), v] ∧ IsPM C H pm M ∧ AL M a ∧ repP h t nx M ∧ Ok h t ∧ IsE H v e ∧ Own (nums h t) a ∧ a.fresh ≤ 65534 ∧ nx ≤ 65535 ∧
  ∀ H' M', But [pm] H H' → IsPM C H' pm M' → Step M M' a (drop h t e a).2 (nums h t) (nums h (drop h t e a).1) → repP h (drop h t e a).1 nx M' → Q .non H'
abbrev s_drop_below : Stmt := top 56
abbrev N_drop_below : List Str := ["pages", "number", "entry", "page", "entries", "walls", "children", "at", "late"]
theorem sc_drop_below : FnScope N_drop_below ["pages", "number", "entry"] (defScope s_drop_below) := ⟨rfl, rfl, rfl, by decide +kernel, rfl, by decide +kernel, by decide +kernel⟩
theorem ok_drop_below (F : At K mg "drop_below" s_drop_below) (T : Txt K mg C) (D_is_leaf : Df P w K mg base "is_leaf" 3 ["page"] spIsLeaf) (D_inner_parts : Df P w K mg base "inner_parts" 3 ["page"] spParts) (D_child_at : Df P w K mg base "child_at" 1 ["walls", "entry"] spChildAt) (D_is_small : Df P w K mg base "is_small" 4 ["page"] spSmall) (D_join_at : Df P w K mg base "join_at" 11 ["pages", "number", "at"] (spJoinAt C)) (D_leaf_page : Df P w K mg base "leaf_page" 4 ["entries", "number"] spLeafP) (D_leaf_entries : Df P w K mg base "leaf_entries" 3 ["page"] spLeafE) (D_leaf_next : Df P w K mg base "leaf_next" 3 ["page"] spLeafN) (M_read : Dm P w K mg base C "read" 4 ["self", "number"] (spRead C)) (M_write : Dm P w K mg base C "write" 5 ["self", "number", "page"] (spWrite C)) : ∀ hn, Df P w K mg base "drop_below" (12 + hn) ["pages", "number", "entry"] (spDropLt C hn) := by
  intro hn
  induction hn with
  | zero =>
    show Df P w K mg base "drop_below" (11 + 1) ["pages", "number", "entry"] (spDropLt C 0)
    exact F.df sc_drop_below (fun _ _ _ _ _ _ us hl => match us, hl with | [_, _, _], _ => rfl) (fun vs H Q E h => by obtain ⟨_, hl, _⟩ := h; omega) (fun f cdv A outer s H vs Q E hr h => by obtain ⟨_, hl, _⟩ := h; omega)
  | succ hn D_drop_below =>
    show Df P w K mg base "drop_below" ((12 + hn) + 1) ["pages", "number", "entry"] (spDropLt C (hn + 1))
    refine F.df sc_drop_below (fun _ _ _ _ _ _ us hl => match us, hl with | [_, _, _], _ => rfl) (fun vs H Q E h => ?_) (fun f cdv A outer s H vs Q E hr h => ?_)
    · obtain ⟨h, hl, pm, M, a, t, nx, v, e, rfl, _⟩ := h; rfl
    · obtain ⟨h, hl, pm, M, a, t, nx, v, e, rfl, hM, hA, hrep, hok, hv, own, hf, hx, k⟩ := h
      refine ⟨_, (pss_cons (ps_set (i := 3) sc_drop_below.nd rfl (Or.inl rfl) (pe_md T.cl M_read (hr.mono (by omega)) (pv 0) (pa_cons (pv 1) pa_nil)))
  (pss_cons (ps_if (pt_val (pe_cd D_is_leaf (hr.mono (by omega)) (pa_cons (pv 3) pa_nil)))
  (pss_cons (ps_setLc (i := 4) (own := [("late", 8)]) (g := gName 8) rfl sc_drop_below.nd rfl rfl (sw_true rfl rfl rfl (by decide +kernel)) (pi_list (pe_cd D_leaf_entries (hr.mono (by omega)) (pa_cons (pv 3) pa_nil))) (blkOk_by (own := [("late", 8)]) (N := N_drop_below) (sc := defScope s_drop_below) (by decide +kernel)) (fun _ _ _ _ _ => pg_name (i := 8) sc_drop_below.nd rfl (Or.inl rfl)) (fun _ _ _ _ _ => pts_one (pt_cmpR (op_neDK K (hu64 hr)) (pv 8) (pv 2) (nomark _))) (fun _ _ _ _ _ => (pv 8)))
  (pss_cons (ps_expr (pe_md T.cl M_write (hr.mono (by omega)) (pv 0) (pa_cons (pv 1) (pa_cons (pe_cd D_leaf_page (hr.mono (by omega)) (pa_cons (pv 4) (pa_cons (pe_cd D_leaf_next (hr.mono (by omega)) (pa_cons (pv 3) pa_nil)) pa_nil))) pa_nil))))
  (pss_one ps_retN)))
  pss_nil)
  (pss_cons (ps_asg (pe_cd D_inner_parts (hr.mono (by omega)) (pa_cons (pv 3) pa_nil)) (pg_tup (by rfl) (pgs_cons (pg_name (i := 5) sc_drop_below.nd rfl (Or.inl rfl)) (pgs_cons (pg_name (i := 6) sc_drop_below.nd rfl (Or.inl rfl)) pgs_nil))))
  (pss_cons (ps_set (i := 7) sc_drop_below.nd rfl (Or.inl rfl) (pe_cd D_child_at (hr.mono (by omega)) (pa_cons (pv 5) (pa_cons (pv 2) pa_nil))))
  (pss_cons (ps_expr (pe_cd D_drop_below (hr.mono (by omega)) (pa_cons (pv 0) (pa_cons (pe_ix ix_list (pv 6) (pv 7) (fun _ _ => rfl)) (pa_cons (pv 2) pa_nil)))))
  (pss_one (ps_if (pt_val (pe_cd D_is_small (hr.mono (by omega)) (pa_cons (pe_md T.cl M_read (hr.mono (by omega)) (pv 0) (pa_cons (pe_ix ix_list (pv 6) (pv 7) (fun _ _ => rfl)) pa_nil)) pa_nil)))
  (pss_one (ps_expr (pe_cd D_join_at (hr.mono (by omega)) (pa_cons (pv 0) (pa_cons (pv 1) (pa_cons (pv 7) pa_nil))))))
  pss_nil))))))), ?_⟩
      obtain ⟨dx, d, hpm⟩ := hM.at_
      have hnum := own.lt (num_mem h t)
      cases h with
      | zero =>
        obtain ⟨n, es⟩ := t
        obtain ⟨hz, hge⟩ := hok
        have h5 := len_of_lsz hge
        have hMn : M n = some (leafPg es nx) := hrep
        have hn' : n < a.fresh := hnum
        refine ⟨_, rfl, pm, _, _, rfl, hpm, pf_no d (by decide +kernel), _, rfl, pm, M, n, _, rfl, hM, by omega, hMn, fun g H1 e1 z1 => ?_⟩
        refine ⟨_, rfl, g, _, 3, rfl, z1, leafPg_kind es nx, .inl rfl, fun H2 e2 => ?_⟩
        refine ⟨_, rfl, ifT rfl ?_⟩
        refine ⟨_, rfl, g, es, nx, rfl, z1.same e2, hge, hz, fun l H3 e3 z3 => ?_⟩
        obtain ⟨⟨la, xs, rfl, hla, hes⟩, _⟩ := z3
        have e13 := (e1.trans e2).trans e3
        refine ⟨la, rfl, ⟨_, SqL.of hla⟩, fun D hD => lc_list (xs := xs) (fun i H' => Same H3 H' ∧ ∃ ys, H' D = some (.lst ys) ∧ IsEs H' ys ((es.take i).filter fun x => decide (x ≠ e)) ∧ ys.length ≤ i) ⟨L2.Same.new1 hD, [], upd_same, .nil, Nat.zero_le _⟩ (fun i H' _ z => SqL.of (z.1 _ _ hla)) ?_ ?_⟩
        · intro i x H' hxx ⟨z1', ys, z2, z3, z4⟩
          obtain ⟨g', hg, zg⟩ := Paired.get' hes hxx
          have hi := (List.getElem?_eq_some_iff.mp hg).1
          refine ⟨rfl, ?_⟩
          refine ⟨_, rfl, _, rfl, enc g', enc e, (zg.same z1').dp, ((hv.same e13).same z1').dp, shaped_enc _, shaped_enc _, _, rfl, ?_⟩
          rw [eqv_enc]
          by_cases q : g' = e
          · refine ibF (by rw [decide_eq_true q]; decide) ⟨z1', ys, z2, ?_, by omega⟩
            rw [take_snoc hg, List.filter_append, List.filter_cons_of_neg (by simpa using q)]
            simpa using z3
          · refine ibT (by rw [decide_eq_false q]; decide) ⟨_, rfl, ys, z2, sz_lt (by omega), L2.Same.mut z1' hD, _, upd_same, ?_, by rw [List.length_append]; simp; omega⟩
            rw [take_snoc hg, List.filter_append, List.filter_cons_of_pos (by simpa using q)]
            have tp := Tups.upd (Tups.refl H') (o := .lst (ys ++ [x])) z2 (fun _ q => by cases q)
            exact Paired.append (z3.tups tp) (.cons ((zg.same z1').tups tp) .nil)
        · intro H4 ⟨e4, ys, hD4, hys, _⟩
          rw [hes.length, List.take_length] at hys
          have e14 := e13.trans e4
          have okd := drop_ok 0 ⟨n, es⟩ e a ⟨hz, hge⟩
          refine ⟨_, rfl, pm, _, _, rfl, e14 _ _ hpm, pf_no d (by decide +kernel), _, rfl, _, rfl, ?_⟩
          refine ⟨_, rfl, g, es, nx, rfl, ((z1.same e2).same e3).same e4, hz, hx, fun H5 e5 => ?_⟩
          refine ⟨_, es.filter fun x => decide (x ≠ e), nx, rfl, ⟨D, ys, rfl, e5 _ _ hD4, hys.same e5⟩, okd.2, okd.1, hx, fun u H6 e6 z6 => ?_⟩
          have e16 := (e14.trans e5).trans e6
          refine ⟨pm, M, n, u, _, rfl, hM.same e16, by omega, z6, leafPg_ok okd.2 okd.1, fun H7 b7 q7 => ?_⟩
          exact k H7 _ ((But.of e16).trans b7) q7 (Step.set hA own List.mem_cons_self _) setM_same
      | succ h =>
        obtain ⟨n, wl, cs⟩ := t
        obtain ⟨hl1, hz, hge, hoks⟩ := id hok
        obtain ⟨hMn, hreps⟩ := id hrep
        have hn' : n < a.fresh := hnum
        have own' : Own (n :: numsL h cs) a := own
        refine ⟨_, rfl, pm, _, _, rfl, hpm, pf_no d (by decide +kernel), _, rfl, pm, M, n, _, rfl, hM, by omega, hMn, fun g H1 e1 z1 => ?_⟩
        refine ⟨_, rfl, g, _, 4, rfl, z1, innerPg_kind _ _, .inr rfl, fun H2 e2 => ?_⟩
        refine ⟨_, rfl, ifF (by decide) ?_⟩
        refine ⟨_, rfl, sp_parts (E := E0) (z1.same e2) hge (by rw [List.length_map]; exact hl1) (by rw [List.length_map]; exact hz) (nums_le own' (by omega)) fun u3 H3 e3 z3 => ?_⟩
        obtain ⟨t3, x3, y3, rfl, ht3, hx3, hy3⟩ := z3
        refine ⟨t3, _, rfl, SqT.of ht3, rfl, _, _, rfl, _, _, rfl, rfl, ?_⟩
        have e13 := (e1.trans e2).trans e3
        have h5 := len_of_lsz hge
        have hz' : lsz wl + 2 * cs.length ≤ 116 := hz
        refine ⟨_, rfl, _, rfl, x3, v, wl, e, rfl, hx3, hv.same e13, by omega, fun H4 e4 => ?_⟩
        have e14 := e13.trans e4
        obtain ⟨c, hc⟩ := child_there hl1 e
        obtain ⟨ya, rfl, hya⟩ := hy3
        refine ⟨_, rfl, _, rfl, _, rfl, ya, _, _, _, rfl, rfl, SqL.of (e4 _ _ hya), atI_nat (nv_map_get hc), _, rfl, ?_⟩
        obtain ⟨A', B', ec1, ec2, ec3, ec4⟩ := dec hc
        rw [drop_eq hc, ec3, ec4] at k
        subst ec1
        have okc := hoks c (List.mem_of_getElem? hc)
        have okB : ∀ b ∈ B', Ok h b := fun b hb => hoks b (List.mem_append_right _ (List.mem_cons_of_mem _ hb))
        have hx' : firstL (first h) B' nx ≤ 65535 := by
          rcases firstL_in okB nx with q | q
          · omega
          · have : firstL (first h) B' nx ∈ numsL h (A' ++ c :: B') := by
              rw [numsL_app, numsL_cons]
              exact List.mem_append_right _ (List.mem_append_right _ q)
            have := own'.lt (List.mem_cons_of_mem _ this)
            omega
        have f1 := first_drop h c e a okc
        have f2 := num_drop h c e a
        have f3 := drop_ok h c e a okc
        have f4 := (drop_cnt h c e a okc).1
        have M4 := hM.same e14
        refine ⟨h, by omega, pm, M, a, c, firstL (first h) B' nx, v, e, rfl, M4, hA, ((repLs_app A' (c :: B') nx M).mp hreps).2.1, okc, hv.same e14, kid_own own', hf, hx', fun H5 M1 b5 q5 st r5 => ?_⟩
        generalize drop h c e a = pc at *
        obtain ⟨c', a1⟩ := pc
        have dk := drop_kid (ws := wl) own' hrep st r5 f1 f2
        have b05 := (But.of e14).trans b5
        have hy5 := M4.keep b5 (e4 _ _ hya) trivial
        obtain ⟨dx5, d5, hpm5⟩ := q5.at_
        have ow1 : Own (nums (h + 1) (node n wl (A' ++ c' :: B'))) a1 := dk.1.owns own
        have hf1 : a1.fresh ≤ 65534 := by
          have : a1.fresh = a.fresh := f4
          omega
        have hin : ∀ m ∈ nums h c', m ≤ 65535 := fun m hm => by
          have := ow1.lt (List.mem_cons_of_mem _ (kid_in (A := A') (B := B') hm))
          omega
        have f2' : num c' = num c := f2
        refine ⟨_, rfl, pm, _, _, rfl, hpm5, pf_no d5 (by decide +kernel), _, rfl, _, rfl, ya, _, _, _, rfl, rfl, SqL.of hy5, atI_nat (nv_map_get hc), ?_⟩
        refine ⟨pm, M1, num c, _, rfl, q5, by rw [← f2']; exact hin _ (num_mem h c'), by rw [← f2']; exact repP_pg r5, fun g6 H6 e6 z6 => ?_⟩
        refine ⟨g6, h, c', _, rfl, z6, f3, hin, fun H7 e7 => ?_⟩
        have e57 := e6.trans e7
        by_cases c30 : tsz c' < 30
        · rw [if_pos c30] at k
          refine ⟨_, rfl, ifT c30 ?_⟩
          exact ⟨_, rfl, _, rfl, _, rfl, pm, M1, a1, h, n, wl, A' ++ c' :: B', nx, place wl e, rfl, q5.same e57, dk.1.al, dk.2, ok_set hok rfl f3, ow1, hf1, hx, place_le wl e, fun H8 M8 b8 q8 st8 r8 => k H8 M8 ((b05.trans (.of e57)).trans b8) q8 (dk.1.trans st8) r8⟩
        · rw [if_neg c30] at k
          refine ⟨_, rfl, ifF c30 ?_⟩
          exact k _ M1 (b05.trans (.of e57)) (q5.same e57) dk.1 dk.2
end
end K7
namespace K7
/-! ### the chain of leaves in pages -/
def headN : List (Nat × List Ent) → Nat → Nat
  | [], nx => nx
  | p :: _, _ => p.1
def repC : List (Nat × List Ent) → Nat → Mem → Prop
  | [], _, _ => True
  | p :: r, nx, M => M p.1 = some (leafPg p.2 (headN r nx)) ∧ repC r nx M
theorem headN_app : ∀ (A B : List (Nat × List Ent)) (nx : Nat), headN (A ++ B) nx = headN A (headN B nx)
  | [], _, _ => rfl
  | _ :: _, _, _ => rfl
theorem repC_app : ∀ (A B : List (Nat × List Ent)) (nx : Nat) (M : Mem), repC (A ++ B) nx M ↔ repC A (headN B nx) M ∧ repC B nx M
  | [], B, nx, M => ⟨fun h => ⟨trivial, h⟩, fun h => h.2⟩
  | p :: A, B, nx, M => by
    have ih := repC_app A B nx M
    show M p.1 = some (leafPg p.2 (headN (A ++ B) nx)) ∧ repC (A ++ B) nx M ↔ (M p.1 = some (leafPg p.2 (headN A (headN B nx))) ∧ repC A (headN B nx) M) ∧ _
    rw [headN_app, ih]
    exact ⟨fun ⟨a, b, c⟩ => ⟨⟨a, b⟩, c⟩, fun ⟨⟨a, b⟩, c⟩ => ⟨a, b, c⟩⟩
theorem chain : ∀ (h : Nat) (t : Tr h) (nx : Nat) (M : Mem), Ok h t → repP h t nx M → repC (lv h t) nx M ∧ ∀ y, headN (lv h t) y = first h t
  | 0, ⟨n, es⟩, nx, M, _, hr => ⟨⟨hr, trivial⟩, fun _ => rfl⟩
  | h + 1, ⟨n, ws, cs⟩, nx, M, ok, hr => by
    have key : ∀ (cs : List (Tr h)) (nx : Nat), (∀ c ∈ cs, Ok h c) → repLs (repP h) (first h) cs nx M → repC (lvL h cs) nx M ∧ headN (lvL h cs) nx = firstL (first h) cs nx := by
      intro cs
      induction cs with
      | nil => intro nx _ _; exact ⟨trivial, rfl⟩
      | cons c cs ih =>
        intro nx hok ⟨h1, h2⟩
        have i2 := ih nx (fun d hd => hok d (List.mem_cons_of_mem _ hd)) h2
        have i1 := chain h c _ M (hok c List.mem_cons_self) h1
        rw [lvL_cons, repC_app, headN_app, i2.2, i1.2]
        exact ⟨⟨i1.1, i2.1⟩, rfl⟩
    have q := key cs nx ok.2.2.2 hr.2
    refine ⟨q.1, fun y => ?_⟩
    have ne : cs ≠ [] := fun e => by
      have := ok.1
      rw [e] at this
      simp at this
    cases cs with
    | nil => exact absurd rfl ne
    | cons c cs =>
      have i1 := chain h c _ M (ok.2.2.2 c List.mem_cons_self) hr.2.1
      show headN (lv h c ++ lvL h cs) y = first h c
      rw [headN_app, i1.2]
theorem lv_ok : ∀ (h : Nat) (t : Tr h), Ok h t → ∀ p ∈ lv h t, (lsz p.2 ≤ 116 ∧ ∀ e ∈ p.2, GE e) ∧ p.1 ∈ nums h t
  | 0, ⟨n, es⟩, ok, p, hp => by
    rw [List.mem_singleton.mp hp]
    exact ⟨ok, List.mem_cons_self⟩
  | h + 1, ⟨n, ws, cs⟩, ok, p, hp => by
    obtain ⟨l, hl, hpl⟩ := List.mem_flatten.mp hp
    obtain ⟨c, hc, rfl⟩ := List.mem_map.mp hl
    have q := lv_ok h c (ok.2.2.2 c hc) p hpl
    exact ⟨q.1, List.mem_cons_of_mem _ (List.mem_flatten.mpr ⟨nums h c, List.mem_map.mpr ⟨c, hc, rfl⟩, q.2⟩)⟩
theorem lvF_ne : ∀ (h : Nat) (t : Tr h) (x : Ent), Ok h t → lvF h t x ≠ []
  | 0, ⟨n, es⟩, x, _ => by
    show [(n, es)] ≠ []
    simp
  | h + 1, ⟨n, ws, cs⟩, x, ok => by
    obtain ⟨c, hc⟩ := child_there ok.1 x
    show lvF (h + 1) (node n ws cs) x ≠ []
    rw [lvF_eq hc]
    intro e
    exact lvF_ne h c x (ok.2.2.2 c (List.mem_of_getElem? hc)) (List.append_eq_nil_iff.mp e).1
theorem scan_len (lo hi : List Int) : ∀ ls : List (List Ent), (scan lo hi ls).length ≤ ls.flatten.length
  | [] => Nat.le_refl _
  | es :: r => by
    have ih := scan_len lo hi r
    unfold scan
    rw [List.flatten_cons, List.length_append, List.length_append]
    refine Nat.add_le_add (List.length_filter_le _ _) ?_
    split
    · exact ih
    · split
      · exact ih
      · exact Nat.zero_le _
theorem ents_len : ∀ (h : Nat) (t : Tr h), Ok h t → (ents h t).length ≤ 23 * (nums h t).length
  | 0, ⟨n, es⟩, ok => by
    have := len_of_lsz ok.2
    have := ok.1
    show es.length ≤ 23 * 1
    omega
  | h + 1, ⟨n, ws, cs⟩, ok => by
    have key : ∀ cs : List (Tr h), (∀ c ∈ cs, Ok h c) → (entsL h cs).length ≤ 23 * (numsL h cs).length := by
      intro cs
      induction cs with
      | nil => intro _; exact Nat.zero_le _
      | cons c cs ih =>
        intro hok
        have i1 := ents_len h c (hok c List.mem_cons_self)
        have i2 := ih fun d hd => hok d (List.mem_cons_of_mem _ hd)
        rw [entsL_cons, numsL_cons, List.length_append, List.length_append]
        omega
    have q := key cs ok.2.2.2
    show (entsL h cs).length ≤ 23 * (n :: numsL h cs).length
    rw [List.length_cons]
    omega
theorem own_len {ns : List Nat} {a : Al} (o : Own ns a) : ns.length ≤ a.fresh :=
  nodup_bound a.fresh ns (List.nodup_iff_count.mpr fun x => by have := o.one x; omega) fun x hx => o.lt hx
/-- where the search for a key begins -/
theorem search {h : Nat} {t : Tr h} {M : Mem} (ok : Ok h t) (hr : repP h t 0 M) (x : Ent) : repC (lvF h t x) 0 M ∧ (∀ p ∈ lvF h t x, (lsz p.2 ≤ 116 ∧ ∀ e ∈ p.2, GE e) ∧ p.1 ∈ nums h t) ∧ ((lvF h t x).map (·.2)).flatten.length ≤ (ents h t).length := by
  obtain ⟨Z, hZ⟩ := lv_suffix h t x ok
  have c := (chain h t 0 M ok hr).1
  rw [hZ, repC_app] at c
  refine ⟨c.2, fun p hp => lv_ok h t ok p (by rw [hZ]; exact List.mem_append_right _ hp), ?_⟩
  rw [← lv_ents h t, hZ, List.map_append, List.flatten_append, List.length_append]
  omega
end K7
namespace K7
open PySem PySem.Spec PyProof.Rows L2
theorem headN_ne {l : List (Nat × List Ent)} (h : l ≠ []) (x y : Nat) : headN l x = headN l y := by
  cases l with
  | nil => exact absurd rfl h
  | cons p l => rfl
theorem ref_non (a : Addr) : ¬ decide (V.ref a = V.non) = true := fun q => by
  have := of_decide_eq_true q
  cases this
theorem Paired.last {R : V → Ent → Prop} {xs : List V} {es : List Ent} {z : Ent} (h : Paired R xs es) (hz : es.getLast? = some z) : ∃ v, atI xs (-1) = some v ∧ R v z := by
  have hl := Paired.length h
  have n0 : 0 < es.length := by
    cases es with
    | nil => cases hz
    | cons e es => simp
  rw [List.getLast?_eq_getElem?] at hz
  obtain ⟨v, hv, r⟩ := Paired.get h hz
  refine ⟨v, ?_, r⟩
  have e : xs = xs.take (es.length - 1) ++ [v] := by
    rw [← take_snoc hv, List.take_of_length_le (by omega)]
  rw [e]
  exact atI_last _ _
section
variable {P : Program} {w : World} {K : PySem.W.Frag} {mg : Str → Option Value} {base : Heap} {C : Addr}
def spLeafFor (C : Addr) : Sp := fun vs H Q _ => ∃ pm M a h, ∃ t : Tr h, ∃ u key, vs = [.ref pm, .int (num t : Int), u] ∧ IsPM C H pm M ∧ repP h t 0 M ∧ Ok h t ∧ Own (nums h t) a ∧ a.fresh ≤ 65534 ∧ IsI H u key ∧
  ∀ H', Same H H' → Q (.int (headN (lvF h t (key, 0, 0)) 0 : Nat)) H'
abbrev s_leaf_for : Stmt := top 60
abbrev N_leaf_for : List Str := ["pages", "root", "low", "number", "page", "walls", "children"]
theorem sc_leaf_for : FnScope N_leaf_for ["pages", "root", "low"] (defScope s_leaf_for) := ⟨rfl, rfl, rfl, by decide +kernel, rfl, by decide +kernel, by decide +kernel⟩
theorem ok_leaf_for (F : At K mg "leaf_for" s_leaf_for) (T : Txt K mg C) (D_is_leaf : Df P w K mg base "is_leaf" 3 ["page"] spIsLeaf) (D_inner_parts : Df P w K mg base "inner_parts" 3 ["page"] spParts) (D_child_at : Df P w K mg base "child_at" 1 ["walls", "entry"] spChildAt) (M_read : Dm P w K mg base C "read" 4 ["self", "number"] (spRead C)) : Df P w K mg base "leaf_for" 5 ["pages", "root", "low"] (spLeafFor C) := by
  refine F.df sc_leaf_for (fun _ _ _ _ _ _ us hl => match us, hl with | [_, _, _], _ => rfl) (fun vs H Q E h => ?_) (fun f cdv A outer s H vs Q E hr h => ?_)
  · obtain ⟨pm, M, a, h, t, u, key, rfl, _⟩ := h; rfl
  · obtain ⟨pm, M, a, h, t, u, key, rfl, hM, hrep, hok, own, hf, hu, k⟩ := h
    refine ⟨_, (pss_cons (ps_set (i := 3) sc_leaf_for.nd rfl (Or.inl rfl) (pv 1))
  (pss_cons (ps_set (i := 4) sc_leaf_for.nd rfl (Or.inl rfl) (pe_md T.cl M_read (hr.mono (by omega)) (pv 0) (pa_cons (pv 3) pa_nil)))
  (pss_cons (ps_while PassesOwn.never (pt_not (pt_val (pe_cd D_is_leaf (hr.mono (by omega)) (pa_cons (pv 4) pa_nil))))
  (pss_cons (ps_asg (pe_cd D_inner_parts (hr.mono (by omega)) (pa_cons (pv 4) pa_nil)) (pg_tup (by rfl) (pgs_cons (pg_name (i := 5) sc_leaf_for.nd rfl (Or.inl rfl)) (pgs_cons (pg_name (i := 6) sc_leaf_for.nd rfl (Or.inl rfl)) pgs_nil))))
  (pss_cons (ps_set (i := 3) sc_leaf_for.nd rfl (Or.inl rfl) (pe_ix ix_list (pv 6) (pe_ifExp (pt_cmpR op_isN (pv 2) pe_non (nomark _)) pe_int (pe_cd D_child_at (hr.mono (by omega)) (pa_cons (pv 5) (pa_cons (pe_tup (pa_cons (pv 2) (pa_cons (pe_tup (pa_cons pe_int (pa_cons pe_int pa_nil))) pa_nil))) pa_nil)))) (fun _ _ => rfl)))
  (pss_one (ps_set (i := 4) sc_leaf_for.nd rfl (Or.inl rfl) (pe_md T.cl M_read (hr.mono (by omega)) (pv 0) (pa_cons (pv 3) pa_nil)))))))
  (pss_one (ps_ret (pv 3)))))), ?_⟩
    obtain ⟨dx, d, hpm⟩ := hM.at_
    have hnum := own.lt (num_mem h t)
    refine ⟨_, rfl, ?_⟩
    refine ⟨_, rfl, pm, _, _, rfl, hpm, pf_no d (by decide +kernel), _, rfl, pm, M, num t, _, rfl, hM, by omega, repP_pg hrep, fun g H1 e1 z1 => ?_⟩
    refine ⟨fun m σ H' => ∃ t' : Tr m, ∃ nx' v w5 w6, σ = [some (.ref pm), some (.int (num t : Int)), some u, some (.int (num t' : Int)), some v, w5, w6] ∧ Same H H' ∧ IsI H' v (pgT m t' nx') ∧ repP m t' nx' M ∧ Ok m t' ∧ (∀ x ∈ nums m t', x ≤ 65535) ∧ headN (lvF m t' (key, 0, 0)) 0 = headN (lvF h t (key, 0, 0)) 0,
      ⟨h, t, 0, g, _, _, rfl, e1, z1, hrep, hok, fun x hx => by have := own.lt hx; omega, rfl⟩, ?_⟩
    rintro m σ H2 ⟨t', nx', v, w5, w6, rfl, e2, z2, r2, ok2, n2, q2⟩
    cases m with
    | zero =>
      obtain ⟨n, es⟩ := t'
      refine ⟨_, rfl, v, _, 3, rfl, z2, leafPg_kind es nx', .inl rfl, fun H3 e3 => ?_⟩
      refine ⟨_, rfl, iteF ⟨_, rfl, ?_⟩⟩
      show Q (.int ((n : Nat) : Int)) H3
      have q : n = headN (lvF h t (key, 0, 0)) 0 := q2
      rw [q]
      exact k _ (e2.trans e3)
    | succ m =>
      obtain ⟨n, wl, cs⟩ := t'
      obtain ⟨hl1, hz, hge, hoks⟩ := id ok2
      refine ⟨_, rfl, v, _, 4, rfl, z2, innerPg_kind _ _, .inr rfl, fun H3 e3 => ?_⟩
      refine ⟨_, rfl, iteT ⟨fun σ' H' => ∃ t' : Tr m, ∃ nx' v w5 w6, σ' = [some (.ref pm), some (.int (num t : Int)), some u, some (.int (num t' : Int)), some v, w5, w6] ∧ Same H H' ∧ IsI H' v (pgT m t' nx') ∧ repP m t' nx' M ∧ Ok m t' ∧ (∀ x ∈ nums m t', x ≤ 65535) ∧ headN (lvF m t' (key, 0, 0)) 0 = headN (lvF h t (key, 0, 0)) 0, fun σ' H' z => ⟨m, Nat.lt_succ_self m, z⟩, ?_⟩⟩
      have hnl : ∀ d ∈ cs.map num, d ≤ 65535 := fun d hd => by
        obtain ⟨c, hc, rfl⟩ := List.mem_map.mp hd
        exact n2 _ (List.mem_cons_of_mem _ (List.mem_flatten.mpr ⟨nums m c, List.mem_map.mpr ⟨c, hc, rfl⟩, num_mem m c⟩))
      refine ⟨_, rfl, sp_parts (E := E0) (z2.same e3) hge (by rw [List.length_map]; exact hl1) (by rw [List.length_map]; exact hz) hnl fun u4 H4 e4 z4 => ?_⟩
      obtain ⟨t4, x4, y4, rfl, ht4, hx4, hy4⟩ := z4
      refine ⟨t4, _, rfl, SqT.of ht4, rfl, _, _, rfl, _, _, rfl, rfl, ?_⟩
      have h5 := len_of_lsz hge
      have hz' : lsz wl + 2 * cs.length ≤ 116 := hz
      obtain ⟨ya, rfl, hya⟩ := hy4
      have e24 := (e2.trans e3).trans e4
      obtain ⟨ua, rfl, hua⟩ := hu
      refine ⟨_, rfl, _, rfl, rfl, _, rfl, ibF (ref_non ua) ?_⟩
      refine ⟨_, rfl, _, rfl, by show 2 ≤ sizeLine; decide, fun p1 hp1 => ?_⟩
      have s1 := L2.Same.new1 (o := .tup [V.int 0, V.int 0]) hp1
      refine ⟨by show 2 ≤ sizeLine; decide, fun p2 hp2 => ?_⟩
      have s2 := s1.new (o := .tup [V.ref ua, V.ref p1]) hp2
      have hE : IsE (upd (upd H4 p1 (.tup [V.int 0, V.int 0])) p2 (.tup [V.ref ua, V.ref p1])) (.ref p2) (key, 0, 0) :=
        ⟨p2, ua, p1, rfl, upd_same, s2 _ _ (e24 _ _ hua), (L2.Same.new1 hp2) _ _ upd_same⟩
      refine ⟨x4, _, wl, _, rfl, hx4.same s2, hE, by omega, fun H5 e5 => ?_⟩
      obtain ⟨c, hc⟩ := child_there hl1 (key, 0, 0)
      obtain ⟨A', B', ec1, ec2, ec3, ec4⟩ := dec hc
      have s45 := s2.trans e5
      refine ⟨ya, _, _, _, rfl, rfl, SqL.of (s45 _ _ hya), atI_nat (nv_map_get hc), ?_⟩
      have e25 := e24.trans s45
      have rc : repP m c (firstL (first m) B' nx') M := by
        have q := r2.2
        rw [ec1, repLs_app] at q
        exact q.2.1
      have okc := hoks c (List.mem_of_getElem? hc)
      have hnc : ∀ x ∈ nums m c, x ≤ 65535 := fun x hx => n2 x (List.mem_cons_of_mem _ (List.mem_flatten.mpr ⟨nums m c, List.mem_map.mpr ⟨c, List.mem_of_getElem? hc, rfl⟩, hx⟩))
      refine ⟨_, rfl, pm, _, _, rfl, e25 _ _ hpm, pf_no d (by decide +kernel), _, rfl, pm, M, num c, _, rfl, hM.same e25, hnc _ (num_mem m c), repP_pg rc, fun g6 H6 e6 z6 => ?_⟩
      refine ⟨c, _, g6, _, _, rfl, e25.trans e6, z6, rc, okc, hnc, ?_⟩
      rw [← q2]
      show _ = headN (lvF (m + 1) (node n wl cs) (key, 0, 0)) 0
      rw [lvF_eq hc, headN_app]
      exact headN_ne (lvF_ne m c _ okc) _ _
def spEnts (C : Addr) : Sp := fun vs H Q _ => ∃ pm M a h, ∃ t : Tr h, ∃ u u2 key, vs = [.ref pm, .int (num t : Int), u, u2] ∧ IsPM C H pm M ∧ repP h t 0 M ∧ Ok h t ∧ Own (nums h t) a ∧ a.fresh ≤ 65534 ∧ IsI H u key ∧ IsI H u2 key ∧
  Ret H (fun v H' => IsEL H' v (found t key)) Q
abbrev s_entries_from : Stmt := top 61
abbrev N_entries_from : List Str := ["pages", "root", "low", "high", "found", "number", "page", "entries", "entry"]
theorem sc_entries_from : FnScope N_entries_from ["pages", "root", "low", "high"] (defScope s_entries_from) := ⟨rfl, rfl, rfl, by decide +kernel, rfl, by decide +kernel, by decide +kernel⟩
theorem ok_entries_from (F : At K mg "entries_from" s_entries_from) (T : Txt K mg C) (D_leaf_for : Df P w K mg base "leaf_for" 5 ["pages", "root", "low"] (spLeafFor C)) (D_leaf_entries : Df P w K mg base "leaf_entries" 3 ["page"] spLeafE) (D_leaf_next : Df P w K mg base "leaf_next" 3 ["page"] spLeafN) (M_read : Dm P w K mg base C "read" 4 ["self", "number"] (spRead C)) : Df P w K mg base "entries_from" 6 ["pages", "root", "low", "high"] (spEnts C) := by
  refine F.df sc_entries_from (fun _ _ _ _ _ _ us hl => match us, hl with | [_, _, _, _], _ => rfl) (fun vs H Q E h => ?_) (fun f cdv A outer s H vs Q E hr h => ?_)
  · obtain ⟨pm, M, a, h, t, u, u2, key, rfl, _⟩ := h; rfl
  · obtain ⟨pm, M, a, h, t, u, u2, key, rfl, hM, hrep, hok, own, hf, hu, hu2, k⟩ := h
    refine ⟨_, (pss_cons (ps_par (i := 4) (j := 5) (by rfl) sc_entries_from.nd rfl rfl (by decide) rfl rfl (pa_cons (pe_lst pa_nil) (pa_cons (pe_cd D_leaf_for (hr.mono (by omega)) (pa_cons (pv 0) (pa_cons (pv 1) (pa_cons (pv 2) pa_nil)))) pa_nil)) (by rfl))
  (pss_cons (ps_while PassesOwn.never (pt_cmpR op_ne (pv 5) pe_int (nomark _))
  (pss_cons (ps_set (i := 6) sc_entries_from.nd rfl (Or.inl rfl) (pe_md T.cl M_read (hr.mono (by omega)) (pv 0) (pa_cons (pv 5) pa_nil)))
  (pss_cons (ps_set (i := 7) sc_entries_from.nd rfl (Or.inl rfl) (pe_cd D_leaf_entries (hr.mono (by omega)) (pa_cons (pv 6) pa_nil)))
  (pss_cons (ps_expr (pe_bm PySem.F.plainAttrs_list PySem.F.slot_list_extend PySem.F.type_list_extend mt_extend (pv 4) (pa_cons (pe_lc (own := [("entry", 8)]) (g := gName 8) rfl sc_entries_from.nd (pi_list (pv 7)) (blkOk_by (own := [("entry", 8)]) (N := N_entries_from) (sc := defScope s_entries_from) (by decide +kernel)) (fun _ _ _ _ _ => pg_name (i := 8) sc_entries_from.nd rfl (Or.inl rfl)) (fun _ _ _ _ _ => pts_one (PW.pt (pw_or (pt_cmpR op_isN (pv 2) pe_non (nomark _)) (pw_or1 (pt_cmpR (op_geI (hu64 hr)) (pe_ix (ix_tupK K) (pv 8) pe_int (fun _ _ => rfl)) (pv 2) (nomark _)))))) (fun _ _ _ _ _ => (pv 8))) pa_nil)))
  (pss_one (ps_set (i := 5) sc_entries_from.nd rfl (Or.inl rfl) (pe_ifExp (PW.pt (pw_or (pt_cmpR op_isN (pv 3) pe_non (nomark _)) (pw_or (pt_cmpR (op_eqD (hu64 hr)) (pv 7) (pe_lst pa_nil) (nomark _)) (pw_or1 (pt_cmpR (op_leI (hu64 hr)) (pe_ix ix_tup (pe_ix ix_list (pv 7) (pe_un un_neg pe_int) (fun _ _ => rfl)) pe_int (fun _ _ => rfl)) (pv 3) (nomark _)))))) (pe_cd D_leaf_next (hr.mono (by omega)) (pa_cons (pv 6) pa_nil)) pe_int)))))))
  (pss_one (ps_ret (pe_lc (own := [("entry", 8)]) (g := gName 8) rfl sc_entries_from.nd (pi_list (pv 4)) (blkOk_by (own := [("entry", 8)]) (N := N_entries_from) (sc := defScope s_entries_from) (by decide +kernel)) (fun _ _ _ _ _ => pg_name (i := 8) sc_entries_from.nd rfl (Or.inl rfl)) (fun _ _ _ _ _ => pts_one (PW.pt (pw_or (pt_cmpR op_isN (pv 3) pe_non (nomark _)) (pw_or1 (pt_cmpR (op_leI (hu64 hr)) (pe_ix (ix_tupK K) (pv 8) pe_int (fun _ _ => rfl)) (pv 3) (nomark _)))))) (fun _ _ _ _ _ => (pv 8))))))), ?_⟩
    obtain ⟨dx, d, hpm⟩ := hM.at_
    obtain ⟨ua, rfl, hua⟩ := hu
    obtain ⟨ub, rfl, hub⟩ := hu2
    have sr := search hok hrep (key, 0, 0)
    have hbig : (ents h t).length ≤ 1600000 := by
      have := ents_len h t hok
      have := own_len own
      omega
    have hsc := scan_len key key ((lvF h t (key, 0, 0)).map (·.2))
    refine ⟨Nat.zero_le _, fun p hp => ?_⟩
    have n1 := L2.Same.new1 (o := .lst []) hp
    refine ⟨_, rfl, _, rfl, _, rfl, pm, M, a, h, t, _, key, rfl, hM.same n1, hrep, hok, own, hf, ⟨ua, rfl, n1 _ _ hua⟩, fun H1 e1 => ?_⟩
    refine ⟨_, _, rfl, ?_⟩
    refine ⟨fun m σ H' => ∃ rest acc vs w6 w7 w8, m = rest.length ∧ σ = [some (.ref pm), some (.int (num t : Int)), some (.ref ua), some (.ref ub), some (.ref p), some (.int ((headN rest 0 : Nat) : Int)), w6, w7, w8] ∧ Same H H' ∧ H' p = some (.lst vs) ∧ IsEs H' vs acc ∧
        acc ++ scan key key (rest.map (·.2)) = scan key key ((lvF h t (key, 0, 0)).map (·.2)) ∧ repC rest 0 M ∧ (∀ q ∈ rest, (lsz q.2 ≤ 116 ∧ ∀ e ∈ q.2, GE e) ∧ q.1 ∈ nums h t),
      ⟨_, lvF h t (key, 0, 0), [], [], _, _, _, rfl, rfl, n1.trans e1, e1 _ _ upd_same, .nil, rfl, sr.1, sr.2.1⟩, ?_⟩
    rintro m σ H2 ⟨rest, acc, vs, w6, w7, w8, rfl, rfl, e2, hp2, hacc, eacc, rc, hin⟩
    cases rest with
    | nil =>
      refine ⟨_, rfl, rfl, _, rfl, ?_⟩
      show if (!decide (V.int ((0 : Nat) : Int) = V.int 0)) = true then _ else _
      refine iteF ?_
      have eacc : acc = scan key key ((lvF h t (key, 0, 0)).map (·.2)) := by rw [← eacc]; exact (List.append_nil acc).symm
      refine ⟨_, rfl, p, rfl, ⟨_, SqL.of hp2⟩, fun D hD => lc_list (xs := vs) (fun i H' => Same H2 H' ∧ ∃ ys, H' D = some (.lst ys) ∧ IsEs H' ys ((acc.take i).filter fun e => leK e.1 key) ∧ ys.length ≤ i) ⟨L2.Same.new1 hD, [], upd_same, .nil, Nat.zero_le _⟩ (fun i H' _ z => SqL.of (z.1 _ _ hp2)) ?_ ?_⟩
      · intro i x H' hxx ⟨z1, ys, z2, z3, z4⟩
        obtain ⟨g', hg, zg⟩ := Paired.get' hacc hxx
        have hi := (List.getElem?_eq_some_iff.mp hg).1
        have zg' := zg.same z1
        obtain ⟨tx, kx, sx, rfl, htx, hkx, hsx⟩ := id zg'
        refine ⟨rfl, ?_⟩
        refine ⟨_, rfl, rfl, _, rfl, ibF (ref_non ub) ?_⟩
        refine ⟨_, rfl, tx, _, 0, _, rfl, rfl, SqT.of htx, atI_nat (j := 0) rfl, _, rfl, g'.1, key, ⟨kx, rfl, hkx⟩, ⟨ub, rfl, z1 _ _ (e2 _ _ hub)⟩, _, rfl, ?_⟩
        have hsl : (scan key key ((lvF h t (key, 0, 0)).map (·.2))).length ≤ 1600000 := by omega
        rw [← eacc] at hsl
        by_cases q : leK g'.1 key = true
        · refine ibT q ⟨_, rfl, ys, z2, Nat.lt_of_le_of_lt (m := 1600000) (by omega) (by decide), L2.Same.mut z1 hD, _, upd_same, ?_, by rw [List.length_append]; simp; omega⟩
          rw [take_snoc hg, List.filter_append, List.filter_cons_of_pos (by simpa using q)]
          have tp := Tups.upd (Tups.refl H') (o := .lst (ys ++ [.ref tx])) z2 (fun _ q => by cases q)
          exact Paired.append (z3.tups tp) (.cons (zg'.tups tp) .nil)
        · refine ibF q ⟨z1, ys, z2, ?_, by omega⟩
          rw [take_snoc hg, List.filter_append, List.filter_cons_of_neg (by simpa using q)]
          simpa using z3
      · intro H3 ⟨e3, ys, z2, z3, z4⟩
        rw [hacc.length, List.take_length, eacc] at z3
        exact k _ _ (e2.trans e3) ⟨D, ys, rfl, z2, z3⟩
    | cons q rest =>
      obtain ⟨n, es⟩ := q
      obtain ⟨⟨hz, hge⟩, hnin⟩ := hin (n, es) List.mem_cons_self
      have ln : n < a.fresh := own.lt hnin
      have n0 : n ≠ 0 := own.ne0 hnin
      obtain ⟨hMn, rc'⟩ := rc
      have hz : lsz es ≤ 116 := hz
      have hge : ∀ e ∈ es, GE e := hge
      have hx : headN rest 0 ≤ 65535 := by
        cases rest with
        | nil => exact Nat.zero_le _
        | cons q rest =>
          have := own.lt (hin q (List.mem_cons_of_mem _ List.mem_cons_self)).2
          show q.1 ≤ 65535
          omega
      refine ⟨_, rfl, rfl, _, rfl, ?_⟩
      show if (!decide (V.int ((n : Nat) : Int) = V.int 0)) = true then _ else _
      rw [vint_ne (by omega)]
      refine iteT ⟨fun σ' H' => ∃ rest' acc vs w6 w7 w8, rest'.length < rest.length + 1 ∧ σ' = [some (.ref pm), some (.int (num t : Int)), some (.ref ua), some (.ref ub), some (.ref p), some (.int ((headN rest' 0 : Nat) : Int)), w6, w7, w8] ∧ Same H H' ∧ H' p = some (.lst vs) ∧ IsEs H' vs acc ∧
        acc ++ scan key key (rest'.map (·.2)) = scan key key ((lvF h t (key, 0, 0)).map (·.2)) ∧ repC rest' 0 M ∧ (∀ q ∈ rest', (lsz q.2 ≤ 116 ∧ ∀ e ∈ q.2, GE e) ∧ q.1 ∈ nums h t), fun σ' H' ⟨rest', acc, vs, w6, w7, w8, lt, z⟩ => ⟨rest'.length, lt, rest', acc, vs, w6, w7, w8, rfl, z⟩, ?_⟩
      refine ⟨_, rfl, pm, _, _, rfl, e2 _ _ hpm, pf_no d (by decide +kernel), _, rfl, pm, M, n, _, rfl, hM.same e2, by omega, hMn, fun g H3 e3 z3 => ?_⟩
      refine ⟨_, rfl, g, es, headN rest 0, rfl, z3, hge, hz, fun l H4 e4 z4 => ?_⟩
      obtain ⟨⟨la, xs, rfl, hla, hes⟩, la', ela, hlan⟩ := z4
      cases ela
      have e34 := e3.trans e4
      have e24 := e2.trans e34
      have hp4 := e34 _ _ hp2
      have h5 := len_of_lsz hge
      refine ⟨_, rfl, .inl ⟨rfl, _, SqL.of hp4⟩, _, rfl, la, rfl, ⟨_, SqL.of hla⟩, fun D hD => lc_list (xs := xs) (fun i H' => Same H4 H' ∧ ∃ ys, H' D = some (.lst ys) ∧ IsEs H' ys ((es.take i).filter fun e => leK key e.1) ∧ ys.length ≤ i) ⟨L2.Same.new1 hD, [], upd_same, .nil, Nat.zero_le _⟩ (fun i H' _ z => SqL.of (z.1 _ _ hla)) ?_ ?_⟩
      · intro i x H' hxx ⟨z1, ys, z2, z3, z4⟩
        obtain ⟨g', hg, zg⟩ := Paired.get' hes hxx
        have hi := (List.getElem?_eq_some_iff.mp hg).1
        have zg' := zg.same z1
        obtain ⟨tx, kx, sx, rfl, htx, hkx, hsx⟩ := id zg'
        refine ⟨rfl, ?_⟩
        refine ⟨_, rfl, rfl, _, rfl, ibF (ref_non ua) ?_⟩
        refine ⟨_, rfl, tx, _, 0, _, rfl, rfl, SqT.of htx, atI_nat (j := 0) rfl, _, rfl, g'.1, key, ⟨kx, rfl, hkx⟩, ⟨ua, rfl, z1 _ _ (e24 _ _ hua)⟩, _, rfl, ?_⟩
        by_cases q : leK key g'.1 = true
        · refine ibT q ⟨_, rfl, ys, z2, sz_lt (by omega), L2.Same.mut z1 hD, _, upd_same, ?_, by rw [List.length_append]; simp; omega⟩
          rw [take_snoc hg, List.filter_append, List.filter_cons_of_pos (by simpa using q)]
          have tp := Tups.upd (Tups.refl H') (o := .lst (ys ++ [.ref tx])) z2 (fun _ q => by cases q)
          exact Paired.append (z3.tups tp) (.cons (zg'.tups tp) .nil)
        · refine ibF q ⟨z1, ys, z2, ?_, by omega⟩
          rw [take_snoc hg, List.filter_append, List.filter_cons_of_neg (by simpa using q)]
          simpa using z3
      · intro H5 ⟨e5, ys, hD5, hys, hyl⟩
        rw [hes.length, List.take_length] at hys
        have hp5 := e5 _ _ hp4
        have hfl : (es.filter fun e => leK key e.1).length ≤ es.length := List.length_filter_le _ _
        have hyl' := hys.length
        have hacl : acc.length ≤ 1600000 := by
          have := congrArg List.length eacc
          rw [List.length_append] at this
          omega
        have hvl := hacc.length
        refine ⟨p, D, vs, ys, rfl, rfl, hp5, hD5, Nat.le_trans (m := 1700000) (by omega) (by decide), ?_⟩
        have fp : H p = none := hp
        have tp5 := Tups.upd (Tups.refl H5) (o := .lst (vs ++ ys)) hp5 (fun _ q => by cases q)
        have e05 : Same H (upd H5 p (.lst (vs ++ ys))) := L2.Same.mut (e24.trans e5) fp
        have hacc' : IsEs (upd H5 p (.lst (vs ++ ys))) (vs ++ ys) (acc ++ es.filter fun e => leK key e.1) :=
          Paired.append (((hacc.same e34).same e5).tups tp5) (hys.tups tp5)
        have hp6 : upd H5 p (.lst (vs ++ ys)) p = some (.lst (vs ++ ys)) := upd_same
        have npl : la ≠ p := fun e => by
          rw [e] at hlan
          have := e3 _ _ hp2
          rw [hlan] at this
          cases this
        have hla6 : upd H5 p (.lst (vs ++ ys)) la = some (.lst xs) := by rw [upd_ne npl]; exact e5 _ _ hla
        have hes6 : IsEs (upd H5 p (.lst (vs ++ ys))) xs es := (hes.same e5).tups tp5
        have z3' : IsI (upd H5 p (.lst (vs ++ ys))) g (leafPg es (headN rest 0)) := ((z3.same e4).same e5).tups tp5
        generalize upd H5 p (.lst (vs ++ ys)) = H6 at *
        have hin' : ∀ q ∈ rest, (lsz q.2 ≤ 116 ∧ ∀ e ∈ q.2, GE e) ∧ q.1 ∈ nums h t := fun q hq => hin q (List.mem_cons_of_mem _ hq)
        have go : ∀ b : Bool, (if b = true then scan key key (rest.map (·.2)) else []) = (match es.getLast? with | none => scan key key (rest.map (·.2)) | some z => if leK z.1 key = true then scan key key (rest.map (·.2)) else []) →
            (acc ++ es.filter fun e => leK key e.1) ++ (if b = true then scan key key (rest.map (·.2)) else []) = scan key key ((lvF h t (key, 0, 0)).map (·.2)) := fun b hb => by
          rw [hb, List.append_assoc, ← eacc]
          rfl
        refine ⟨_, rfl, rfl, _, rfl, ibF (ref_non ub) ?_⟩
        refine ⟨_, rfl, Nat.zero_le _, fun p7 hp7 => ?_⟩
        have s7 := L2.Same.new1 (o := .lst []) hp7
        have hEL : IsEL (upd H6 p7 (.lst [])) (.ref la) es := ⟨la, xs, rfl, s7 _ _ hla6, hes6.same s7⟩
        have hnil : Dp K (upd H6 p7 (.lst [])) (.ref p7) (.list []) := .lst (SqL.of upd_same) .nil
        refine ⟨lE es, .list [], hEL.dp, hnil, shaped_lE es, shaped_nil, _, rfl, ?_⟩
        rw [eqv_nil_E]
        by_cases ce : es = []
        · refine ibT (decide_eq_true ce) ?_
          refine ⟨_, rfl, g, es, headN rest 0, rfl, z3'.same s7, hz, hx, fun H8 e8 => ?_⟩
          have s8 := s7.trans e8
          have := go true (by rw [ce]; rfl)
          rw [if_pos rfl] at this
          exact ⟨rest, _, _, _, _, _, by omega, rfl, e05.trans s8, s8 _ _ hp6, hacc'.same s8, this, rc', hin'⟩
        · refine ibF (by rw [decide_eq_false ce]; decide) ?_
          obtain ⟨z, hz1⟩ : ∃ z, es.getLast? = some z := by
            cases q : es.getLast? with
            | none => exact absurd (List.getLast?_eq_none_iff.mp q) ce
            | some z => exact ⟨z, rfl⟩
          obtain ⟨zv, hzv, hze⟩ := Paired.last (hes6.same s7) hz1
          obtain ⟨tx, kx, sx, rfl, htx, hkx, hsx⟩ := hze
          refine ⟨_, rfl, _, rfl, la, _, _, _, rfl, rfl, SqL.of (s7 _ _ hla6), hzv, tx, _, 0, _, rfl, rfl, SqT.of htx, atI_nat (j := 0) rfl, ?_⟩
          refine ⟨_, rfl, z.1, key, ⟨kx, rfl, hkx⟩, ⟨ub, rfl, s7 _ _ (e05 _ _ hub)⟩, _, rfl, ?_⟩
          by_cases q : leK z.1 key = true
          · refine ibT q ?_
            refine ⟨_, rfl, g, es, headN rest 0, rfl, z3'.same s7, hz, hx, fun H8 e8 => ?_⟩
            have s8 := s7.trans e8
            have := go true (by rw [hz1]; show _ = if leK z.1 key = true then _ else _; rw [if_pos q]; rfl)
            rw [if_pos rfl] at this
            exact ⟨rest, _, _, _, _, _, by omega, rfl, e05.trans s8, s8 _ _ hp6, hacc'.same s8, this, rc', hin'⟩
          · refine ibF q ?_
            have := go false (by rw [hz1]; show _ = if leK z.1 key = true then _ else _; rw [if_neg q]; rfl)
            rw [if_neg (by decide)] at this
            exact ⟨[], _, _, _, _, _, by simp, rfl, e05.trans s7, s7 _ _ hp6, hacc'.same s7, this, trivial, fun _ h => by cases h⟩
end
end K7
namespace K7
theorem root_split {h : Nat} {t r : Tr h} {M : Mem} {a : Al} (w : Ent) (hA : AL M a) (o : Own (nums h t ++ nums h r) a) (hf : a.fresh ≤ 65534) (r1 : repP h t (first h r) M) (r2 : repP h r 0 M) :
    Step M (setM (setM (takeM M a) a.take.1 (pgT h t (first h r))) (num t) (innerPg [w] [a.take.1, num r])) a a.take.2 (nums h t ++ nums h r) (nums (h + 1) (node (num t) [w] [renum t a.take.1, r])) ∧
      repP (h + 1) (node (num t) [w] [renum t a.take.1, r]) 0 (setM (setM (takeM M a) a.take.1 (pgT h t (first h r))) (num t) (innerPg [w] [a.take.1, num r])) := by
  have tk := Step.take hA o hf
  have ot := tk.owns o
  have nt := o.take
  have hin : num t ∈ nums h t ++ nums h r := List.mem_append_left _ (num_mem h t)
  have ne : a.take.1 ≠ num t := fun e => nt.1 (by rw [e]; exact hin)
  have s1 := Step.set tk.al ot List.mem_cons_self (pgT h t (first h r))
  have s2 := Step.set s1.al ot (List.mem_cons_of_mem _ hin) (innerPg [w] [a.take.1, num r])
  obtain ⟨rt, et⟩ := nums_head h t
  have old : ∀ m ∈ rt ++ nums h r, setM (setM (takeM M a) a.take.1 (pgT h t (first h r))) (num t) (innerPg [w] [a.take.1, num r]) m = M m := fun m hm => by
    have hm' : m ∈ nums h t ++ nums h r := by
      rw [et]
      rcases List.mem_append.mp hm with q | q
      · exact List.mem_append_left _ (List.mem_cons_of_mem _ q)
      · exact List.mem_append_right _ q
    have n1 : m ≠ num t := fun e => by
      have z := o.one (num t)
      have y := cnt_pos.mp hm
      rw [et, List.cons_append, List.count_cons_self] at z
      rw [e] at y
      omega
    have n2 : m ≠ a.take.1 := fun e => nt.1 (by rw [← e]; exact hm')
    rw [setM_ne n1, setM_ne n2, takeM_fra (o.ne0 hm') (o.not_free hm') (o.lt hm')]
  refine ⟨((tk.trans s1).trans s2).cnt (fun _ => rfl) (fun x => ?_), ?_, ?_⟩
  · have z := renum_cnt t a.take.1 x
    show List.count x (num t :: (nums h (renum t a.take.1) ++ (nums h r ++ []))) = _
    rw [List.append_nil, cnt_cons, List.count_append, cnt_cons x a.take.1 (nums h t ++ nums h r), List.count_append]
    omega
  · show setM _ _ _ _ = some (innerPg [w] [num (renum t a.take.1), num r])
    rw [num_renum]
    exact setM_same
  · refine ⟨?_, ?_, trivial⟩
    · refine repP_renum h t _ _ M _ ?_ (fun m hm => old m (List.mem_append_left _ (by rw [et] at hm; exact hm))) r1
      rw [setM_ne ne, setM_same, repP_pg r1]
    · exact repP_frame h r 0 M _ (fun m hm => old m (List.mem_append_right _ hm)) r2
theorem shrink_step {h n : Nat} {ws : List Ent} {c : Tr h} {M : Mem} {a : Al} (hA : AL M a) (o : Own (nums (h + 1) (node n ws [c])) a) (hf : a.fresh ≤ 65534) (hr : repP (h + 1) (node n ws [c]) 0 M) :
    Step M (giveM (setM M n (pgT h c 0)) a (num c)) a (a.give (num c)) (nums (h + 1) (node n ws [c])) (nums h (renum c n)) ∧ repP h (renum c n) 0 (giveM (setM M n (pgT h c 0)) a (num c)) := by
  obtain ⟨rc, ec⟩ := nums_head h c
  have hrc : repP h c 0 M := hr.2.1
  have en : ∀ x, List.count x (nums (h + 1) (node n ws [c])) = List.count x [num c, n] + List.count x rc := fun x => by
    show List.count x (n :: (nums h c ++ [])) = _
    rw [List.append_nil, cnt_cons, ec, cnt_cons x (num c) rc, cnt_cons x (num c) [n]]
    omega
  have o2 : Own [num c, n] a := o.sub fun x => by rw [en x]; omega
  have s1 := Step.set hA o2 (List.mem_cons_of_mem _ List.mem_cons_self) (pgT h c 0)
  have s2 := Step.give s1.al (s1.owns o2) hf
  have s := s1.trans s2
  have hnd : num c ≠ n := fun e => by
    have := o2.one (num c)
    rw [e] at this
    simp at this
    omega
  have kp : ∀ m ∈ rc, giveM (setM M n (pgT h c 0)) a (num c) m = M m := fun m hm => s.keep o en hm
  refine ⟨s.frame rc en (fun x => ?_), ?_⟩
  · have z := renum_cnt c n x
    have y : List.count x (nums h c) = List.count x [num c] + List.count x rc := by rw [ec, cnt_cons]
    omega
  · refine repP_renum h c n 0 M _ ?_ (fun m hm => kp m (by rw [ec] at hm; exact hm)) hrc
    unfold giveM
    rw [setM_ne (o2.ne0 (List.mem_cons_of_mem _ List.mem_cons_self)), setM_ne (Ne.symm hnd), setM_same, repP_pg hrc]
end K7
namespace K7
open PySem PySem.Spec PyProof.Rows L2
theorem any_enc (es : List Ent) (e : Ent) : ((es.map enc).any fun z => PyData.eqv z (enc e)) = decide (e ∈ es) := by
  rw [List.any_map]
  by_cases h : e ∈ es
  · rw [decide_eq_true h]
    exact List.any_eq_true.mpr ⟨e, h, by show PyData.eqv (enc e) (enc e) = true; rw [eqv_enc]; exact decide_eq_true rfl⟩
  · rw [decide_eq_false h, Bool.eq_false_iff]
    intro q
    obtain ⟨x, hx, y⟩ := List.any_eq_true.mp q
    have y : PyData.eqv (enc x) (enc e) = true := y
    rw [eqv_enc] at y
    exact h (of_decide_eq_true y ▸ hx)
theorem shrink_one {h n : Nat} {ws : List Ent} {c : Tr h} {a : Al} : shrink (h + 1) (node n ws [c]) a = shrink h (renum c n) (a.give (num c)) := rfl
theorem shrink_not {h n : Nat} {ws : List Ent} {cs : List (Tr h)} {a : Al} (hc : cs.length ≠ 1) : shrink (h + 1) (node n ws cs) a = (⟨h + 1, node n ws cs⟩, a) := by
  match cs, hc with
  | [], _ => rfl
  | [c], hc => exact absurd rfl hc
  | _ :: _ :: _, _ => rfl
section
variable {P : Program} {w : World} {K : PySem.W.Frag} {mg : Str → Option Value} {base : Heap} {C : Addr}
def spPutKey (C : Addr) (hn : Nat) : Sp := fun vs H Q _ => ∃ h, h < hn ∧ ∃ pm M a, ∃ t : Tr h, ∃ ka sa, ∃ e : Ent, vs = [.ref pm, .int (num t : Int), .ref ka, .ref sa] ∧ IsPM C H pm M ∧ AL M a ∧ repP h t 0 M ∧ Ok h t ∧ GE e ∧ H ka = some (.tup (iv e.1)) ∧ H sa = some (.tup [.int e.2.1, .int e.2.2]) ∧ Own (nums h t) a ∧ a.fresh + h + 2 ≤ 65534 ∧
  (e ∈ found t e.1 → ∀ H', Same H H' → Q (.bl false) H') ∧
  (e ∉ found t e.1 → ∀ H' M', But [pm] H H' → IsPM C H' pm M' → Step M M' a (putR ⟨h, t⟩ e a).2 (nums h t) (nums (putR ⟨h, t⟩ e a).1.h (putR ⟨h, t⟩ e a).1.t) → repP (putR ⟨h, t⟩ e a).1.h (putR ⟨h, t⟩ e a).1.t 0 M' → Q (.bl true) H')
variable {hn : Nat}
abbrev s_put_key : Stmt := top 51
abbrev N_put_key : List Str := ["pages", "root", "key", "spot", "split", "wall", "right", "left"]
theorem sc_put_key : FnScope N_put_key ["pages", "root", "key", "spot"] (defScope s_put_key) := ⟨rfl, rfl, rfl, by decide +kernel, rfl, by decide +kernel, by decide +kernel⟩
theorem ok_put_key (F : At K mg "put_key" s_put_key) (T : Txt K mg C) (D_check_entry : Df P w K mg base "check_entry" 5 ["key", "spot"] spChkEntry) (D_put_below : Df P w K mg base "put_below" ((9 + hn)) ["pages", "number", "entry"] (spPutLt C hn)) (D_entries_from : Df P w K mg base "entries_from" 6 ["pages", "root", "low", "high"] (spEnts C)) (D_inner_page : Df P w K mg base "inner_page" 4 ["walls", "children"] spInnerP) (M_allocate : Dm P w K mg base C "allocate" 7 ["self"] (spAlloc C)) (M_write : Dm P w K mg base C "write" 5 ["self", "number", "page"] (spWrite C)) (M_read : Dm P w K mg base C "read" 4 ["self", "number"] (spRead C)) : Df P w K mg base "put_key" (hn + 10) ["pages", "root", "key", "spot"] (spPutKey C hn) := by
  refine F.df sc_put_key (fun _ _ _ _ _ _ us hl => match us, hl with | [_, _, _, _], _ => rfl) (fun vs H Q E h => ?_) (fun f cdv A outer s H vs Q E hr h => ?_)
  · obtain ⟨h, hl, pm, M, a, t, ka, sa, e, rfl, _⟩ := h; rfl
  · obtain ⟨h, hl, pm, M, a, t, ka, sa, e, rfl, hM, hA, hrep, hok, ge, hka, hsa, own, hf, kf, kt⟩ := h
    refine ⟨_, (pss_cons (ps_expr (pe_cd D_check_entry (hr.mono (by omega)) (pa_cons (pv 2) (pa_cons (pv 3) pa_nil))))
  (pss_cons (ps_if (pt_cmpR (op_inD (hu65 hr)) (pe_tup (pa_cons (pv 2) (pa_cons (pv 3) pa_nil))) (pe_cd D_entries_from (hr.mono (by omega)) (pa_cons (pv 0) (pa_cons (pv 1) (pa_cons (pv 2) (pa_cons (pv 2) pa_nil))))) rfl)
  (pss_one (ps_ret pe_bl))
  pss_nil)
  (pss_cons (ps_set (i := 4) sc_put_key.nd rfl (Or.inl rfl) (pe_cd D_put_below (hr.mono (by omega)) (pa_cons (pv 0) (pa_cons (pv 1) (pa_cons (pe_tup (pa_cons (pv 2) (pa_cons (pv 3) pa_nil))) pa_nil)))))
  (pss_cons (ps_if (pt_cmpR op_notN (pv 4) pe_non (nomark _))
  (pss_cons (ps_asg (pv 4) (pg_tup (by rfl) (pgs_cons (pg_name (i := 5) sc_put_key.nd rfl (Or.inl rfl)) (pgs_cons (pg_name (i := 6) sc_put_key.nd rfl (Or.inl rfl)) pgs_nil))))
  (pss_cons (ps_set (i := 7) sc_put_key.nd rfl (Or.inl rfl) (pe_md0 T.cl M_allocate (hr.mono (by omega)) (pv 0)))
  (pss_cons (ps_expr (pe_md T.cl M_write (hr.mono (by omega)) (pv 0) (pa_cons (pv 7) (pa_cons (pe_md T.cl M_read (hr.mono (by omega)) (pv 0) (pa_cons (pv 1) pa_nil)) pa_nil))))
  (pss_one (ps_expr (pe_md T.cl M_write (hr.mono (by omega)) (pv 0) (pa_cons (pv 1) (pa_cons (pe_cd D_inner_page (hr.mono (by omega)) (pa_cons (pe_lst (pa_cons (pv 5) pa_nil)) (pa_cons (pe_lst (pa_cons (pv 7) (pa_cons (pv 6) pa_nil))) pa_nil))) pa_nil))))))))
  pss_nil)
  (pss_one (ps_ret pe_bl)))))), ?_⟩
    have hnum := own.lt (num_mem h t)
    refine ⟨_, rfl, _, rfl, .ref ka, .ref sa, e, rfl, ⟨ka, rfl, hka⟩, ⟨sa, rfl, hsa⟩, ge, fun H1 e1 => ?_⟩
    refine ⟨_, rfl, _, rfl, by show 2 ≤ sizeLine; decide, fun p hp => ?_⟩
    have e2 := e1.new (o := .tup [V.ref ka, V.ref sa]) hp
    have hE2 : IsE (upd H1 p (.tup [V.ref ka, V.ref sa])) (.ref p) e := ⟨p, ka, sa, rfl, upd_same, e2 _ _ hka, e2 _ _ hsa⟩
    generalize upd H1 p (.tup [V.ref ka, V.ref sa]) = H2 at *
    refine ⟨_, rfl, _, rfl, _, rfl, _, rfl, pm, M, a, h, t, _, _, e.1, rfl, hM.same e2, hrep, hok, own, by omega, ⟨ka, rfl, e2 _ _ hka⟩, ⟨ka, rfl, e2 _ _ hka⟩, fun v H3 e3 z3 => ?_⟩
    have e13 := e2.trans e3
    refine ⟨enc e, (found t e.1).map enc, (hE2.same e3).dp, z3.dp, shaped_enc e, shaped_lE _, _, rfl, ?_⟩
    rw [any_enc]
    by_cases c : e ∈ found t e.1
    · exact ifT c (kf c _ e13)
    · refine ifF c ?_
      have kt := kt c
      refine ⟨_, rfl, _, rfl, _, rfl, _, rfl, by show 2 ≤ sizeLine; decide, fun p4 hp4 => ?_⟩
      have e4 := e13.new (o := .tup [V.ref ka, V.ref sa]) hp4
      have hE4 : IsE (upd H3 p4 (.tup [V.ref ka, V.ref sa])) (.ref p4) e := ⟨p4, ka, sa, rfl, upd_same, e4 _ _ hka, e4 _ _ hsa⟩
      generalize upd H3 p4 (.tup [V.ref ka, V.ref sa]) = H4 at *
      have M4 := hM.same e4
      have f2 := num_put h t e a
      obtain ⟨j, j1, j2, _⟩ := put_cnt h t e a hok
      refine ⟨h, hl, pm, M, a, t, 0, .ref p4, e, rfl, M4, hA, hrep, hok, ge, hE4, own, by omega, by decide, fun u H5 M1 b5 q5 st r5 z5 => ?_⟩
      unfold putR at kt
      have f3 := put_ok h t e a hok ge
      generalize put h t e a = pc at *
      obtain ⟨⟨t', o⟩, a1⟩ := pc
      have b05 := (But.of e4).trans b5
      have own1 := st.owns own
      have hf1 : a1.fresh ≤ 65534 := by
        have : a1.fresh = a.fresh + j := j2
        omega
      have f2' : num t' = num t := f2
      cases o with
      | none =>
        obtain rfl : u = .non := z5
        refine ⟨_, rfl, rfl, _, rfl, ibF (by simp) ?_⟩
        exact kt H5 M1 b05 q5 (st.cnt (fun _ => rfl) (fun x => by show List.count x (nums h t') = List.count x (nums h t' ++ []); rw [List.append_nil])) r5
      | some pp =>
        obtain ⟨w1, r⟩ := pp
        obtain ⟨tt, x5, rfl, htt, hx5⟩ := z5
        have htt : H5 tt = some (.tup [x5, .int ((num r : Nat) : Int)]) := htt
        have own1 : Own (nums h t' ++ nums h r) a1 := own1
        have st : Step M M1 a a1 (nums h t) (nums h t' ++ nums h r) := st
        have rs := root_split w1 st.al own1 hf1 r5.1 r5.2
        refine ⟨_, rfl, rfl, _, rfl, ibT (by simp) ?_⟩
        refine ⟨_, rfl, tt, _, rfl, SqT.of htt, rfl, _, _, rfl, _, _, rfl, rfl, ?_⟩
        obtain ⟨dx5, d5, hpm5⟩ := q5.at_
        have tl := take_le (own1.al hf1)
        refine ⟨_, rfl, pm, _, _, rfl, hpm5, pf_no d5 (by decide +kernel), pm, M1, a1, rfl, q5, st.al, own1.al hf1, fun H6 b6 q6 => ?_⟩
        obtain ⟨dx6, d6, hpm6⟩ := q6.at_
        have hin : num t' ∈ nums h t' ++ nums h r := List.mem_append_left _ (num_mem h t')
        have hrd : takeM M1 a1 (num t) = some (pgT h t' (first h r)) := by
          rw [← f2', takeM_fra (own1.ne0 hin) (own1.not_free hin) (own1.lt hin), repP_pg r5.1]
        refine ⟨_, rfl, pm, _, _, rfl, hpm6, pf_no d6 (by decide +kernel), _, rfl, ?_⟩
        refine ⟨_, rfl, pm, _, _, rfl, hpm6, pf_no d6 (by decide +kernel), _, rfl, pm, _, num t, _, rfl, q6, by omega, hrd, fun g H7 e7 z7 => ?_⟩
        refine ⟨pm, _, a1.take.1, g, _, rfl, q6.same e7, by omega, z7, q6.pg hrd, fun H8 b8 q8 => ?_⟩
        obtain ⟨dx8, d8, hpm8⟩ := q8.at_
        refine ⟨_, rfl, pm, _, _, rfl, hpm8, pf_no d8 (by decide +kernel), _, rfl, ?_⟩
        have b58 := (b6.trans (.of e7)).trans b8
        have hx8 : IsE H8 x5 w1 := q5.keepE b58 hx5
        refine ⟨_, rfl, by show 1 ≤ sizeLine; decide, fun p9 hp9 => ?_⟩
        have s9 := L2.Same.new1 (o := .lst [x5]) hp9
        refine ⟨_, rfl, _, rfl, by show 2 ≤ sizeLine; decide, fun pA hpA => ?_⟩
        have s10 := s9.new (o := .lst [V.int ((a1.take.1 : Nat) : Int), V.int ((num r : Nat) : Int)]) hpA
        have gw : GE w1 := (f3.2 _ rfl).1
        have hz : isz [w1] 2 ≤ 116 := by
          unfold isz
          rw [lsz_one]
          have := esz_le gw
          omega
        have hge : ∀ x ∈ [w1], GE x := fun x hx => by rw [List.mem_singleton.mp hx]; exact gw
        refine sp_innerP (E := E0) (ws := [w1]) (cs := [a1.take.1, num r]) ⟨p9, [x5], rfl, (L2.Same.new1 hpA) _ _ upd_same, .cons (hx8.same s10) .nil⟩ ⟨pA, rfl, upd_same⟩ hge rfl hz fun g2 HB eB zB => ?_
        have s8B := s10.trans eB
        refine ⟨pm, _, num t, g2, _, rfl, q8.same s8B, by omega, zB, innerPg_ok hge rfl hz, fun HC bC qC => ?_⟩
        rw [← f2'] at qC
        rw [← f2'] at kt
        exact kt HC _ ((b05.trans b58).trans ((But.of s8B).trans bC)) qC (st.trans rs.1) rs.2
def spDropKey (C : Addr) (hn : Nat) : Sp := fun vs H Q _ => ∃ h, h < hn ∧ ∃ pm M a, ∃ t : Tr h, ∃ ka sa, ∃ e : Ent, vs = [.ref pm, .int (num t : Int), .ref ka, .ref sa] ∧ IsPM C H pm M ∧ AL M a ∧ repP h t 0 M ∧ Ok h t ∧ GE e ∧ H ka = some (.tup (iv e.1)) ∧ H sa = some (.tup [.int e.2.1, .int e.2.2]) ∧ Own (nums h t) a ∧ a.fresh ≤ 65534 ∧ e ∈ found t e.1 ∧
  ∀ H' M', But [pm] H H' → IsPM C H' pm M' → Step M M' a (dropR ⟨h, t⟩ e a).2 (nums h t) (nums (dropR ⟨h, t⟩ e a).1.h (dropR ⟨h, t⟩ e a).1.t) → repP (dropR ⟨h, t⟩ e a).1.h (dropR ⟨h, t⟩ e a).1.t 0 M' → Q (.bl true) H'
abbrev s_drop_key : Stmt := top 55
abbrev N_drop_key : List Str := ["pages", "root", "key", "spot", "page", "child"]
theorem sc_drop_key : FnScope N_drop_key ["pages", "root", "key", "spot"] (defScope s_drop_key) := ⟨rfl, rfl, rfl, by decide +kernel, rfl, by decide +kernel, by decide +kernel⟩
theorem ok_drop_key (F : At K mg "drop_key" s_drop_key) (T : Txt K mg C) (D_check_entry : Df P w K mg base "check_entry" 5 ["key", "spot"] spChkEntry) (D_drop_below : Df P w K mg base "drop_below" ((12 + hn)) ["pages", "number", "entry"] (spDropLt C hn)) (D_entries_from : Df P w K mg base "entries_from" 6 ["pages", "root", "low", "high"] (spEnts C)) (D_is_leaf : Df P w K mg base "is_leaf" 3 ["page"] spIsLeaf) (D_inner_parts : Df P w K mg base "inner_parts" 3 ["page"] spParts) (M_read : Dm P w K mg base C "read" 4 ["self", "number"] (spRead C)) (M_write : Dm P w K mg base C "write" 5 ["self", "number", "page"] (spWrite C)) (M_release : Dm P w K mg base C "release" 9 ["self", "number"] (spRelease C)) : Df P w K mg base "drop_key" (hn + 13) ["pages", "root", "key", "spot"] (spDropKey C hn) := by
  refine F.df sc_drop_key (fun _ _ _ _ _ _ us hl => match us, hl with | [_, _, _, _], _ => rfl) (fun vs H Q E h => ?_) (fun f cdv A outer s H vs Q E hr h => ?_)
  · obtain ⟨h, hl, pm, M, a, t, ka, sa, e, rfl, _⟩ := h; rfl
  · obtain ⟨h, hl, pm, M, a, t, ka, sa, e, rfl, hM, hA, hrep, hok, ge, hka, hsa, own, hf, hin, kt⟩ := h
    refine ⟨_, (pss_cons (ps_expr (pe_cd D_check_entry (hr.mono (by omega)) (pa_cons (pv 2) (pa_cons (pv 3) pa_nil))))
  (pss_cons (ps_if (pt_cmpR (op_notInD (hu65 hr)) (pe_tup (pa_cons (pv 2) (pa_cons (pv 3) pa_nil))) (pe_cd D_entries_from (hr.mono (by omega)) (pa_cons (pv 0) (pa_cons (pv 1) (pa_cons (pv 2) (pa_cons (pv 2) pa_nil))))) rfl)
  (pss_one (ps_ret pe_bl))
  pss_nil)
  (pss_cons (ps_expr (pe_cd D_drop_below (hr.mono (by omega)) (pa_cons (pv 0) (pa_cons (pv 1) (pa_cons (pe_tup (pa_cons (pv 2) (pa_cons (pv 3) pa_nil))) pa_nil)))))
  (pss_cons (ps_set (i := 4) sc_drop_key.nd rfl (Or.inl rfl) (pe_md T.cl M_read (hr.mono (by omega)) (pv 0) (pa_cons (pv 1) pa_nil)))
  (pss_cons (ps_while PassesOwn.never (PW.pt (pw_and (pt_not (pt_val (pe_cd D_is_leaf (hr.mono (by omega)) (pa_cons (pv 4) pa_nil)))) (pw_and1 (pt_cmpR op_eq (pe_callB call_len (by rfl) T.len (by decide +kernel) (pa_cons (pe_ix ix_tup (pe_cd D_inner_parts (hr.mono (by omega)) (pa_cons (pv 4) pa_nil)) pe_int (fun _ _ => rfl)) pa_nil)) pe_int (nomark _)))))
  (pss_cons (ps_set (i := 5) sc_drop_key.nd rfl (Or.inl rfl) (pe_ix ix_list (pe_ix ix_tup (pe_cd D_inner_parts (hr.mono (by omega)) (pa_cons (pv 4) pa_nil)) pe_int (fun _ _ => rfl)) pe_int (fun _ _ => rfl)))
  (pss_cons (ps_set (i := 4) sc_drop_key.nd rfl (Or.inl rfl) (pe_md T.cl M_read (hr.mono (by omega)) (pv 0) (pa_cons (pv 5) pa_nil)))
  (pss_cons (ps_expr (pe_md T.cl M_write (hr.mono (by omega)) (pv 0) (pa_cons (pv 1) (pa_cons (pv 4) pa_nil))))
  (pss_one (ps_expr (pe_md T.cl M_release (hr.mono (by omega)) (pv 0) (pa_cons (pv 5) pa_nil))))))))
  (pss_one (ps_ret pe_bl))))))), ?_⟩
    have hnum := own.lt (num_mem h t)
    refine ⟨_, rfl, _, rfl, .ref ka, .ref sa, e, rfl, ⟨ka, rfl, hka⟩, ⟨sa, rfl, hsa⟩, ge, fun H1 e1 => ?_⟩
    refine ⟨_, rfl, _, rfl, by show 2 ≤ sizeLine; decide, fun p hp => ?_⟩
    have e2 := e1.new (o := .tup [V.ref ka, V.ref sa]) hp
    have hE2 : IsE (upd H1 p (.tup [V.ref ka, V.ref sa])) (.ref p) e := ⟨p, ka, sa, rfl, upd_same, e2 _ _ hka, e2 _ _ hsa⟩
    generalize upd H1 p (.tup [V.ref ka, V.ref sa]) = H2 at *
    refine ⟨_, rfl, _, rfl, _, rfl, _, rfl, pm, M, a, h, t, _, _, e.1, rfl, hM.same e2, hrep, hok, own, by omega, ⟨ka, rfl, e2 _ _ hka⟩, ⟨ka, rfl, e2 _ _ hka⟩, fun v H3 e3 z3 => ?_⟩
    have e13 := e2.trans e3
    refine ⟨enc e, (found t e.1).map enc, (hE2.same e3).dp, z3.dp, shaped_enc e, shaped_lE _, _, rfl, ?_⟩
    rw [any_enc, decide_eq_true hin]
    refine ibF (by decide) ?_
    refine ⟨_, rfl, _, rfl, _, rfl, _, rfl, by show 2 ≤ sizeLine; decide, fun p4 hp4 => ?_⟩
    have e4 := e13.new (o := .tup [V.ref ka, V.ref sa]) hp4
    have hE4 : IsE (upd H3 p4 (.tup [V.ref ka, V.ref sa])) (.ref p4) e := ⟨p4, ka, sa, rfl, upd_same, e4 _ _ hka, e4 _ _ hsa⟩
    generalize upd H3 p4 (.tup [V.ref ka, V.ref sa]) = H4 at *
    have M4 := hM.same e4
    have f2 := num_drop h t e a
    have f4 := (drop_cnt h t e a hok).1
    have f3 := drop_ok h t e a hok
    unfold dropR at kt
    refine ⟨h, hl, pm, M, a, t, 0, .ref p4, e, rfl, M4, hA, hrep, hok, hE4, own, hf, by decide, fun H5 M1 b5 q5 st r5 => ?_⟩
    replace kt : ∀ H' M', But [pm] H H' → IsPM C H' pm M' → Step M M' a (shrink h (drop h t e a).1 (drop h t e a).2).2 (nums h t) (nums (shrink h (drop h t e a).1 (drop h t e a).2).1.h (shrink h (drop h t e a).1 (drop h t e a).2).1.t) → repP (shrink h (drop h t e a).1 (drop h t e a).2).1.h (shrink h (drop h t e a).1 (drop h t e a).2).1.t 0 M' → Q (.bl true) H' := kt
    generalize drop h t e a = pc at *
    obtain ⟨t', a1⟩ := pc
    have b05 := (But.of e4).trans b5
    obtain ⟨dx5, d5, hpm5⟩ := q5.at_
    have f2' : num t' = num t := f2
    have f4' : a1.fresh = a.fresh := f4
    refine ⟨_, rfl, pm, _, _, rfl, hpm5, pf_no d5 (by decide +kernel), _, rfl, pm, M1, num t, _, rfl, q5, by omega, by rw [← f2']; exact repP_pg r5, fun g H6 e6 z6 => ?_⟩
    refine ⟨fun m σ H' => ∃ t2 : Tr m, ∃ M' a' g w5, σ = [some (.ref pm), some (.int (num t : Int)), some (.ref ka), some (.ref sa), some g, w5] ∧ But [pm] H H' ∧ IsPM C H' pm M' ∧ Step M M' a a' (nums h t) (nums m t2) ∧ repP m t2 0 M' ∧ Ok m t2 ∧ num t2 = num t ∧ IsI H' g (pgT m t2 0) ∧ shrink m t2 a' = shrink h t' a1 ∧ a'.fresh = a.fresh,
      ⟨h, t', M1, a1, g, _, rfl, b05.trans (.of e6), q5.same e6, st, r5, f3, f2', z6, rfl, f4'⟩, ?_⟩
    rintro m σ H7 ⟨t2, M2, a2, g2, w5, rfl, b7, q7, st7, r7, ok7, n7, z7, es7, ef7⟩
    have own7 := st7.owns own
    cases m with
    | zero =>
      obtain ⟨n, es⟩ := t2
      refine ⟨_, rfl, g2, _, 3, rfl, z7, leafPg_kind es 0, .inl rfl, fun H8 e8 => ?_⟩
      refine ⟨_, rfl, iteF (iteF ?_)⟩
      have es7 : (⟨0, ⟨n, es⟩⟩, a2) = shrink h t' a1 := es7
      rw [← es7] at kt
      exact kt H8 M2 (b7.trans (.of e8)) (q7.same e8) st7 r7
    | succ m =>
      obtain ⟨n, wl, cs⟩ := t2
      obtain ⟨hl1, hz, hge, hoks⟩ := id ok7
      have own7' : Own (n :: numsL m cs) a2 := own7
      have hnl := nums_le own7' (by omega)
      have n7' : n = num t := n7
      have pl : (cs.map num).length = wl.length + 1 := by rw [List.length_map]; exact hl1
      have pz : isz wl (cs.map num).length ≤ 116 := by rw [List.length_map]; exact hz
      refine ⟨_, rfl, g2, _, 4, rfl, z7, innerPg_kind _ _, .inr rfl, fun H8 e8 => ?_⟩
      refine ⟨_, rfl, iteT ?_⟩
      refine ⟨_, rfl, sp_parts (E := E0) (z7.same e8) hge pl pz hnl fun u9 H9 e9 z9 => ?_⟩
      obtain ⟨t9, x9, y9, rfl, ht9, hx9, hy9⟩ := z9
      refine ⟨t9, _, 1, _, rfl, rfl, SqT.of ht9, atI_nat (j := 1) rfl, ?_⟩
      obtain ⟨ya, rfl, hya⟩ := hy9
      refine ⟨_, cs.length, rfl, .inl ⟨_, SqL.of hya, by rw [nv_len, List.length_map]⟩, rfl, _, rfl, ?_⟩
      have e79 := e8.trans e9
      by_cases c1 : cs.length = 1
      · obtain ⟨c, rfl⟩ := List.length_eq_one_iff.mp c1
        refine ibT (by rfl) ⟨fun σ H' => ∃ t2 : Tr m, ∃ M' a' g w5, σ = [some (.ref pm), some (.int (num t : Int)), some (.ref ka), some (.ref sa), some g, w5] ∧ But [pm] H H' ∧ IsPM C H' pm M' ∧ Step M M' a a' (nums h t) (nums m t2) ∧ repP m t2 0 M' ∧ Ok m t2 ∧ num t2 = num t ∧ IsI H' g (pgT m t2 0) ∧ shrink m t2 a' = shrink h t' a1 ∧ a'.fresh = a.fresh, fun σ' H' z => ⟨m, Nat.lt_succ_self m, z⟩, ?_⟩
        have hc9 : num c ≤ 65535 := hnl _ (by simp)
        have rc : repP m c 0 M2 := r7.2.1
        have q9 := q7.same e79
        obtain ⟨dx9, d9, hpm9⟩ := q9.at_
        have ss := shrink_step st7.al own7 (by omega) r7
        have hcin : num c ∈ nums (m + 1) (node n wl [c]) := List.mem_cons_of_mem _ (List.mem_append_left _ (num_mem m c))
        have hnin : n ∈ nums (m + 1) (node n wl [c]) := List.mem_cons_self
        have als := (Step.set st7.al own7 hnin (pgT m c 0)).al
        -- the child's number
        refine ⟨_, rfl, sp_parts (E := E0) ((z7.same e8).same e9) hge pl pz hnl fun uA HA eA zA => ?_⟩
        obtain ⟨tA, xA, yA, rfl, htA, hxA, hyA⟩ := zA
        refine ⟨tA, _, 1, _, rfl, rfl, SqT.of htA, atI_nat (j := 1) rfl, ?_⟩
        obtain ⟨yb, rfl, hyb⟩ := hyA
        refine ⟨yb, _, 0, _, rfl, rfl, SqL.of hyb, atI_nat (j := 0) rfl, ?_⟩
        have qA := q9.same eA
        refine ⟨_, rfl, pm, _, _, rfl, eA _ _ hpm9, pf_no d9 (by decide +kernel), _, rfl, pm, M2, num c, _, rfl, qA, hc9, repP_pg rc, fun g3 HB eB zB => ?_⟩
        have qB := qA.same eB
        refine ⟨_, rfl, pm, _, _, rfl, eB _ _ (eA _ _ hpm9), pf_no d9 (by decide +kernel), _, rfl, _, rfl, pm, M2, num t, g3, _, rfl, qB, by omega, zB, qB.pg (repP_pg rc), fun HC bC qC => ?_⟩
        rw [← n7'] at qC
        obtain ⟨dxC, dC, hpmC⟩ := qC.at_
        have zC := qB.keepI bC zB
        refine ⟨_, rfl, pm, _, _, rfl, hpmC, pf_no dC (by decide +kernel), _, rfl, pm, _, a2, num c, rfl, qC, als, own7.al (by omega), by have := own7.ne0 hcin; omega, own7.lt hcin, own7.not_free hcin, fun HD bD qD => ?_⟩
        refine ⟨renum c n, _, a2.give (num c), g3, _, rfl, ((b7.trans (.of e79)).trans (.of (eA.trans eB))).trans (bC.trans bD), qD, st7.trans ss.1, ss.2, renum_ok (hoks c List.mem_cons_self), by rw [num_renum]; exact n7', ?_, ?_, ef7⟩
        · have e : pgT m (renum c n) 0 = pgT m c 0 := by
            cases m with
            | zero => rfl
            | succ m => rfl
          rw [e]
          exact qC.keepI bD zC
        · rw [← es7]
          exact shrink_one.symm
      · refine ibF ?_ ?_
        · rw [vint_ne (show ((cs.length : Nat) : Int) ≠ 1 by omega)]
          decide
        · rw [shrink_not c1] at es7
          rw [← es7] at kt
          exact kt H9 M2 (b7.trans (.of e79)) (q7.same e79) st7 r7
end
end K7
namespace K7
open PySem PySem.Spec PyProof.Rows L2
theorem numsL_snoc {h : Nat} {cs : List (Tr h)} {i : Nat} {c : Tr h} (hc : cs[i]? = some c) : numsL h (cs.take (i + 1)) = numsL h (cs.take i) ++ nums h c := by
  rw [take_snoc hc, numsL_app]
  show _ ++ (nums h c ++ []) = _
  rw [List.append_nil]
theorem numsL_take_le {h : Nat} (cs : List (Tr h)) (i : Nat) : (numsL h (cs.take i)).length ≤ (numsL h cs).length := by
  conv => rhs; rw [← List.take_append_drop i cs]
  rw [numsL_app, List.length_append]
  omega
section
variable {P : Program} {w : World} {K : PySem.W.Frag} {mg : Str → Option Value} {base : Heap} {C : Addr}
def spPagesLt (C : Addr) (hn : Nat) : Sp := fun vs H Q _ => ∃ h, h < hn ∧ ∃ pm M a, ∃ t : Tr h, ∃ nx, vs = [.ref pm, .int (num t : Int)] ∧ IsPM C H pm M ∧ repP h t nx M ∧ Ok h t ∧ Own (nums h t) a ∧ a.fresh ≤ 65534 ∧
  ∀ p H', Same H H' → H p = none → H' p = some (.lst (nv (nums h t))) → Q (.ref p) H'
abbrev s_pages_of : Stmt := top 62
abbrev N_pages_of : List Str := ["pages", "root", "found", "page", "child"]
theorem sc_pages_of : FnScope N_pages_of ["pages", "root"] (defScope s_pages_of) := ⟨rfl, rfl, rfl, by decide +kernel, rfl, by decide +kernel, by decide +kernel⟩
theorem ok_pages_of (F : At K mg "pages_of" s_pages_of) (T : Txt K mg C) (D_is_leaf : Df P w K mg base "is_leaf" 3 ["page"] spIsLeaf) (D_inner_parts : Df P w K mg base "inner_parts" 3 ["page"] spParts) (M_read : Dm P w K mg base C "read" 4 ["self", "number"] (spRead C)) : ∀ hn, Df P w K mg base "pages_of" (5 + hn) ["pages", "root"] (spPagesLt C hn) := by
  intro hn
  induction hn with
  | zero =>
    show Df P w K mg base "pages_of" (4 + 1) ["pages", "root"] (spPagesLt C 0)
    exact F.df sc_pages_of (fun _ _ _ _ _ _ us hl => match us, hl with | [_, _], _ => rfl) (fun vs H Q E h => by obtain ⟨_, hl, _⟩ := h; omega) (fun f cdv A outer s H vs Q E hr h => by obtain ⟨_, hl, _⟩ := h; omega)
  | succ hn D_pages_of =>
    show Df P w K mg base "pages_of" ((5 + hn) + 1) ["pages", "root"] (spPagesLt C (hn + 1))
    refine F.df sc_pages_of (fun _ _ _ _ _ _ us hl => match us, hl with | [_, _], _ => rfl) (fun vs H Q E h => ?_) (fun f cdv A outer s H vs Q E hr h => ?_)
    · obtain ⟨h, hl, pm, M, a, t, nx, rfl, _⟩ := h; rfl
    · obtain ⟨h, hl, pm, M, a, t, nx, rfl, hM, hrep, hok, own, hf, k⟩ := h
      refine ⟨_, (pss_cons (ps_par (i := 2) (j := 3) (by rfl) sc_pages_of.nd rfl rfl (by decide) rfl rfl (pa_cons (pe_lst (pa_cons (pv 1) pa_nil)) (pa_cons (pe_md T.cl M_read (hr.mono (by omega)) (pv 0) (pa_cons (pv 1) pa_nil)) pa_nil)) (by rfl))
  (pss_cons (ps_if (pt_not (pt_val (pe_cd D_is_leaf (hr.mono (by omega)) (pa_cons (pv 3) pa_nil))))
  (pss_one (ps_for PassesOwn.never rfl (pi_list (pe_ix ix_tup (pe_cd D_inner_parts (hr.mono (by omega)) (pa_cons (pv 3) pa_nil)) pe_int (fun _ _ => rfl))) (pg_name (i := 4) sc_pages_of.nd rfl (Or.inl rfl))
  (pss_one (ps_expr (pe_bm PySem.F.plainAttrs_list PySem.F.slot_list_extend PySem.F.type_list_extend mt_extend (pv 2) (pa_cons (pe_cd D_pages_of (hr.mono (by omega)) (pa_cons (pv 0) (pa_cons (pv 4) pa_nil))) pa_nil))))))
  pss_nil)
  (pss_one (ps_ret (pv 2))))), ?_⟩
      obtain ⟨dx, d, hpm⟩ := hM.at_
      have hnum := own.lt (num_mem h t)
      refine ⟨_, rfl, by show 1 ≤ sizeLine; decide, fun p hp => ?_⟩
      have n1 := L2.Same.new1 (o := .lst [V.int ((num t : Nat) : Int)]) hp
      refine ⟨_, rfl, pm, _, _, rfl, n1 _ _ hpm, pf_no d (by decide +kernel), _, rfl, pm, M, num t, _, rfl, hM.same n1, by omega, repP_pg hrep, fun g H1 e1 z1 => ?_⟩
      refine ⟨_, _, rfl, ?_⟩
      have e01 := n1.trans e1
      have hp1 : H1 p = some (.lst [V.int ((num t : Nat) : Int)]) := e1 _ _ upd_same
      cases h with
      | zero =>
        obtain ⟨n, es⟩ := t
        refine ⟨_, rfl, g, _, 3, rfl, z1, leafPg_kind es nx, .inl rfl, fun H2 e2 => ?_⟩
        refine ⟨_, rfl, iteF ⟨_, rfl, ?_⟩⟩
        exact k p H2 (e01.trans e2) hp (e2 _ _ hp1)
      | succ h =>
        obtain ⟨n, wl, cs⟩ := t
        obtain ⟨hl1, hz, hge, hoks⟩ := id hok
        obtain ⟨hMn, hreps⟩ := id hrep
        have own' : Own (n :: numsL h cs) a := own
        have pl : (cs.map num).length = wl.length + 1 := by rw [List.length_map]; exact hl1
        have pz : isz wl (cs.map num).length ≤ 116 := by rw [List.length_map]; exact hz
        have onl := own_len own'
        rw [List.length_cons] at onl
        refine ⟨_, rfl, g, _, 4, rfl, z1, innerPg_kind _ _, .inr rfl, fun H2 e2 => ?_⟩
        refine ⟨_, rfl, iteT ?_⟩
        refine ⟨_, rfl, sp_parts (E := E0) (z1.same e2) hge pl pz (nums_le own' (by omega)) fun u3 H3 e3 z3 => ?_⟩
        obtain ⟨t3, x3, y3, rfl, ht3, hx3, hy3⟩ := z3
        refine ⟨t3, _, 1, _, rfl, rfl, SqT.of ht3, atI_nat (j := 1) rfl, ?_⟩
        obtain ⟨ya, rfl, hya⟩ := hy3
        have e03 := (e01.trans e2).trans e3
        have hp3 : H3 p = some (.lst [V.int ((n : Nat) : Int)]) := e3 _ _ (e2 _ _ hp1)
        have npy : ya ≠ p := fun e => by
          rw [e, hp3] at hya
          have e2 : [n] = cs.map num := by
            have q : nv [n] = nv (cs.map num) := by
              injection hya with q
              injection q
            unfold nv at q
            exact (List.map_inj_right (fun a b ab => by injection ab with ab; exact Int.ofNat.inj ab)).mp q
          match cs, e2 with
          | [c], e2 =>
            have : n = num c := by simpa using e2
            exact own'.hd (by rw [this]; exact List.mem_append_left _ (num_mem h c))
        have fp : H p = none := hp
        refine ⟨ya, rfl, ⟨_, SqL.of hya⟩, for_list (xs := nv (cs.map num)) (fun i σ H' => ∃ t4, σ = [some (.ref pm), some (.int (n : Int)), some (.ref p), some g, t4] ∧ Same H H' ∧ H' ya = some (.lst (nv (cs.map num))) ∧ H' p = some (.lst (nv (n :: numsL h (cs.take i)))))
          ⟨_, rfl, e03, hya, hp3⟩ (fun i σ H' _ ⟨_, _, _, y, _⟩ => SqL.of y) ?_ ?_⟩
        · rintro i x σ H4 hx ⟨t4, rfl, e4, hy4, hp4⟩
          obtain ⟨m, hm, rfl⟩ := nv_get' hx
          rw [List.getElem?_map] at hm
          obtain ⟨c, hc, rfl⟩ := Option.map_eq_some_iff.mp hm
          obtain ⟨A', B', ec1, ec2, ec3, ec4⟩ := dec hc
          have rc : repP h c (firstL (first h) B' nx) M := by
            have q := hreps
            rw [ec1, repLs_app] at q
            exact q.2.1
          have oc : Own (nums h c) a := by
            rw [ec1] at own'
            exact kid_own own'
          refine ⟨_, rfl, .inl ⟨rfl, _, SqL.of hp4⟩, _, rfl, _, rfl, ?_⟩
          refine ⟨h, by omega, pm, M, a, c, _, rfl, hM.same e4, rc, hoks c (List.mem_of_getElem? hc), oc, hf, fun q H5 e5 hq4 hq5 => ?_⟩
          have hp5 := e5 _ _ hp4
          have n1' := numsL_take_le cs i
          have n2' := numsL_take_le cs (i + 1)
          rw [numsL_snoc hc, List.length_append] at n2'
          refine ⟨p, q, _, _, rfl, rfl, hp5, hq5, ?_, ?_⟩
          · rw [nv_len, nv_len, List.length_cons]
            exact sz_of (by omega)
          refine ⟨_, rfl, L2.Same.mut (e4.trans e5) fp, by rw [upd_ne npy]; exact e5 _ _ hy4, ?_⟩
          rw [upd_same, ← nv_app, numsL_snoc hc]
          rfl
        · rintro σ H4 ⟨t4, rfl, e4, hy4, hp4⟩
          rw [nv_len, List.length_map, List.take_length] at hp4
          exact ⟨_, rfl, k p H4 e4 hp hp4⟩
end
end K7
namespace K7
open PySem PySem.Spec PyProof.Rows L2
def lI (ns : List Int) : PyData := .list (ns.map .int)
theorem cl_lI (ns : List Int) : (lI ns).canLay0 = true := by
  unfold lI
  rw [PyData.canLay0]
  exact cl_ints ns
theorem shaped_lI (ns : List Int) : SeqAt.shaped (lI ns) = true := shaped_of (cl_lI ns) (by unfold lI; rw [PyData.depth, depth_ints]; decide)
theorem eqv_nil_I (ns : List Int) : PyData.eqv (lI ns) (.list []) = decide (ns = []) := by
  cases ns with
  | nil => rw [decide_eq_true rfl]; exact PySem.SeqAt.eqv_refl _ (cl_lI [])
  | cons e es =>
    rw [decide_eq_false (by simp)]
    unfold lI
    rw [List.map_cons]
    simp [PyData.eqv, PyData.eqvAll]
/-- what an expression comes to, told once for all its ways -/
theorem via {T : VK → Prop} {Q : VK} (R : V → Hp → Prop) (h : ∀ Q0 : VK, (∀ v H', R v H' → Q0 v H') → T Q0) (k : ∀ v H', R v H' → Q v H') : T Q := h Q k
theorem SqL.to {K : PySem.W.Frag} {H H' : Hp} {a : Addr} {xs : List V} (h : SqL K H a xs) (e : Same H H') : SqL K H' a xs :=
  h.elim (fun h => .inl (h.elim (fun h => .inl (e _ _ h)) fun ⟨o, h⟩ => .inr ⟨o, e _ _ h⟩)) fun h => .inr h
section
variable {P : Program} {w : World} {K : PySem.W.Frag} {mg : Str → Option Value} {base : Heap} {C : Addr}
def spLNum (K : PySem.W.Frag) : Sp := fun vs H Q _ => ∃ sc ns, ∃ i : Nat, ns.length ≤ 1000 ∧ vs = [.ref sc, .int (i : Int)] ∧ SqL K H sc (iv ns) ∧ ∀ r H', Same H H' → Q (.int r) H'
abbrev s__law_number : Stmt := top 77
abbrev N__law_number : List Str := ["_law_script", "_law_index", "_law_cells", "_law_cell", "_law_low", "_law_high", "_law_total", "_law_blend"]
theorem sc__law_number : FnScope N__law_number ["_law_script", "_law_index"] (defScope s__law_number) := ⟨rfl, rfl, rfl, by decide +kernel, rfl, by decide +kernel, by decide +kernel⟩
theorem ok__law_number (F : At K mg "_law_number" s__law_number) (T : Txt K mg C)  : Df P w K mg base "_law_number" 1 ["_law_script", "_law_index"] (spLNum K) := by
  refine F.df sc__law_number (fun _ _ _ _ _ _ us hl => match us, hl with | [_, _], _ => rfl) (fun vs H Q E h => ?_) (fun f cdv A outer s H vs Q E hr h => ?_)
  · obtain ⟨sc, ns, i, hl, rfl, _⟩ := h; rfl
  · obtain ⟨sc, ns, i, hl, rfl, hsc, k⟩ := h
    refine ⟨_, (pss_cons (ps_set (i := 2) sc__law_number.nd rfl (Or.inl rfl) (pe_ifExp (pt_cmpR (op_neD (hu64 hr)) (pv 0) (pe_lst pa_nil) (nomark _)) (pe_slice sl_list (pv 0) po_none (po_some pe_int)) (pe_lst (pa_cons pe_int pa_nil))))
  (pss_cons (ps_set (i := 3) sc__law_number.nd rfl (Or.inl rfl) (pe_op op_add (pe_ix ix_list (pv 2) (pe_op op_mod (pe_callTy call_int1 (by rfl) T.int (by decide +kernel) (pa_cons (pv 1) pa_nil)) (pe_callB call_len (by rfl) T.len (by decide +kernel) (pa_cons (pv 2) pa_nil))) (fun _ _ => rfl)) (pe_op op_mul pe_int (pe_op op_fdiv (pv 1) (pe_callB call_len (by rfl) T.len (by decide +kernel) (pa_cons (pv 2) pa_nil))))))
  (pss_cons (ps_par (i := 4) (j := 5) (by rfl) sc__law_number.nd rfl rfl (by decide) rfl rfl (pa_cons (pe_op op_mod (pe_callTy call_int1 (by rfl) T.int (by decide +kernel) (pa_cons (pv 3) pa_nil)) pe_int) (pa_cons (pe_op op_mod (pe_callTy call_int1 (by rfl) T.int (by decide +kernel) (pa_cons (pe_op op_fdiv (pv 3) pe_int) pa_nil)) pe_int) pa_nil)) (by rfl))
  (pss_cons (ps_set (i := 6) sc__law_number.nd rfl (Or.inl rfl) (pe_op op_mod (pe_callTy call_int1 (by rfl) T.int (by decide +kernel) (pa_cons (pe_callB (cr_sum rfl) (by rfl) T.sum (by decide +kernel) (pa_cons (pv 2) pa_nil)) pa_nil)) pe_int))
  (pss_cons (ps_set (i := 7) sc__law_number.nd rfl (Or.inl rfl) (pe_op op_mod (pe_callTy call_int1 (by rfl) T.int (by decide +kernel) (pa_cons (pe_op op_add (pe_op op_add (pe_op op_mul (pe_op op_add (pv 4) (pe_op op_mul pe_int (pv 1))) pe_int) (pe_op op_mul pe_int (pv 5))) (pv 6)) pa_nil)) pe_int))
  (pss_one (ps_ret (pe_op op_add (pe_op op_mul (pe_op op_mod (pe_callTy call_int1 (by rfl) T.int (by decide +kernel) (pa_cons (pe_op op_mul (pv 7) (pe_op op_add (pe_op op_add (pv 7) (pe_op op_mul pe_int (pv 1))) pe_int)) pa_nil)) pe_int) pe_int) (pv 5))))))))), ?_⟩
    have q : ∀ r : Int, r % 2147483647 < 2 ^ 64 ∧ -(2 ^ 64) < r % 2147483647 := fun r => by
      have h1 := Int.emod_nonneg r (show (2147483647 : Int) ≠ 0 by decide)
      have h2 := Int.emod_lt_of_pos r (show (0 : Int) < 2147483647 by decide)
      omega
    refine via (T := fun Q => tIf _ _ _ _ _ Q) (fun v H2 => Same H H2 ∧ ∃ p2, ∃ cs : List Int, v = .ref p2 ∧ H2 p2 = some (.lst (iv cs)) ∧ cs ≠ [] ∧ cs.length ≤ 1000) ?_ ?_
    · intro Q0 k0
      refine ⟨_, rfl, Nat.zero_le _, fun p hp => ?_⟩
      have n1 := L2.Same.new1 (o := .lst []) hp
      have hs1 : SqL K (upd H p (.lst [])) sc (iv ns) := SqL.to hsc n1
      refine ⟨lI ns, .list [], .lst hs1 (dp_ints ns), .lst (SqL.of upd_same) .nil, shaped_lI ns, shaped_nil, _, rfl, ?_⟩
      rw [eqv_nil_I]
      by_cases c : ns = []
      · refine ibF (by rw [decide_eq_true c]; decide) ?_
        refine ⟨by show 1 ≤ sizeLine; decide, fun p2 hp2 => ?_⟩
        exact k0 _ _ ⟨n1.new hp2, p2, [5], rfl, upd_same, by simp, by simp⟩
      · refine ibT (by rw [decide_eq_false c]; decide) ?_
        refine ⟨_, rfl, _, rfl, sc, _, rfl, hs1, fun p2 hp2 => ?_⟩
        refine k0 _ _ ⟨n1.new hp2, p2, ns.take 63, rfl, ?_, by simp [c], by rw [List.length_take]; omega⟩
        rw [upd_same, ← iv_take]
        exact congrArg (fun z => some (HO.lst z)) (cut_to (xs := iv ns) 63)
    rintro v H2 ⟨e2, p2, cs, rfl, h2, cne, cl⟩
    have c0 : 0 < cs.length := by
      cases cs with
      | nil => exact absurd rfl cne
      | cons x cs => simp
    have hm1 := Int.emod_nonneg (i : Int) (show ((cs.length : Nat) : Int) ≠ 0 by omega)
    have hm2 := Int.emod_lt_of_pos (i : Int) (show (0 : Int) < ((cs.length : Nat) : Int) by omega)
    obtain ⟨x, hx⟩ : ∃ x, cs[((i : Int) % ((cs.length : Nat) : Int)).toNat]? = some x := ⟨_, List.getElem?_eq_getElem (by omega)⟩
    have hat : atI (iv cs) ((i : Int) % ((cs.length : Nat) : Int)) = some (.int x) := by
      rw [show (i : Int) % ((cs.length : Nat) : Int) = ((((i : Int) % ((cs.length : Nat) : Int)).toNat : Nat) : Int) by omega]
      exact atI_nat (iv_get hx)
    have hlen : LenV K (.ref p2) H2 cs.length := .inl ⟨_, SqL.of h2, (iv_len cs).symm⟩
    refine ⟨_, rfl, _, rfl, .inl ⟨_, rfl, ?_⟩⟩
    refine ⟨_, rfl, _, _, rfl, hlen, _, _, rfl, rfl, by omega, ?_⟩
    refine ⟨p2, _, _, _, rfl, rfl, SqL.of h2, hat, ?_⟩
    have c13 : CMul 13 ((i : Int) / ((cs.length : Nat) : Int)) := .inl ⟨by decide, by decide⟩
    refine ⟨_, rfl, _, rfl, _, _, rfl, hlen, _, _, rfl, rfl, ⟨by omega, by omega⟩, _, _, rfl, rfl, c13, _, _, rfl, rfl, ?_⟩
    refine ⟨_, rfl, .inl ⟨_, rfl, _, _, rfl, rfl, (by show (0 : Int) < _; decide), ?_⟩⟩
    refine ⟨_, rfl, _, _, rfl, rfl, ⟨by decide, by decide⟩, .inl ⟨_, rfl, _, _, rfl, rfl, (by show (0 : Int) < _; decide), ?_⟩⟩
    refine ⟨_, _, rfl, ?_⟩
    refine ⟨_, rfl, p2, cs, rfl, SqL.of h2, .inl ⟨_, rfl, _, _, rfl, rfl, (by show (0 : Int) < _; decide), ?_⟩⟩
    refine ⟨_, rfl, _, rfl, _, _, rfl, rfl, .inl ⟨by decide, by decide⟩, _, _, rfl, rfl, _, _, rfl, rfl, .inr ⟨by decide, by decide⟩, ?_⟩
    refine ⟨_, rfl, _, _, rfl, rfl, .inl ⟨by decide, by decide⟩, _, _, rfl, rfl, _, rfl, _, _, rfl, rfl, .inl ⟨_, rfl, _, _, rfl, rfl, (by show (0 : Int) < _; decide), ?_⟩⟩
    refine ⟨_, rfl, _, rfl, _, rfl, _, _, rfl, rfl, .inl ⟨by decide, by decide⟩, _, _, rfl, rfl, _, _, rfl, rfl, _, _, rfl, rfl, .inl ⟨(q _).2, (q _).1⟩, .inl ⟨_, rfl, _, _, rfl, rfl, (by show (0 : Int) < _; decide), ?_⟩⟩
    refine ⟨_, _, rfl, rfl, .inr ⟨by decide, by decide⟩, _, rfl, _, _, rfl, rfl, ?_⟩
    exact k _ _ e2
def spLTake (K : PySem.W.Frag) : Sp := fun vs H Q _ => ∃ d sc ns, ∃ i : Nat, ∃ m : Int, ns.length ≤ 1000 ∧ vs = [.ref d, .int m] ∧ H d = some (.lst [.ref sc, .int (i : Int)]) ∧ (∀ H', But [d] H H' → SqL K H' sc (iv ns)) ∧ 0 < m ∧
  ∀ (r : Int) H', 0 ≤ r → r < m → But [d] H H' → H' d = some (.lst [.ref sc, .int ((i + 1 : Nat) : Int)]) → Q (.int r) H'
abbrev s__law_take : Stmt := top 78
abbrev N__law_take : List Str := ["_law_draw", "_law_many"]
theorem sc__law_take : FnScope N__law_take ["_law_draw", "_law_many"] (defScope s__law_take) := ⟨rfl, rfl, rfl, by decide +kernel, rfl, by decide +kernel, by decide +kernel⟩
theorem ok__law_take (F : At K mg "_law_take" s__law_take) (T : Txt K mg C) (D__law_number : Df P w K mg base "_law_number" 1 ["_law_script", "_law_index"] (spLNum K)) : Df P w K mg base "_law_take" 2 ["_law_draw", "_law_many"] (spLTake K) := by
  refine F.df sc__law_take (fun _ _ _ _ _ _ us hl => match us, hl with | [_, _], _ => rfl) (fun vs H Q E h => ?_) (fun f cdv A outer s H vs Q E hr h => ?_)
  · obtain ⟨d, sc, ns, i, m, hl, rfl, _⟩ := h; rfl
  · obtain ⟨d, sc, ns, i, m, hl, rfl, hd, hsc, hm, k⟩ := h
    refine ⟨_, (pss_cons (ps_asg (pe_op op_add (pe_ix ix_list (pv 0) pe_int (fun _ _ => rfl)) pe_int) (pg_sub (pv 0) pe_int set_list))
  (pss_one (ps_ret (pe_op op_mod (pe_callTy call_int1 (by rfl) T.int (by decide +kernel) (pa_cons (pe_cd D__law_number (hr.mono (by omega)) (pa_cons (pe_ix ix_list (pv 0) pe_int (fun _ _ => rfl)) (pa_cons (pe_callTy call_int1 (by rfl) T.int (by decide +kernel) (pa_cons (pe_ix ix_list (pv 0) pe_int (fun _ _ => rfl)) pa_nil)) pa_nil))) pa_nil)) (pv 1))))), ?_⟩
    refine ⟨_, rfl, d, _, 1, _, rfl, rfl, SqL.of hd, atI_nat (j := 1) rfl, _, _, rfl, rfl, ?_⟩
    refine ⟨_, rfl, d, _, 1, 1, rfl, rfl, hd, rfl, ?_⟩
    have b1 : But [d] H (upd H d (.lst ([V.ref sc, V.int (i : Int)].set 1 (V.int ((i : Int) + 1))))) := (But.refl _ H).upd List.mem_cons_self
    have hd1 : upd H d (.lst ([V.ref sc, V.int (i : Int)].set 1 (V.int ((i : Int) + 1)))) d = some (.lst [.ref sc, .int ((i + 1 : Nat) : Int)]) := by
      rw [upd_same]
      rfl
    generalize upd H d (.lst ([V.ref sc, V.int (i : Int)].set 1 (V.int ((i : Int) + 1)))) = H1 at *
    refine ⟨_, rfl, d, _, 0, _, rfl, rfl, SqL.of hd1, atI_nat (j := 0) rfl, _, rfl, d, _, 1, _, rfl, rfl, SqL.of hd1, atI_nat (j := 1) rfl, .inl ⟨_, rfl, ?_⟩⟩
    refine ⟨sc, ns, i + 1, hl, rfl, hsc _ b1, fun r H2 e2 => .inl ⟨_, rfl, _, rfl, _, _, rfl, rfl, hm, ?_⟩⟩
    exact k _ _ (Int.emod_nonneg _ (by omega)) (Int.emod_lt_of_pos _ hm) (b1.trans (.of e2)) (e2 _ _ hd1)
def spLPick (K : PySem.W.Frag) : Sp := fun vs H Q _ => ∃ d sc ns, ∃ i : Nat, ∃ a xs, ns.length ≤ 1000 ∧ vs = [.ref d, .ref a] ∧ H d = some (.lst [.ref sc, .int (i : Int)]) ∧ (∀ H', But [d] H H' → SqL K H' sc (iv ns)) ∧ a ≠ d ∧ H a = some (.lst xs) ∧ xs ≠ [] ∧ xs.length ≤ 100000 ∧
  ∀ (j : Nat) v H', xs[j]? = some v → But [d] H H' → H' d = some (.lst [.ref sc, .int ((i + 1 : Nat) : Int)]) → Q v H'
abbrev s__law_pick : Stmt := top 79
abbrev N__law_pick : List Str := ["_law_draw", "_law_things"]
theorem sc__law_pick : FnScope N__law_pick ["_law_draw", "_law_things"] (defScope s__law_pick) := ⟨rfl, rfl, rfl, by decide +kernel, rfl, by decide +kernel, by decide +kernel⟩
theorem ok__law_pick (F : At K mg "_law_pick" s__law_pick) (T : Txt K mg C) (D__law_take : Df P w K mg base "_law_take" 2 ["_law_draw", "_law_many"] (spLTake K)) : Df P w K mg base "_law_pick" 3 ["_law_draw", "_law_things"] (spLPick K) := by
  refine F.df sc__law_pick (fun _ _ _ _ _ _ us hl => match us, hl with | [_, _], _ => rfl) (fun vs H Q E h => ?_) (fun f cdv A outer s H vs Q E hr h => ?_)
  · obtain ⟨d, sc, ns, i, a, xs, hl, rfl, _⟩ := h; rfl
  · obtain ⟨d, sc, ns, i, a, xs, hl, rfl, hd, hsc, had, ha, hne, hxl, k⟩ := h
    refine ⟨_, (pss_one (ps_ret (pe_ix ix_list (pv 1) (pe_cd D__law_take (hr.mono (by omega)) (pa_cons (pv 0) (pa_cons (pe_callB call_len (by rfl) T.len (by decide +kernel) (pa_cons (pv 1) pa_nil)) pa_nil))) (fun _ _ => rfl)))), ?_⟩
    have c0 : 0 < xs.length := by
      cases xs with
      | nil => exact absurd rfl hne
      | cons x xs => simp
    refine ⟨_, rfl, _, rfl, _, rfl, _, xs.length, rfl, .inl ⟨_, SqL.of ha, rfl⟩, ?_⟩
    refine ⟨d, sc, ns, i, _, hl, rfl, hd, hsc, by omega, fun r H1 r0 r1 b1 hd1 => ?_⟩
    obtain ⟨y, hx⟩ : ∃ y, xs[r.toNat]? = some y := ⟨_, List.getElem?_eq_getElem (by omega)⟩
    have hat : atI xs r = some y := by
      rw [show r = ((r.toNat : Nat) : Int) by omega]
      exact atI_nat hx
    have nad : a ∉ [d] := fun m => had (List.mem_singleton.mp m)
    exact ⟨a, xs, r, _, rfl, rfl, SqL.of (b1 _ _ nad ha), hat, k _ _ _ hx b1 hd1⟩
def spLTs : Sp := fun vs H Q _ => ∃ v, ∃ es : List Ent, vs = [v] ∧ IsEL H v es ∧ es.length ≤ 1000 ∧ ∀ H', Same H H' → Q (.int (lsz es : Nat)) H'
abbrev s__law_tree_size : Stmt := top 80
abbrev N__law_tree_size : List Str := ["_law_entries", "_law_entry"]
theorem sc__law_tree_size : FnScope N__law_tree_size ["_law_entries"] (defScope s__law_tree_size) := ⟨rfl, rfl, rfl, by decide +kernel, rfl, by decide +kernel, by decide +kernel⟩
theorem ok__law_tree_size (F : At K mg "_law_tree_size" s__law_tree_size) (T : Txt K mg C)  : Df P w K mg base "_law_tree_size" 1 ["_law_entries"] spLTs := by
  refine F.df sc__law_tree_size (fun _ _ _ _ _ _ us hl => match us, hl with | [_], _ => rfl) (fun vs H Q E h => ?_) (fun f cdv A outer s H vs Q E hr h => ?_)
  · obtain ⟨v, es, rfl, _⟩ := h; rfl
  · obtain ⟨v, es, rfl, ⟨a, xs, rfl, ha, hes⟩, hl, k⟩ := h
    refine ⟨_, (pss_one (ps_ret (pe_callB (cr_sum rfl) (by rfl) T.sum (by decide +kernel) (pa_cons (pe_lc (own := [("_law_entry", 1)]) (g := gName 1) (tt := tYes) rfl sc__law_tree_size.nd (pi_list (pv 0)) (blkOk_by (own := [("_law_entry", 1)]) (N := N__law_tree_size) (sc := defScope s__law_tree_size) (by decide +kernel)) (fun _ _ _ _ _ => pg_name (i := 1) sc__law_tree_size.nd rfl (Or.inl rfl)) (fun _ _ _ _ _ => pts_nil) (fun _ _ _ _ _ => (pe_op op_add (pe_callB (call_lenK K) (by rfl) T.len (by decide +kernel) (pa_cons (pe_ix (ix_tupK K) (pv 1) pe_int (fun _ _ => rfl)) pa_nil)) pe_int))) pa_nil)))), ?_⟩
    refine ⟨_, rfl, a, rfl, ⟨_, SqL.of ha⟩, fun D hD => lc_list (xs := xs) (fun i H' => Same H H' ∧ H' D = some (.lst (iv (szs (es.take i)))) ∧ i ≤ xs.length) ⟨L2.Same.new1 hD, upd_same, Nat.zero_le _⟩ (fun i H' _ z => SqL.of (z.1 _ _ ha)) ?_ ?_⟩
    · intro i x H' hx ⟨z1, z2, z3⟩
      obtain ⟨e, he, ze⟩ := Paired.get' hes hx
      have hi := (List.getElem?_eq_some_iff.mp hx).1
      obtain ⟨tx, kx, sx, rfl, htx, hkx, hsx⟩ := ze.same z1
      refine ⟨rfl, ?_⟩
      refine ⟨_, rfl, tx, _, 0, _, rfl, rfl, SqT.of htx, atI_nat (j := 0) rfl, _, e.1.length, rfl, .inr ⟨_, SqT.of hkx, (iv_len _).symm⟩, _, _, rfl, rfl, ?_⟩
      refine ⟨_, z2, sz_lt ?_, L2.Same.mut z1 hD, ?_, hi⟩
      · rw [iv_len, szs_len, List.length_take]
        omega
      · rw [upd_same, take_snoc he]
        unfold szs
        rw [List.map_append, ← iv_app]
        rfl
    · intro H' ⟨z1, z2, z3⟩
      rw [hes.length, List.take_length] at z2
      refine ⟨D, szs es, rfl, SqL.of z2, ?_⟩
      rw [szs_sum]
      exact k _ z1
end
end K7
namespace K7
open PySem PySem.Spec PyProof.Rows L2
section
variable {P : Program} {w : World} {K : PySem.W.Frag} {mg : Str → Option Value} {base : Heap} {C : Addr}
abbrev s__law_half : Stmt := top 81
abbrev N__law_half : List Str := ["_law_sizes", "_law_best", "_law_many", "_law_apart", "_law_one"]
theorem sc__law_half : FnScope N__law_half ["_law_sizes"] (defScope s__law_half) := ⟨rfl, rfl, rfl, by decide +kernel, rfl, by decide +kernel, by decide +kernel⟩
theorem ok__law_half (F : At K mg "_law_half" s__law_half) (T : Txt K mg C)  : Df P w K mg base "_law_half" 1 ["_law_sizes"] spHalf := by
  refine F.df sc__law_half (fun _ _ _ _ _ _ us hl => match us, hl with | [_], _ => rfl) (fun vs H Q E h => ?_) (fun f cdv A outer s H vs Q E hr h => ?_)
  · obtain ⟨a, ns, rfl, _⟩ := h; rfl
  · obtain ⟨a, ns, rfl, ha, h2, hl, k⟩ := h
    refine ⟨_, (pss_cons (ps_set (i := 1) sc__law_half.nd rfl (Or.inl rfl) pe_int)
  (pss_cons (ps_for PassesOwn.never rfl (pi_range2 rfl T.range (pa_cons pe_int (pa_cons (pe_callB call_len (by rfl) T.len (by decide +kernel) (pa_cons (pv 0) pa_nil)) pa_nil))) (pg_name (i := 2) sc__law_half.nd rfl (Or.inl rfl))
  (pss_cons (ps_setLc (i := 3) (own := [("_law_one", 4)]) (g := gName 4) (tt := tYes) rfl sc__law_half.nd rfl rfl (sw_true rfl rfl rfl (by decide +kernel)) (pi_tup (pe_tup (pa_cons (pv 1) (pa_cons (pv 2) pa_nil)))) (blkOk_by (own := [("_law_one", 4)]) (N := N__law_half) (sc := defScope s__law_half) (by decide +kernel)) (fun _ _ _ _ _ => pg_name (i := 4) sc__law_half.nd rfl (Or.inl rfl)) (fun _ _ _ _ _ => pts_nil) (fun _ _ _ _ _ => (pe_callB call_abs (by rfl) T.abs (by decide +kernel) (pa_cons (pe_op op_sub (pe_callB (cr_sumK K) (by rfl) T.sum (by decide +kernel) (pa_cons (pv 0) pa_nil)) (pe_op op_mul pe_int (pe_callB (cr_sumK K) (by rfl) T.sum (by decide +kernel) (pa_cons (pe_slice (sl_listK K) (pv 0) po_none (po_some (pv 4))) pa_nil)))) pa_nil))))
  (pss_one (ps_set (i := 1) sc__law_half.nd rfl (Or.inl rfl) (pe_ifExp (pt_cmpR op_lt (pe_ix ix_list (pv 3) pe_int (fun _ _ => rfl)) (pe_ix ix_list (pv 3) pe_int (fun _ _ => rfl)) (nomark _)) (pv 2) (pv 1))))))
  (pss_one (ps_ret (pv 1))))), ?_⟩
    have ht : ∀ m : Nat, cutV (iv ns) none (some (m : Int)) = iv (ns.take m) := fun m => by rw [cut_to, iv_take]
    refine ⟨_, rfl, _, ns.length, rfl, .inl ⟨_, SqL.of ha, (iv_len ns).symm⟩, 2, ns.length, rfl, ⟨by decide, by decide, by omega, by omega⟩, for_range (lo := 2) (n := ((ns.length : Int) - 2).toNat) (fun i σ H' => ∃ t1 t2 t3, σ = [some (.ref a), some (.int (halfTo ns i : Nat)), t1, t2, t3] ∧ Same H H' ∧ 1 ≤ halfTo ns i)
      ⟨none, none, none, rfl, L2.Same.refl _, Nat.le_refl _⟩ ?_ ?_⟩
    · rintro i σ H1 hi ⟨t1, t2, t3, rfl, e1, hb⟩
      have ha1 := e1 _ _ ha
      have e2i : (2 : Int) + (i : Int) = ((i + 2 : Nat) : Int) := by omega
      rw [e2i]
      refine ⟨_, rfl, _, rfl, by show 2 ≤ sizeLine; decide, fun p hp => ?_⟩
      have n1 := L2.Same.new1 (o := .tup [V.int (halfTo ns i : Nat), V.int ((i + 2 : Nat) : Int)]) hp
      refine ⟨p, rfl, ⟨_, SqT.of upd_same⟩, fun D hD => lc_tup (xs := [V.int (halfTo ns i : Nat), V.int ((i + 2 : Nat) : Int)]) (fun j H' => Same (upd H1 p (.tup [V.int (halfTo ns i : Nat), V.int ((i + 2 : Nat) : Int)])) H' ∧ j ≤ 2 ∧ H' D = some (.lst (iv (([dist ns (halfTo ns i), dist ns (i + 2)]).take j)))) ⟨L2.Same.new1 hD, Nat.zero_le _, upd_same⟩ (fun j H' _ z => SqT.of (z.1 _ _ upd_same)) ?_ ?_⟩
      · intro j x H' hx ⟨z1, z2, z3⟩
        have hj : j = 0 ∨ j = 1 := by
          have := (List.getElem?_eq_some_iff.mp hx).1
          simp at this
          omega
        have ha' := z1 _ _ (n1 _ _ ha1)
        refine ⟨rfl, ?_⟩
        obtain ⟨m, rfl, hm⟩ : ∃ m : Nat, V.int (m : Int) = x ∧ ([dist ns (halfTo ns i), dist ns (i + 2)])[j]? = some (dist ns m) := by
          rcases hj with rfl | rfl
          · exact ⟨halfTo ns i, by simpa using hx, rfl⟩
          · exact ⟨i + 2, by simpa using hx, rfl⟩
        refine ⟨_, rfl, a, ns, rfl, SqL.of ha', _, rfl, _, rfl, _, rfl, a, _, rfl, SqL.of ha', fun q hq => ?_⟩
        have n2 := L2.Same.new1 (o := .lst (cutV (iv ns) none (some ((m : Nat) : Int)))) hq
        refine ⟨q, ns.take m, rfl, SqL.of (by rw [upd_same]; exact congrArg (fun z => some (HO.lst z)) (ht m)), _, _, rfl, rfl, .inl ⟨by decide, by decide⟩, _, _, rfl, rfl, _, rfl, ?_⟩
        refine ⟨_, n2 _ _ z3, sz_lt ?_, L2.Same.mut (z1.trans n2) hD, by omega, ?_⟩
        · rw [iv_len, List.length_take]
          omega
        · rw [upd_same, take_snoc hm, ← iv_app]
          rfl
      · intro H2 ⟨z1, _, z3⟩
        have e12 := (e1.trans n1).trans z1
        refine ⟨_, rfl, D, _, 1, _, rfl, rfl, SqL.of z3, atI_nat (j := 1) rfl, _, rfl, D, _, 0, _, rfl, rfl, SqL.of z3, atI_nat (j := 0) rfl, ?_⟩
        refine ⟨_, _, rfl, rfl, _, rfl, ?_⟩
        have eh : halfTo ns (i + 1) = if dist ns (i + 2) < dist ns (halfTo ns i) then i + 2 else halfTo ns i := rfl
        by_cases c : dist ns (i + 2) < dist ns (halfTo ns i)
        · refine ifT c ⟨_, rfl, ?_⟩
          rw [if_pos c] at eh
          exact ⟨_, _, _, by rw [eh]; rfl, e12, by omega⟩
        · refine ifF c ⟨_, rfl, ?_⟩
          rw [if_neg c] at eh
          exact ⟨_, _, _, by rw [eh]; rfl, e12, by omega⟩
    · rintro σ H1 ⟨t1, t2, t3, rfl, e1, hb⟩
      refine ⟨_, rfl, ?_⟩
      have e : ((ns.length : Int) - 2).toNat = ns.length - 2 := by omega
      rw [e]
      exact k _ e1
end
end K7
namespace K7
open PySem PySem.Spec PyProof.Rows L2
/-! ### trees of lists -/
abbrev Nd := List Ent × Option (List Nat)
abbrev LM := Nat → Option Nd
def setN (N : LM) (n : Nat) (d : Nd) : LM := fun m => if m = n then some d else N m
theorem setN_same {N : LM} {n : Nat} {d : Nd} : setN N n d n = some d := if_pos rfl
theorem setN_ne {N : LM} {n m : Nat} {d : Nd} (h : m ≠ n) : setN N n d m = N m := if_neg h
def IsNd (S : List Addr) (H : Hp) (v : V) : Nd → Prop
  | (es, none) => ∃ a l xs, v = .ref a ∧ H a = some (.tup [.ref l]) ∧ H l = some (.lst xs) ∧ IsEs H xs es ∧ l ∉ S
  | (ws, some cs) => ∃ a l m xs, v = .ref a ∧ H a = some (.tup [.ref l, .ref m]) ∧ H l = some (.lst xs) ∧ IsEs H xs ws ∧ l ∉ S ∧ H m = some (.lst (nv cs)) ∧ m ∉ S
def odd : HO → Prop
  | .tup _ => False
  | .lst _ => False
  | _ => True
/-- what may change: lists of S, and what is neither a tuple nor a list -/
def Loose (T S : List Addr) (H : Hp) : Prop := ∀ x ∈ T, x ∈ S ∨ ∃ o, H x = some o ∧ odd o
def Lists (S : List Addr) (H : Hp) : Prop := ∀ x ∈ S, ∃ xs, H x = some (.lst xs)
theorem Loose.tup {T S : List Addr} {H H' : Hp} (l : Loose T S H) (s : Lists S H) (b : But T H H') {a : Addr} {xs : List V} (h : H a = some (.tup xs)) : H' a = some (.tup xs) := by
  refine b a _ (fun m => ?_) h
  rcases l a m with q | ⟨o, q, r⟩
  · obtain ⟨ys, q⟩ := s a q
    rw [h] at q
    cases q
  · rw [h] at q
    cases q
    exact r
theorem Loose.tups {T S : List Addr} {H H' : Hp} (l : Loose T S H) (s : Lists S H) (b : But T H H') : Tups H H' := fun a xs h => l.tup s b h
theorem Loose.lst {T S : List Addr} {H H' : Hp} (l : Loose T S H) (b : But T H H') {a : Addr} {xs : List V} (h : H a = some (.lst xs)) (ha : a ∉ S) : H' a = some (.lst xs) := by
  refine b a _ (fun m => ?_) h
  rcases l a m with q | ⟨o, q, r⟩
  · exact ha q
  · rw [h] at q
    cases q
    exact r
theorem IsNd.but {T S : List Addr} {H H' : Hp} {v : V} {nd : Nd} (z : IsNd S H v nd) (l : Loose T S H) (s : Lists S H) (b : But T H H') : IsNd S H' v nd := by
  obtain ⟨es, o⟩ := nd
  cases o with
  | none =>
    obtain ⟨a, p, xs, rfl, h1, h2, h3, h4⟩ := z
    exact ⟨a, p, xs, rfl, l.tup s b h1, l.lst b h2 h4, h3.tups (l.tups s b), h4⟩
  | some cs =>
    obtain ⟨a, p, m, xs, rfl, h1, h2, h3, h4, h5, h6⟩ := z
    exact ⟨a, p, m, xs, rfl, l.tup s b h1, l.lst b h2 h4, h3.tups (l.tups s b), h4, l.lst b h5 h6, h6⟩
theorem Loose.nil {S : List Addr} {H : Hp} : Loose [] S H := fun _ h => by cases h
theorem But.same {H H' : Hp} (e : Same H H') : But [] H H' := .of e
/-- the nodes -/
def IsDn (S : List Addr) (H : Hp) (dn : Addr) (N : LM) : Prop := ∃ kvs, H dn = some (.dK kvs) ∧ NumKeys kvs ∧ ∀ n nd, N n = some nd → ∃ v, valV kvs (.inl ((n : Nat) : Int)) = some v ∧ IsNd S H v nd
def IsDw (H : Hp) (dw dn fl : Addr) (a : Al) : Prop := ∃ kvs, H dw = some (.dK kvs) ∧ kvs.length ≤ 10 ∧ valV kvs (.inr "nodes") = some (.ref dn) ∧ valV kvs (.inr "free") = some (.ref fl) ∧ valV kvs (.inr "fresh") = some (.int (a.fresh : Int))
structure Wd (S : List Addr) (H : Hp) (dw dn fl : Addr) (N : LM) (a : Al) : Prop where
  w : IsDw H dw dn fl a
  n : IsDn S H dn N
  f : H fl = some (.lst (nv a.free.reverse))
  i : fl ∈ S
  s : Lists S H
theorem dget_of {H : Hp} {a : Addr} {kvs : List (Key × V)} {k : Key} {v : V} (h : H a = some (.dK kvs)) (hv : valV kvs k = some v) : DGet H a (kV k) (some v) := hv ▸ DGet.k h
theorem IsDn.get {S : List Addr} {H : Hp} {dn : Addr} {N : LM} (z : IsDn S H dn N) {n : Nat} {nd : Nd} (h : N n = some nd) : ∃ v, DGet H dn (.int (n : Int)) (some v) ∧ IsNd S H v nd := by
  obtain ⟨kvs, h1, h2, h3⟩ := z
  obtain ⟨v, q1, q2⟩ := h3 n nd h
  exact ⟨v, dget_of h1 q1, q2⟩
theorem IsDw.nodes {H : Hp} {dw dn fl : Addr} {a : Al} (z : IsDw H dw dn fl a) : DGet H dw (.str "nodes") (some (.ref dn)) := by
  obtain ⟨kvs, h1, _, h2, _, _⟩ := z
  exact dget_of h1 h2
theorem IsDw.free {H : Hp} {dw dn fl : Addr} {a : Al} (z : IsDw H dw dn fl a) : DGet H dw (.str "free") (some (.ref fl)) := by
  obtain ⟨kvs, h1, _, _, h2, _⟩ := z
  exact dget_of h1 h2
theorem IsDw.fresh {H : Hp} {dw dn fl : Addr} {a : Al} (z : IsDw H dw dn fl a) : DGet H dw (.str "fresh") (some (.int (a.fresh : Int))) := by
  obtain ⟨kvs, h1, _, _, _, h2⟩ := z
  exact dget_of h1 h2
theorem IsDn.but {T S : List Addr} {H H' : Hp} {dn : Addr} {N : LM} (z : IsDn S H dn N) (l : Loose T S H) (s : Lists S H) (b : But T H H') (hd : dn ∉ T) : IsDn S H' dn N := by
  obtain ⟨kvs, h1, h2, h3⟩ := z
  refine ⟨kvs, b _ _ hd h1, h2, fun n nd hn => ?_⟩
  obtain ⟨v, q1, q2⟩ := h3 n nd hn
  exact ⟨v, q1, q2.but l s b⟩
theorem IsDw.but {T : List Addr} {H H' : Hp} {dw dn fl : Addr} {a : Al} (z : IsDw H dw dn fl a) (b : But T H H') (hd : dw ∉ T) : IsDw H' dw dn fl a := by
  obtain ⟨kvs, h1, h2⟩ := z
  exact ⟨kvs, b _ _ hd h1, h2⟩
theorem Wd.ne {S : List Addr} {H : Hp} {dw dn fl : Addr} {N : LM} {a : Al} (z : Wd S H dw dn fl N a) : dw ≠ dn ∧ dw ≠ fl ∧ dn ≠ fl := by
  obtain ⟨kvs, h1, _, h2, _, _⟩ := z.w
  obtain ⟨ks, g1, g2, _⟩ := z.n
  have f := z.f
  refine ⟨fun e => ?_, fun e => ?_, fun e => ?_⟩
  · rw [e, g1] at h1
    cases h1
    have m := valV_in h2
    obtain ⟨p, hp, e⟩ := List.mem_map.mp m
    obtain ⟨n, _, q⟩ := g2.2 p hp
    rw [q] at e
    cases e
  · rw [e, f] at h1
    cases h1
  · rw [e, f] at g1
    cases g1
theorem Wd.notS {S : List Addr} {H : Hp} {dw dn fl : Addr} {N : LM} {a : Al} (z : Wd S H dw dn fl N a) : dw ∉ S ∧ dn ∉ S := by
  obtain ⟨kvs, h1, _⟩ := z.w
  obtain ⟨ks, g1, _⟩ := z.n
  refine ⟨fun m => ?_, fun m => ?_⟩
  · obtain ⟨xs, q⟩ := z.s _ m
    rw [h1] at q
    cases q
  · obtain ⟨xs, q⟩ := z.s _ m
    rw [g1] at q
    cases q
/-- nothing of the world changes -/
theorem Wd.but {T S : List Addr} {H H' : Hp} {dw dn fl : Addr} {N : LM} {a : Al} (z : Wd S H dw dn fl N a) (l : Loose T S H) (b : But T H H') (h1 : dw ∉ T) (h2 : dn ∉ T) (h3 : fl ∉ T) (hs : Lists S H') : Wd S H' dw dn fl N a :=
  ⟨z.w.but b h1, z.n.but l z.s b h2, b _ _ h3 z.f, z.i, hs⟩
theorem Lists.same {S : List Addr} {H H' : Hp} (z : Lists S H) (e : Same H H') : Lists S H' := fun x hx => by
  obtain ⟨xs, h⟩ := z x hx
  exact ⟨xs, e _ _ h⟩
theorem Lists.upd {S : List Addr} {H : Hp} {p : Addr} {o : HO} (z : Lists S H) (h : p ∉ S ∨ ∃ xs, o = .lst xs) : Lists S (L2.upd H p o) := fun x hx => by
  obtain ⟨xs, e⟩ := z x hx
  by_cases q : x = p
  · subst q
    rcases h with h | ⟨ys, rfl⟩
    · exact absurd hx h
    · exact ⟨ys, upd_same⟩
  · exact ⟨xs, by rw [upd_ne q]; exact e⟩
theorem Wd.same {S : List Addr} {H H' : Hp} {dw dn fl : Addr} {N : LM} {a : Al} (z : Wd S H dw dn fl N a) (e : Same H H') : Wd S H' dw dn fl N a :=
  z.but (T := []) Loose.nil (.of e) (by simp) (by simp) (by simp) (z.s.same e)
theorem Lists.fresh {S : List Addr} {H : Hp} {p : Addr} (z : Lists S H) (h : H p = none) : p ∉ S := fun m => by
  obtain ⟨xs, e⟩ := z p m
  rw [h] at e
  cases e
/-- the world's nodes are written -/
theorem Wd.put {S : List Addr} {H : Hp} {dw dn fl : Addr} {N : LM} {a : Al} (z : Wd S H dw dn fl N a) {n : Nat} {nd : Nd} {v : V} (hn : n ≤ 65535) (hv : IsNd S H v nd) :
    ∃ H', DPut H dn (.int (n : Int)) v H' ∧ But [dn] H H' ∧ Wd S H' dw dn fl (setN N n nd) a := by
  obtain ⟨kvs, h1, h2, h3⟩ := id z.n
  have ne := z.ne
  have ns := z.notS
  have b : But [dn] H (upd H dn (.dK (putK kvs (.inl (n : Int)) v))) := (But.refl _ H).upd List.mem_cons_self
  have l : Loose [dn] S H := fun x hx => by
    rw [List.mem_singleton.mp hx]
    exact .inr ⟨_, h1, trivial⟩
  have hl := h2.len
  refine ⟨_, DPut.k (k := .inl (n : Int)) h1 (Nat.lt_of_le_of_lt hl (by decide)), b, z.w.but b (by simp; exact ne.1), ⟨_, upd_same, h2.put hn v, fun m md hm => ?_⟩, by rw [upd_ne (Ne.symm ne.2.2)]; exact z.f, z.i, z.s.upd (.inl ns.2)⟩
  rw [valV_put]
  by_cases q : m = n
  · subst q
    rw [setN_same] at hm
    cases hm
    exact ⟨v, if_pos rfl, hv.but l z.s b⟩
  · rw [setN_ne q] at hm
    obtain ⟨u, q1, q2⟩ := h3 m md hm
    rw [if_neg (fun e => q (by injection e with e; omega))]
    exact ⟨u, q1, q2.but l z.s b⟩
theorem eqv_nil_N (ns : List Nat) : PyData.eqv (lN ns) (.list []) = decide (ns = []) := by
  have h := eqv_nil_I (ns.map fun (n : Nat) => (n : Int))
  rw [lN_eq]
  unfold lI at h
  rw [h]
  cases ns with
  | nil => rfl
  | cons n ns => rw [decide_eq_false (by simp), decide_eq_false (by simp)]
section
variable {P : Program} {w : World} {K : PySem.W.Frag} {mg : Str → Option Value} {base : Heap} {C : Addr}
def spLTaken : Sp := fun vs H Q _ => ∃ S dw dn fl N a, vs = [.ref dw] ∧ Wd S H dw dn fl N a ∧ ∀ H', But [dw, fl] H H' → Wd S H' dw dn fl N a.take.2 → Q (.int (a.take.1 : Int)) H'
abbrev s__law_taken : Stmt := top 82
abbrev N__law_taken : List Str := ["_law_world"]
theorem sc__law_taken : FnScope N__law_taken ["_law_world"] (defScope s__law_taken) := ⟨rfl, rfl, rfl, by decide +kernel, rfl, by decide +kernel, by decide +kernel⟩
theorem ok__law_taken (F : At K mg "_law_taken" s__law_taken) (T : Txt K mg C)  : Df P w K mg base "_law_taken" 1 ["_law_world"] spLTaken := by
  refine F.df sc__law_taken (fun _ _ _ _ _ _ us hl => match us, hl with | [_], _ => rfl) (fun vs H Q E h => ?_) (fun f cdv A outer s H vs Q E hr h => ?_)
  · obtain ⟨S, dw, dn, fl, N, a, rfl, _⟩ := h; rfl
  · obtain ⟨S, dw, dn, fl, N, a, rfl, z, k⟩ := h
    refine ⟨_, (pss_cons (ps_if (pt_cmpR (op_neD (hu64 hr)) (pe_dget (hu_of hr) (pv 0) pe_str (fun _ _ => rfl)) (pe_lst pa_nil) (nomark _))
  (pss_one (ps_ret (pe_bm0 PySem.F.plainAttrs_list PySem.F.slot_list_pop PySem.F.type_list_pop mt_pop (pe_dget (hu_of hr) (pv 0) pe_str (fun _ _ => rfl)))))
  pss_nil)
  (pss_cons (ps_dput (hu_of hr) (pv 0) pe_str (pe_op op_add (pe_dget (hu_of hr) (pv 0) pe_str (fun _ _ => rfl)) pe_int) rfl)
  (pss_one (ps_ret (pe_op op_sub (pe_dget (hu_of hr) (pv 0) pe_str (fun _ _ => rfl)) pe_int))))), ?_⟩
    have ne := z.ne
    have ns := z.notS
    refine ⟨_, rfl, dw, _, rfl, z.w.free, Nat.zero_le _, fun p hp => ?_⟩
    have n1 := L2.Same.new1 (o := .lst []) hp
    have z1 := z.same n1
    refine ⟨lN a.free.reverse, .list [], IsNL.dp ⟨fl, rfl, z1.f⟩, .lst (SqL.of upd_same) .nil, shaped_lN _, shaped_nil, _, rfl, ?_⟩
    generalize upd H p (.lst []) = H1 at *
    rw [eqv_nil_N]
    unfold Al.take at k
    cases hf : a.free with
    | nil =>
      rw [hf] at k
      refine ibF (by simp) ?_
      obtain ⟨kvs, h1, hl, h2, h3, h4⟩ := id z1.w
      have b : But [dw] H1 (upd H1 dw (.dK (putK kvs (.inr "fresh") (.int ((a.fresh : Int) + 1))))) := (But.refl _ H1).upd List.mem_cons_self
      have l : Loose [dw] S H1 := fun x hx => by
        rw [List.mem_singleton.mp hx]
        exact .inr ⟨_, h1, trivial⟩
      have hn : ∀ m : Nat, valV (putK kvs (.inr "fresh") (.int (m : Int))) (.inr "fresh") = some (.int (m : Int)) := fun m => by rw [valV_put, if_pos rfl]
      have ef : (a.fresh : Int) + 1 = ((a.fresh + 1 : Nat) : Int) := by omega
      have zw : IsDw (upd H1 dw (.dK (putK kvs (.inr "fresh") (.int ((a.fresh : Int) + 1))))) dw dn fl ⟨[], a.fresh + 1⟩ := by
        refine ⟨_, upd_same, ?_, ?_, ?_, ?_⟩
        · have e : (putK kvs (.inr "fresh") (.int ((a.fresh : Int) + 1))).length = kvs.length := by
            unfold putK
            rw [if_pos, List.length_map]
            have := valV_in h4
            obtain ⟨q, hq, e⟩ := List.mem_map.mp this
            exact List.any_eq_true.mpr ⟨q, hq, decide_eq_true e⟩
          rw [e]
          exact hl
        · rw [valV_put, if_neg (by decide)]; exact h2
        · rw [valV_put, if_neg (by decide)]; exact h3
        · rw [valV_put, if_pos rfl]; exact congrArg (fun z => some (V.int z)) ef
      have z2 : Wd S (upd H1 dw (.dK (putK kvs (.inr "fresh") (.int ((a.fresh : Int) + 1))))) dw dn fl N ⟨[], a.fresh + 1⟩ :=
        ⟨zw, z1.n.but l z1.s b (by simp; exact Ne.symm ne.1), by rw [upd_ne (Ne.symm ne.2.1), z1.f, hf], z1.i, z1.s.upd (.inl ns.1)⟩
      refine ⟨_, rfl, dw, _, rfl, z1.w.fresh, _, _, rfl, rfl, _, rfl, dw, _, rfl, DPut.k (k := .inr "fresh") h1 (Nat.lt_of_le_of_lt hl (by decide)), ?_⟩
      refine ⟨_, rfl, dw, _, rfl, z2.w.fresh, _, _, rfl, rfl, ?_⟩
      have e : ((⟨[], a.fresh + 1⟩ : Al).fresh : Int) - 1 = (a.fresh : Int) := by
        show ((a.fresh + 1 : Nat) : Int) - 1 = _
        omega
      show Q (.int (((⟨[], a.fresh + 1⟩ : Al).fresh : Int) - 1)) (upd H1 dw (.dK (putK kvs (.inr "fresh") (.int ((a.fresh : Int) + 1)))))
      rw [e]
      exact k _ ((But.of n1).trans (b.mono fun x hx => by simp at hx; simp [hx])) z2
    | cons f fs =>
      rw [hf] at k
      refine ibT (by simp) ?_
      have hfl : H1 fl = some (.lst (nv fs.reverse ++ [V.int (f : Int)])) := by
        rw [z1.f, hf, List.reverse_cons, nv_app]
        rfl
      have b : But [fl] H1 (upd H1 fl (.lst (nv fs.reverse ++ [V.int (f : Int)]).dropLast)) := (But.refl _ H1).upd List.mem_cons_self
      have l : Loose [fl] S H1 := fun x hx => by
        rw [List.mem_singleton.mp hx]
        exact .inl z1.i
      refine ⟨_, rfl, dw, _, rfl, z1.w.free, .inl ⟨rfl, _, SqL.of hfl⟩, fl, _, V.int (f : Int), rfl, rfl, hfl, by simp, ?_⟩
      refine k _ ((But.of n1).trans (b.mono fun x hx => by simp at hx; simp [hx])) ⟨?_, z1.n.but l z1.s b (by simp; exact ne.2.2), by rw [upd_same, List.dropLast_concat], z1.i, z1.s.upd (.inr ⟨_, rfl⟩)⟩
      exact z1.w.but b (by simp; exact ne.2.1)
end
end K7
namespace K7
/-! ### trees of lists: steps -/
def repN : (h : Nat) → Tr h → LM → Prop
  | 0, ⟨n, es⟩, N => N n = some (es, none)
  | h + 1, ⟨n, ws, cs⟩, N => N n = some (ws, some (cs.map num)) ∧ ∀ c ∈ cs, repN h c N
def ndT : (h : Nat) → Tr h → Nd
  | 0, ⟨_, es⟩ => (es, none)
  | _ + 1, ⟨_, ws, cs⟩ => (ws, some (cs.map num))
theorem repN_nd : ∀ {h : Nat} {t : Tr h} {N : LM}, repN h t N → N (num t) = some (ndT h t)
  | 0, ⟨_, _⟩, _, r => r
  | _ + 1, ⟨_, _, _⟩, _, r => r.1
theorem repN_frame : ∀ (h : Nat) (t : Tr h) (N N' : LM), (∀ m ∈ nums h t, N' m = N m) → repN h t N → repN h t N'
  | 0, ⟨n, es⟩, N, N', hm, hr => by
    show N' n = _
    rw [hm n List.mem_cons_self]
    exact hr
  | h + 1, ⟨n, ws, cs⟩, N, N', hm, ⟨h1, h2⟩ =>
    ⟨by rw [hm n List.mem_cons_self]; exact h1, fun c hc => repN_frame h c N N' (fun m hmm => hm m (List.mem_cons_of_mem _ (List.mem_flatten.mpr ⟨nums h c, List.mem_map.mpr ⟨c, hc, rfl⟩, hmm⟩))) (h2 c hc)⟩
theorem repN_renum : ∀ (h : Nat) (t : Tr h) (l : Nat) (N N' : LM), N' l = N (num t) → (∀ m ∈ (nums h t).tail, N' m = N m) → repN h t N → repN h (renum t l) N'
  | 0, ⟨n, es⟩, l, N, N', h1, _, hr => by
    show N' l = _
    rw [h1]
    exact hr
  | h + 1, ⟨n, ws, cs⟩, l, N, N', h1, h2, ⟨r1, r2⟩ =>
    ⟨by rw [h1]; exact r1, fun c hc => repN_frame h c N N' (fun m hmm => h2 m (List.mem_flatten.mpr ⟨nums h c, List.mem_map.mpr ⟨c, hc, rfl⟩, hmm⟩)) (r2 c hc)⟩
structure StepN (N N' : LM) (a a' : Al) (ns ns' : List Nat) : Prop where
  fra : ∀ m, m ∉ ns → m ∉ a.free → m < a.fresh → N' m = N m
  own : ∃ k, a'.fresh = a.fresh + k ∧ ∀ x, List.count x ns' + List.count x a'.free = List.count x ns + List.count x a.free + List.count x (List.range' a.fresh k)
theorem StepN.refl {N : LM} {a : Al} {ns : List Nat} : StepN N N a a ns ns := ⟨fun _ _ _ _ => rfl, 0, rfl, fun x => by simp⟩
theorem StepN.trans {M M1 M2 : LM} {a a1 a2 : Al} {ns ns1 ns2 : List Nat} (s : StepN M M1 a a1 ns ns1) (t : StepN M1 M2 a1 a2 ns1 ns2) : StepN M M2 a a2 ns ns2 := by
  obtain ⟨k, k1, k2⟩ := s.own
  obtain ⟨j, j1, j2⟩ := t.own
  refine ⟨fun m m1 m2 m3 => ?_, k + j, by omega, fun x => ?_⟩
  · have z := k2 m
    have nr : m ∉ List.range' a.fresh k := fun q => by
      have := (List.mem_range'_1.mp q).1
      omega
    rw [cnt0.mp m1, cnt0.mp m2, cnt0.mp nr] at z
    rw [t.fra m (cnt0.mpr (by omega)) (cnt0.mpr (by omega)) (by omega)]
    exact s.fra m m1 m2 m3
  · have z := k2 x
    have y := j2 x
    rw [k1] at y
    rw [range_cnt]
    omega
theorem StepN.frame {M M' : LM} {a a' : Al} {ns ns' ms ms' : List Nat} (r : List Nat) (s : StepN M M' a a' ns ns') (h : ∀ x, List.count x ms = List.count x ns + List.count x r) (h' : ∀ x, List.count x ms' = List.count x ns' + List.count x r) : StepN M M' a a' ms ms' := by
  obtain ⟨k, k1, k2⟩ := s.own
  refine ⟨fun m m1 m2 m3 => s.fra m (cnt0.mpr ?_) m2 m3, k, k1, fun x => ?_⟩
  · have := cnt0.mp m1
    rw [h m] at this
    omega
  · have z := k2 x
    rw [h, h']
    omega
theorem StepN.cnt {M M' : LM} {a a' : Al} {ns ns' ms ms' : List Nat} (s : StepN M M' a a' ns ns') (h : ∀ x, List.count x ms = List.count x ns) (h' : ∀ x, List.count x ms' = List.count x ns') : StepN M M' a a' ms ms' :=
  s.frame [] (fun x => by rw [h]; simp) (fun x => by rw [h']; simp)
theorem StepN.owns {M M' : LM} {a a' : Al} {ns ns' : List Nat} (s : StepN M M' a a' ns ns') (o : Own ns a) : Own ns' a' := by
  obtain ⟨k, k1, k2⟩ := s.own
  exact o.step k1 k2
theorem StepN.keep {M M' : LM} {a a' : Al} {ns ns' ms : List Nat} (s : StepN M M' a a' ns ns') (o : Own ms a) {r : List Nat} (h : ∀ x, List.count x ms = List.count x ns + List.count x r) {m : Nat} (hm : m ∈ r) : M' m = M m := by
  have p := cnt_pos.mp hm
  have z := h m
  have y := o.one m
  have l := o.low m (.inl (cnt_pos.mpr (by omega)))
  exact s.fra m (cnt0.mpr (by omega)) (cnt0.mpr (by omega)) l.2
theorem StepN.set {M : LM} {a : Al} {ns : List Nat} {n : Nat} (hn : n ∈ ns) (d : Nd) : StepN M (setN M n d) a a ns ns :=
  ⟨fun m m1 _ _ => setN_ne (fun e => m1 (by rw [e]; exact hn)), 0, rfl, fun x => by simp⟩
theorem StepN.take {M : LM} {a : Al} {ns : List Nat} : StepN M M a a.take.2 ns (a.take.1 :: ns) := by
  obtain ⟨k, _, k2, k3⟩ := take_cnt a
  refine ⟨fun _ _ _ _ => rfl, k, k2, fun x => ?_⟩
  have := k3 x
  rw [cnt_cons]
  omega
theorem StepN.give {M : LM} {a : Al} {n : Nat} {ns : List Nat} : StepN M M a (a.give n) (n :: ns) ns := by
  refine ⟨fun _ _ _ _ => rfl, 0, rfl, fun x => ?_⟩
  show List.count x ns + List.count x (n :: a.free) = _
  rw [cnt_cons x n a.free, cnt_cons x n ns]
  simp
  omega
def repNO (h : Nat) (p : Tr h × Option (Ent × Tr h)) (N : LM) : Prop := match p.2 with
  | none => repN h p.1 N
  | some (_, r) => repN h p.1 N ∧ repN h r N
def wlN (N : LM) (a : Al) (n : Nat) (es : List Ent) : LM :=
  if lsz es ≤ 116 then setN N n (es, none)
  else setN (setN N n (es.take (half (szs es)), none)) a.take.1 (es.drop (half (szs es)), none)
def wiN (N : LM) (a : Al) (n : Nat) (ws : List Ent) (cs : List Nat) : LM :=
  if isz ws cs.length ≤ 116 then setN N n (ws, some cs)
  else setN (setN N n (ws.take (half (wszs ws.dropLast)), some (cs.take (half (wszs ws.dropLast) + 1)))) a.take.1 (ws.drop (half (wszs ws.dropLast) + 1), some (cs.drop (half (wszs ws.dropLast) + 1)))
theorem wleaf_stepN {N : LM} {a : Al} {n : Nat} (es : List Ent) (o : Own [n] a) : StepN N (wlN N a n es) a (wleaf n es a).2 [n] (numsR 0 (wleaf n es a).1) ∧ repNO 0 (wleaf n es a).1 (wlN N a n es) := by
  unfold wlN wleaf
  split
  · exact ⟨StepN.set List.mem_cons_self _, setN_same⟩
  · have nt := o.take
    have ne : n ≠ a.take.1 := fun e => nt.1 (by rw [← e]; exact List.mem_cons_self)
    have t : StepN N N a a.take.2 [n] [a.take.1, n] := StepN.take
    have s1 : StepN N _ a.take.2 a.take.2 _ _ := StepN.set (List.mem_cons_of_mem _ List.mem_cons_self : n ∈ [a.take.1, n]) (es.take (half (szs es)), none)
    have s2 : StepN _ _ a.take.2 a.take.2 _ _ := StepN.set (M := setN N n (es.take (half (szs es)), none)) (List.mem_cons_self : a.take.1 ∈ [a.take.1, n]) (es.drop (half (szs es)), none)
    refine ⟨((t.trans s1).trans s2).cnt (fun _ => rfl) (fun x => ?_), ?_, setN_same⟩
    · show List.count x ([n] ++ [a.take.1]) = _
      rw [List.count_append, cnt_cons x a.take.1 [n]]
      omega
    · show setN (setN _ _ _) _ _ n = _
      rw [setN_ne ne, setN_same]
theorem repN_set {h : Nat} {cs : List (Tr h)} {N : LM} {n : Nat} {d : Nd} (hn : n ∉ numsL h cs) (hr : ∀ c ∈ cs, repN h c N) : ∀ c ∈ cs, repN h c (setN N n d) := fun c hc =>
  repN_frame h c N _ (fun m hm => setN_ne fun e => hn (by rw [← e]; exact List.mem_flatten.mpr ⟨nums h c, List.mem_map.mpr ⟨c, hc, rfl⟩, hm⟩)) (hr c hc)
theorem wnode_stepN {h : Nat} {N : LM} {a : Al} {n : Nat} {ws : List Ent} {cs : List (Tr h)} (o : Own (n :: numsL h cs) a) (hr : ∀ c ∈ cs, repN h c N) :
    StepN N (wiN N a n ws (cs.map num)) a (wnode n ws cs a).2 (n :: numsL h cs) (numsR (h + 1) (wnode n ws cs a).1) ∧ repNO (h + 1) (wnode n ws cs a).1 (wiN N a n ws (cs.map num)) := by
  unfold wiN wnode
  rw [List.length_map]
  split
  · refine ⟨(StepN.set List.mem_cons_self _).cnt (fun _ => rfl) (fun x => ?_), setN_same, repN_set o.hd hr⟩
    show List.count x ((n :: numsL h cs) ++ []) = _
    rw [List.append_nil]
  · generalize half (wszs ws.dropLast) = m at *
    have nt := o.take
    have ne : n ≠ a.take.1 := fun e => nt.1 (by rw [← e]; exact List.mem_cons_self)
    have t : StepN N N a a.take.2 (n :: numsL h cs) (a.take.1 :: n :: numsL h cs) := StepN.take
    have s1 := StepN.set (M := N) (a := a.take.2) (List.mem_cons_of_mem _ List.mem_cons_self : n ∈ a.take.1 :: n :: numsL h cs) (ws.take m, some ((cs.map num).take (m + 1)))
    have s2 := StepN.set (M := setN N n (ws.take m, some ((cs.map num).take (m + 1)))) (a := a.take.2) (List.mem_cons_self : a.take.1 ∈ a.take.1 :: n :: numsL h cs) (ws.drop (m + 1), some ((cs.map num).drop (m + 1)))
    have en : numsL h cs = numsL h (cs.take (m + 1)) ++ numsL h (cs.drop (m + 1)) := by rw [← numsL_app, List.take_append_drop]
    have hr3 := repN_set (d := (ws.drop (m + 1), some ((cs.map num).drop (m + 1)))) (fun q => nt.1 (List.mem_cons_of_mem _ q)) (repN_set (d := (ws.take m, some ((cs.map num).take (m + 1)))) o.hd hr)
    refine ⟨((t.trans s1).trans s2).cnt (fun _ => rfl) (fun x => ?_), ⟨?_, fun c hc => hr3 c (List.mem_of_mem_take hc)⟩, ?_, fun c hc => hr3 c (List.mem_of_mem_drop hc)⟩
    · show List.count x ((n :: numsL h (cs.take (m + 1))) ++ (a.take.1 :: numsL h (cs.drop (m + 1)))) = _
      rw [List.count_append, cnt_cons x a.take.1 (n :: numsL h cs), cnt_cons x n (numsL h cs), cnt_cons x n (numsL h (cs.take (m + 1))), cnt_cons x a.take.1 (numsL h (cs.drop (m + 1))), en, List.count_append]
      omega
    · show setN (setN _ _ _) _ _ n = _
      rw [setN_ne ne, setN_same, List.map_take]
    · rw [List.map_drop]
      exact setN_same
theorem kidsN {h n : Nat} {N N1 : LM} {a a1 : Al} {A C B C' : List (Tr h)} (o : Own (n :: numsL h (A ++ (C ++ B))) a) (s : StepN N N1 a a1 (numsL h C) (numsL h C')) (hr : ∀ c ∈ A ++ (C ++ B), repN h c N) (hr' : ∀ c ∈ C', repN h c N1) :
    StepN N N1 a a1 (n :: numsL h (A ++ (C ++ B))) (n :: numsL h (A ++ (C' ++ B))) ∧ (∀ c ∈ A ++ (C' ++ B), repN h c N1) ∧ N1 n = N n := by
  have en : ∀ (D : List (Tr h)) (x : Nat), List.count x (n :: numsL h (A ++ (D ++ B))) = List.count x (numsL h D) + List.count x (n :: (numsL h A ++ numsL h B)) := fun D x => by
    rw [cnt_cons, cnt_cons x n (numsL h A ++ numsL h B), numsL_app, numsL_app, List.count_append, List.count_append, List.count_append]
    omega
  have kp : ∀ m ∈ n :: (numsL h A ++ numsL h B), N1 m = N m := fun m hm => s.keep o (en C) hm
  have kc : ∀ (D : List (Tr h)) c, c ∈ D → ∀ m ∈ nums h c, m ∈ numsL h D := fun D c hc m hm => List.mem_flatten.mpr ⟨nums h c, List.mem_map.mpr ⟨c, hc, rfl⟩, hm⟩
  refine ⟨s.frame _ (en C) (en C'), fun c hc => ?_, kp n List.mem_cons_self⟩
  rcases List.mem_append.mp hc with q | q
  · exact repN_frame h c N N1 (fun m hm => kp m (List.mem_cons_of_mem _ (List.mem_append_left _ (kc A c q m hm)))) (hr c (List.mem_append_left _ q))
  · rcases List.mem_append.mp q with q | q
    · exact hr' c q
    · exact repN_frame h c N N1 (fun m hm => kp m (List.mem_cons_of_mem _ (List.mem_append_right _ (kc B c q m hm)))) (hr c (List.mem_append_right _ (List.mem_append_right _ q)))
theorem put_noneN {h n : Nat} {ws : List Ent} {N N1 : LM} {a a1 : Al} {A B : List (Tr h)} {c c' : Tr h} (o : Own (n :: numsL h (A ++ c :: B)) a) (hr : repN (h + 1) (node n ws (A ++ c :: B)) N)
    (s : StepN N N1 a a1 (nums h c) (nums h c')) (hr' : repN h c' N1) (hn : num c' = num c) :
    StepN N N1 a a1 (nums (h + 1) (node n ws (A ++ c :: B))) (nums (h + 1) (node n ws (A ++ c' :: B))) ∧ repN (h + 1) (node n ws (A ++ c' :: B)) N1 := by
  have k := kidsN (n := n) (A := A) (C := [c]) (C' := [c']) (B := B) o (s.cnt (fun x => by rw [numsL_cons, List.count_append]; simp [numsL]) (fun x => by rw [numsL_cons, List.count_append]; simp [numsL])) hr.2 (fun d hd => by rw [List.mem_singleton.mp hd]; exact hr')
  refine ⟨k.1, ?_, k.2.1⟩
  have z := hr.1
  rw [k.2.2, z, List.map_append, List.map_append, List.map_cons, List.map_cons, hn]
theorem put_someN {h n : Nat} {ws : List Ent} {N N1 : LM} {a a1 : Al} {A B : List (Tr h)} {c c' t : Tr h} {w : Ent} (o : Own (n :: numsL h (A ++ c :: B)) a) (hr : repN (h + 1) (node n ws (A ++ c :: B)) N)
    (s : StepN N N1 a a1 (nums h c) (numsR h (c', some (w, t)))) (hr' : repNO h (c', some (w, t)) N1) :
    StepN N N1 a a1 (nums (h + 1) (node n ws (A ++ c :: B))) (n :: numsL h (A ++ c' :: t :: B)) ∧ ∀ d ∈ A ++ c' :: t :: B, repN h d N1 := by
  have k := kidsN (n := n) (A := A) (C := [c]) (C' := [c', t]) (B := B) o (s.cnt (fun x => by rw [numsL_cons, List.count_append]; simp [numsL]) (fun x => by rw [numsL_cons, numsL_cons, List.count_append, List.count_append]; simp [numsL, numsR, numsO])) hr.2 (fun d hd => by
    rcases List.mem_cons.mp hd with q | q
    · rw [q]; exact hr'.1
    · rw [List.mem_singleton.mp q]; exact hr'.2)
  exact ⟨k.1, k.2.1⟩
end K7
namespace K7
open PySem PySem.Spec PyProof.Rows L2
theorem Wd.loose {S : List Addr} {H : Hp} {dw dn fl : Addr} {N : LM} {a : Al} (z : Wd S H dw dn fl N a) {T : List Addr} (hT : ∀ x ∈ T, x = dw ∨ x = dn ∨ x = fl) : Loose T S H := fun x hx => by
  rcases hT x hx with rfl | rfl | rfl
  · obtain ⟨kvs, h, _⟩ := z.w
    exact .inr ⟨_, h, trivial⟩
  · obtain ⟨kvs, h, _⟩ := z.n
    exact .inr ⟨_, h, trivial⟩
  · exact .inl z.i
/-- at r stands a list of these entries that is no list of S -/
def IsLs (S : List Addr) (H : Hp) (r : Addr) (es : List Ent) : Prop := r ∉ S ∧ ∃ xs, H r = some (.lst xs) ∧ IsEs H xs es
theorem IsLs.same {S : List Addr} {H H' : Hp} {r : Addr} {es : List Ent} (z : IsLs S H r es) (e : Same H H') : IsLs S H' r es := by
  obtain ⟨h, xs, h1, h2⟩ := z
  exact ⟨h, xs, e _ _ h1, h2.same e⟩
theorem IsLs.but {T S : List Addr} {H H' : Hp} {r : Addr} {es : List Ent} (z : IsLs S H r es) (l : Loose T S H) (s : Lists S H) (b : But T H H') : IsLs S H' r es := by
  obtain ⟨h, xs, h1, h2⟩ := z
  exact ⟨h, xs, l.lst b h1 h, h2.tups (l.tups s b)⟩
theorem IsLs.el {S : List Addr} {H : Hp} {r : Addr} {es : List Ent} (z : IsLs S H r es) : IsEL H (.ref r) es := by
  obtain ⟨h, xs, h1, h2⟩ := z
  exact ⟨r, xs, rfl, h1, h2⟩
def IsNs (S : List Addr) (H : Hp) (r : Addr) (ns : List Nat) : Prop := r ∉ S ∧ H r = some (.lst (nv ns))
theorem IsNs.same {S : List Addr} {H H' : Hp} {r : Addr} {ns : List Nat} (z : IsNs S H r ns) (e : Same H H') : IsNs S H' r ns := ⟨z.1, e _ _ z.2⟩
theorem IsNs.but {T S : List Addr} {H H' : Hp} {r : Addr} {ns : List Nat} (z : IsNs S H r ns) (l : Loose T S H) (b : But T H H') : IsNs S H' r ns := ⟨z.1, l.lst b z.2 z.1⟩
theorem nd_leaf {S : List Addr} {H : Hp} {t r : Addr} {es : List Ent} (z : IsLs S H r es) (ht : H t = some (.tup [.ref r])) : IsNd S H (.ref t) (es, none) := by
  obtain ⟨h, xs, h1, h2⟩ := z
  exact ⟨t, r, xs, rfl, ht, h1, h2, h⟩
theorem nd_node {S : List Addr} {H : Hp} {t r q : Addr} {ws : List Ent} {cs : List Nat} (z : IsLs S H r ws) (y : IsNs S H q cs) (ht : H t = some (.tup [.ref r, .ref q])) : IsNd S H (.ref t) (ws, some cs) := by
  obtain ⟨h, xs, h1, h2⟩ := z
  exact ⟨t, r, q, xs, rfl, ht, h1, h2, h, y.2, y.1⟩
section
variable {P : Program} {w : World} {K : PySem.W.Frag} {mg : Str → Option Value} {base : Heap} {C : Addr}
def spLPutLt (hn : Nat) : Sp := fun vs H Q _ => ∃ h, h < hn ∧ ∃ S dw dn fl N a, ∃ t : Tr h, ∃ v e, vs = [.ref dw, .int (num t : Int), v] ∧ Wd S H dw dn fl N a ∧ repN h t N ∧ Ok h t ∧ GE e ∧ IsE H v e ∧ Own (nums h t) a ∧ a.fresh + h + 1 ≤ 65534 ∧
  ∀ u H' N', But [dw, dn, fl] H H' → Wd S H' dw dn fl N' (put h t e a).2 → StepN N N' a (put h t e a).2 (nums h t) (numsR h (put h t e a).1) → repNO h (put h t e a).1 N' → IsSp H' u (nmO (put h t e a).1.2) → Q u H'
abbrev s__law_put : Stmt := top 83
abbrev N__law_put : List Str := ["_law_world", "_law_number_here", "_law_entry", "_law_nodes", "_law_entries", "_law_many", "_law_right", "_law_shuts", "_law_children", "_law_at", "_law_found_now", "_law_shut", "_law_one"]
theorem sc__law_put : FnScope N__law_put ["_law_world", "_law_number_here", "_law_entry"] (defScope s__law_put) := ⟨rfl, rfl, rfl, by decide +kernel, rfl, by decide +kernel, by decide +kernel⟩
theorem ok__law_put (F : At K mg "_law_put" s__law_put) (T : Txt K mg C) (D__law_half : Df P w K mg base "_law_half" 1 ["_law_sizes"] spHalf) (D__law_taken : Df P w K mg base "_law_taken" 1 ["_law_world"] spLTaken) (D__law_tree_size : Df P w K mg base "_law_tree_size" 1 ["_law_entries"] spLTs) : ∀ hn, Df P w K mg base "_law_put" (2 + hn) ["_law_world", "_law_number_here", "_law_entry"] (spLPutLt hn) := by
  intro hn
  induction hn with
  | zero =>
    show Df P w K mg base "_law_put" (1 + 1) ["_law_world", "_law_number_here", "_law_entry"] (spLPutLt 0)
    exact F.df sc__law_put (fun _ _ _ _ _ _ us hl => match us, hl with | [_, _, _], _ => rfl) (fun vs H Q E h => by obtain ⟨_, hl, _⟩ := h; omega) (fun f cdv A outer s H vs Q E hr h => by obtain ⟨_, hl, _⟩ := h; omega)
  | succ hn D__law_put =>
    show Df P w K mg base "_law_put" ((2 + hn) + 1) ["_law_world", "_law_number_here", "_law_entry"] (spLPutLt (hn + 1))
    refine F.df sc__law_put (fun _ _ _ _ _ _ us hl => match us, hl with | [_, _, _], _ => rfl) (fun vs H Q E h => ?_) (fun f cdv A outer s H vs Q E hr h => ?_)
    · obtain ⟨h, hl, S, dw, dn, fl, N, a, t, v, e, rfl, _⟩ := h; rfl
    · obtain ⟨h, hl, S, dw, dn, fl, N, a, t, v, e, rfl, z, hrep, hok, ge, hv, own, hf, k⟩ := h
      refine ⟨_, (pss_cons (ps_set (i := 3) sc__law_put.nd rfl (Or.inl rfl) (pe_dget (hu_of hr) (pv 0) pe_str (fun _ _ => rfl)))
  (pss_cons (ps_if (pt_cmpR op_eq (pe_callB call_len (by rfl) T.len (by decide +kernel) (pa_cons (pe_dget (hu_of hr) (pv 3) (pv 1) (fun _ _ => rfl)) pa_nil)) pe_int (nomark _))
  (pss_cons (ps_set (i := 4) sc__law_put.nd rfl (Or.inl rfl) (pe_callB (cr_sortedE (hu64 hr)) (by rfl) T.sorted (by decide +kernel) (pa_cons (pe_op op_cat (pe_ix ix_tup (pe_dget (hu_of hr) (pv 3) (pv 1) (fun _ _ => rfl)) pe_int (fun _ _ => rfl)) (pe_lst (pa_cons (pv 2) pa_nil))) pa_nil)))
  (pss_cons (ps_if (pt_cmpR op_le (pe_cd D__law_tree_size (hr.mono (by omega)) (pa_cons (pv 4) pa_nil)) pe_int (nomark _))
  (pss_cons (ps_dput (hu_of hr) (pv 3) (pv 1) (pe_tup (pa_cons (pv 4) pa_nil)) rfl)
  (pss_one (ps_ret pe_non)))
  pss_nil)
  (pss_cons (ps_par (i := 5) (j := 6) (by rfl) sc__law_put.nd rfl rfl (by decide) rfl rfl (pa_cons (pe_cd D__law_half (hr.mono (by omega)) (pa_cons (pe_lc (own := [("_law_one", 12)]) (g := gName 12) (tt := tYes) rfl sc__law_put.nd (pi_list (pv 4)) (blkOk_by (own := [("_law_one", 12)]) (N := N__law_put) (sc := defScope s__law_put) (by decide +kernel)) (fun _ _ _ _ _ => pg_name (i := 12) sc__law_put.nd rfl (Or.inl rfl)) (fun _ _ _ _ _ => pts_nil) (fun _ _ _ _ _ => (pe_op op_add (pe_callB (call_lenK K) (by rfl) T.len (by decide +kernel) (pa_cons (pe_ix (ix_tupK K) (pv 12) pe_int (fun _ _ => rfl)) pa_nil)) pe_int))) pa_nil)) (pa_cons (pe_cd D__law_taken (hr.mono (by omega)) (pa_cons (pv 0) pa_nil)) pa_nil)) (by rfl))
  (pss_cons (ps_asg (pe_tup (pa_cons (pe_tup (pa_cons (pe_slice sl_list (pv 4) po_none (po_some (pv 5))) pa_nil)) (pa_cons (pe_tup (pa_cons (pe_slice sl_list (pv 4) (po_some (pv 5)) po_none) pa_nil)) pa_nil))) (pg_tup (by rfl) (pgs_cons (pg_sub (pv 3) (pv 1) (set_dict (hu_of hr))) (pgs_cons (pg_sub (pv 3) (pv 6) (set_dict (hu_of hr))) pgs_nil))))
  (pss_one (ps_ret (pe_tup (pa_cons (pe_ix ix_list (pv 4) (pv 5) (fun _ _ => rfl)) (pa_cons (pv 6) pa_nil)))))))))
  pss_nil)
  (pss_cons (ps_asg (pe_dget (hu_of hr) (pv 3) (pv 1) (fun _ _ => rfl)) (pg_tup (by rfl) (pgs_cons (pg_name (i := 7) sc__law_put.nd rfl (Or.inl rfl)) (pgs_cons (pg_name (i := 8) sc__law_put.nd rfl (Or.inl rfl)) pgs_nil))))
  (pss_cons (ps_set (i := 9) sc__law_put.nd rfl (Or.inl rfl) (pe_callB call_len (by rfl) T.len (by decide +kernel) (pa_cons (pe_lc (own := [("_law_shut", 11)]) (g := gName 11) rfl sc__law_put.nd (pi_list (pv 7)) (blkOk_by (own := [("_law_shut", 11)]) (N := N__law_put) (sc := defScope s__law_put) (by decide +kernel)) (fun _ _ _ _ _ => pg_name (i := 11) sc__law_put.nd rfl (Or.inl rfl)) (fun _ _ _ _ _ => pts_one (pt_cmpR (op_leE (hu64 hr)) (pv 11) (pv 2) (nomark _))) (fun _ _ _ _ _ => (pv 11))) pa_nil)))
  (pss_cons (ps_set (i := 10) sc__law_put.nd rfl (Or.inl rfl) (pe_cd D__law_put (hr.mono (by omega)) (pa_cons (pv 0) (pa_cons (pe_ix ix_list (pv 8) (pv 9) (fun _ _ => rfl)) (pa_cons (pv 2) pa_nil)))))
  (pss_cons (ps_if (pt_cmpR op_isN (pv 10) pe_non (nomark _))
  (pss_one (ps_ret pe_non))
  pss_nil)
  (pss_cons (ps_set (i := 7) sc__law_put.nd rfl (Or.inl rfl) (pe_op op_cat (pe_op op_cat (pe_slice sl_list (pv 7) po_none (po_some (pv 9))) (pe_lst (pa_cons (pe_ix ix_tup (pv 10) pe_int (fun _ _ => rfl)) pa_nil))) (pe_slice sl_list (pv 7) (po_some (pv 9)) po_none)))
  (pss_cons (ps_set (i := 8) sc__law_put.nd rfl (Or.inl rfl) (pe_op op_cat (pe_op op_cat (pe_slice sl_list (pv 8) po_none (po_some (pe_op op_add (pv 9) pe_int))) (pe_lst (pa_cons (pe_ix ix_tup (pv 10) pe_int (fun _ _ => rfl)) pa_nil))) (pe_slice sl_list (pv 8) (po_some (pe_op op_add (pv 9) pe_int)) po_none)))
  (pss_cons (ps_if (pt_cmpR op_le (pe_op op_add (pe_cd D__law_tree_size (hr.mono (by omega)) (pa_cons (pv 7) pa_nil)) (pe_op op_mul pe_int (pe_callB call_len (by rfl) T.len (by decide +kernel) (pa_cons (pv 8) pa_nil)))) pe_int (nomark _))
  (pss_cons (ps_dput (hu_of hr) (pv 3) (pv 1) (pe_tup (pa_cons (pv 7) (pa_cons (pv 8) pa_nil))) rfl)
  (pss_one (ps_ret pe_non)))
  pss_nil)
  (pss_cons (ps_par (i := 5) (j := 6) (by rfl) sc__law_put.nd rfl rfl (by decide) rfl rfl (pa_cons (pe_cd D__law_half (hr.mono (by omega)) (pa_cons (pe_lc (own := [("_law_shut", 11)]) (g := gName 11) (tt := tYes) rfl sc__law_put.nd (pi_list (pe_slice sl_list (pv 7) po_none (po_some (pe_un un_neg pe_int)))) (blkOk_by (own := [("_law_shut", 11)]) (N := N__law_put) (sc := defScope s__law_put) (by decide +kernel)) (fun _ _ _ _ _ => pg_name (i := 11) sc__law_put.nd rfl (Or.inl rfl)) (fun _ _ _ _ _ => pts_nil) (fun _ _ _ _ _ => (pe_op op_add (pe_callB (call_lenK K) (by rfl) T.len (by decide +kernel) (pa_cons (pe_ix (ix_tupK K) (pv 11) pe_int (fun _ _ => rfl)) pa_nil)) pe_int))) pa_nil)) (pa_cons (pe_cd D__law_taken (hr.mono (by omega)) (pa_cons (pv 0) pa_nil)) pa_nil)) (by rfl))
  (pss_cons (ps_asg (pe_tup (pa_cons (pe_tup (pa_cons (pe_slice sl_list (pv 7) po_none (po_some (pv 5))) (pa_cons (pe_slice sl_list (pv 8) po_none (po_some (pe_op op_add (pv 5) pe_int))) pa_nil))) (pa_cons (pe_tup (pa_cons (pe_slice sl_list (pv 7) (po_some (pe_op op_add (pv 5) pe_int)) po_none) (pa_cons (pe_slice sl_list (pv 8) (po_some (pe_op op_add (pv 5) pe_int)) po_none) pa_nil))) pa_nil))) (pg_tup (by rfl) (pgs_cons (pg_sub (pv 3) (pv 1) (set_dict (hu_of hr))) (pgs_cons (pg_sub (pv 3) (pv 6) (set_dict (hu_of hr))) pgs_nil))))
  (pss_one (ps_ret (pe_tup (pa_cons (pe_ix ix_list (pv 7) (pv 5) (fun _ _ => rfl)) (pa_cons (pv 6) pa_nil)))))))))))))))), ?_⟩
      have hnum := own.lt (num_mem h t)
      obtain ⟨v0, g0, nd0⟩ := z.n.get (repN_nd hrep)
      refine ⟨_, rfl, dw, _, rfl, z.w.nodes, ?_⟩
      cases h with
      | zero =>
        obtain ⟨n, es⟩ := t
        obtain ⟨hz, hge⟩ := hok
        have h5 := len_of_lsz hge
        obtain ⟨a0, l0, xs, rfl, ha0, hl0, hes, hlS⟩ := nd0
        have own' : Own [n] a := own
        have hn' : n < a.fresh := hnum
        refine ⟨_, rfl, _, rfl, dn, _, rfl, g0, _, 1, rfl, .inr ⟨_, SqT.of ha0, rfl⟩, rfl, _, rfl, ibT rfl ?_⟩
        refine ⟨_, rfl, _, rfl, dn, _, rfl, g0, a0, _, 0, _, rfl, rfl, SqT.of ha0, atI_nat (j := 0) rfl, _, rfl, by show 1 ≤ sizeLine; decide, fun p hp => ?_⟩
        have e1 := L2.Same.new1 (o := .lst [v]) hp
        refine ⟨l0, p, xs, [v], rfl, rfl, e1 _ _ hl0, upd_same, sz_of (by rw [hes.length]; simp; omega), fun q hq => ?_⟩
        have e2 := e1.new (o := .lst (xs ++ [v])) hq
        refine ⟨q, _, es ++ [e], rfl, upd_same, Paired.append (hes.same e2) (.cons (hv.same e2) .nil), fun r ys H5 hr5 e5 hr6 hys => ?_⟩
        have e05 := e2.trans e5
        have z5 := z.same e05
        have hls : IsLs S H5 r (srt (es ++ [e])) := ⟨(z.same e2).s.fresh hr5, ys, hr6, hys⟩
        have hsl : (srt (es ++ [e])).length = es.length + 1 := by
          rw [(srt_perm _).length_eq, List.length_append]; rfl
        have hge2 : ∀ x ∈ srt (es ++ [e]), GE x := fun x hxx => by
          rcases List.mem_append.mp (srt_mem.mp hxx) with m | m
          · exact hge x m
          · rw [List.mem_singleton.mp m]; exact ge
        have hz2 : lsz (srt (es ++ [e])) ≤ 140 := by
          rw [srt_lsz]
          have := esz_le ge
          omega
        have k : ∀ u H' N', But [dw, dn, fl] H H' → Wd S H' dw dn fl N' (wleaf n (srt (es ++ [e])) a).2 → StepN N N' a (wleaf n (srt (es ++ [e])) a).2 [n] (numsR 0 (wleaf n (srt (es ++ [e])) a).1) → repNO 0 (wleaf n (srt (es ++ [e])) a).1 N' → IsSp H' u (nmO (wleaf n (srt (es ++ [e])) a).1.2) → Q u H' := k
        have wst := wleaf_stepN (N := N) (srt (es ++ [e])) own'
        generalize srt (es ++ [e]) = fs at *
        refine ⟨_, rfl, .ref r, fs, rfl, hls.el, by omega, fun H6 e6 => ?_⟩
        have z6 := z5.same e6
        have hls6 := hls.same e6
        refine ⟨_, _, rfl, rfl, ?_⟩
        unfold wlN wleaf at wst
        unfold wleaf at k
        by_cases c : lsz fs ≤ 116
        · rw [if_pos c] at k wst
          rw [if_pos c] at wst
          refine ⟨_, rfl, ifT (by omega) ?_⟩
          refine ⟨_, rfl, by show 1 ≤ sizeLine; decide, fun t7 ht7 => ?_⟩
          have e7 := L2.Same.new1 (o := .tup [V.ref r]) ht7
          obtain ⟨H8, dp, b8, z8⟩ := (z6.same e7).put (n := n) (by omega) (nd_leaf (hls6.same e7) upd_same)
          refine ⟨_, rfl, _, rfl, dn, H8, rfl, dp, ?_⟩
          exact k .non H8 _ ((But.of ((e05.trans e6).trans e7)).trans (b8.mono fun x hx => by simp at hx; simp [hx])) z8 wst.1 wst.2 rfl
        · rw [if_neg c] at k wst
          rw [if_neg c] at wst
          refine ⟨_, rfl, ifF (by omega) ?_⟩
          obtain ⟨g1, g2, g3, g4, g5⟩ := leaf_halves hge2 (by omega) hz2
          obtain ⟨hrS, ys6, hr6', hys6⟩ := id hls6
          refine ⟨_, rfl, r, rfl, ⟨_, SqL.of hr6'⟩, fun D hD => lc_list (xs := ys6) (fun i H' => Same H6 H' ∧ H' D = some (.lst (iv (szs (fs.take i)))) ∧ i ≤ ys6.length) ⟨L2.Same.new1 hD, upd_same, Nat.zero_le _⟩ (fun i H' _ z => SqL.of (z.1 _ _ hr6')) ?_ ?_⟩
          · intro i x H' hx ⟨z1, z2, z3⟩
            obtain ⟨e', he, ze⟩ := Paired.get' hys6 hx
            have hi := (List.getElem?_eq_some_iff.mp hx).1
            have hyl := hys6.length
            obtain ⟨tx, kx, sx, rfl, htx, hkx, hsx⟩ := ze.same z1
            refine ⟨rfl, ?_⟩
            refine ⟨_, rfl, tx, _, 0, _, rfl, rfl, SqT.of htx, atI_nat (j := 0) rfl, _, e'.1.length, rfl, .inr ⟨_, SqT.of hkx, (iv_len _).symm⟩, _, _, rfl, rfl, ?_⟩
            refine ⟨_, z2, sz_lt ?_, L2.Same.mut z1 hD, ?_, hi⟩
            · rw [iv_len, szs_len, List.length_take]
              omega
            · rw [upd_same, take_snoc he]
              unfold szs
              rw [List.map_append, ← iv_app]
              rfl
          · intro H7 ⟨e7, hD7, _⟩
            rw [hys6.length, List.take_length] at hD7
            refine ⟨D, szs fs, rfl, hD7, by rw [szs_len]; exact g3, by rw [szs_len]; omega, fun H8 e8 => ?_⟩
            have z8 := (z6.same e7).same e8
            have hls8 := (hls6.same e7).same e8
            refine ⟨_, rfl, S, dw, dn, fl, N, a, rfl, z8, fun H9 b9 z9 => ?_⟩
            refine ⟨_, _, rfl, ?_⟩
            generalize half (szs fs) = m at *
            have l8 := z8.loose (T := [dw, fl]) (fun x hx => by simp at hx; rcases hx with rfl | rfl <;> simp)
            obtain ⟨_, ys9, hr9, hys9⟩ := hls8.but l8 z8.s b9
            refine ⟨_, rfl, _, rfl, _, rfl, r, _, rfl, SqL.of hr9, fun p1 hp1 => ?_⟩
            have s1 := L2.Same.new1 (o := .lst (cutV ys9 none (some ((m : Nat) : Int)))) hp1
            refine ⟨by show 1 ≤ sizeLine; decide, fun t1 ht1 => ?_⟩
            have s2 := s1.new (o := .tup [V.ref p1]) ht1
            refine ⟨_, rfl, _, rfl, _, rfl, r, _, rfl, SqL.of (s2 _ _ hr9), fun p2 hp2 => ?_⟩
            have s3 := s2.new (o := .lst (cutV ys9 (some ((m : Nat) : Int)) none)) hp2
            refine ⟨by show 1 ≤ sizeLine; decide, fun t2 ht2 => ?_⟩
            have s4 := s3.new (o := .tup [V.ref p2]) ht2
            refine ⟨by show 2 ≤ sizeLine; decide, fun tT htT => ?_⟩
            have s5 := s4.new (o := .tup [V.ref t1, V.ref t2]) htT
            have q5 : Same _ _ := L2.Same.new1 (o := .tup [V.ref t1, V.ref t2]) htT
            have q4 := (L2.Same.new1 (o := .tup [V.ref p2]) ht2).trans q5
            have q3 := (L2.Same.new1 (o := .lst (cutV ys9 (some ((m : Nat) : Int)) none)) hp2).trans q4
            have q2 := (L2.Same.new1 (o := .tup [V.ref p1]) ht1).trans q3
            have k1 := q2 _ _ upd_same
            have kt1 := q3 _ _ upd_same
            have k2 := q4 _ _ upd_same
            have kt2 := q5 _ _ upd_same
            have kT : ∀ o, upd (upd (upd (upd (upd H9 p1 (.lst (cutV ys9 none (some ((m : Nat) : Int))))) t1 (.tup [V.ref p1])) p2 (.lst (cutV ys9 (some ((m : Nat) : Int)) none))) t2 (.tup [V.ref p2])) tT o tT = some o := fun o => upd_same
            have kT := kT (.tup [V.ref t1, V.ref t2])
            have f1 := z9.s.fresh hp1
            have f2 := z9.s.fresh (s2.free hp2)
            generalize upd (upd (upd (upd (upd H9 p1 (.lst (cutV ys9 none (some ((m : Nat) : Int))))) t1 (.tup [V.ref p1])) p2 (.lst (cutV ys9 (some ((m : Nat) : Int)) none))) t2 (.tup [V.ref p2])) tT (.tup [V.ref t1, V.ref t2]) = HA at *
            rw [cut_to] at k1
            rw [cut_from] at k2
            have lsA : IsLs S HA p1 (fs.take m) := ⟨f1, _, k1, Paired.take _ (hys9.same s5)⟩
            have lsB : IsLs S HA p2 (fs.drop m) := ⟨f2, _, k2, Paired.drop _ (hys9.same s5)⟩
            have zA := z9.same s5
            have hrA := s5 _ _ hr9
            have hysA := hys9.same s5
            have tl := take_le (own'.al (by omega))
            refine ⟨tT, _, rfl, SqT.of kT, rfl, _, _, rfl, ?_⟩
            obtain ⟨HB, dpB, bB, zB⟩ := zA.put (n := n) (by omega) (nd_leaf lsA kt1)
            have lA := zA.loose (T := [dn]) (fun x hx => by simp at hx; simp [hx])
            refine ⟨_, rfl, _, rfl, dn, HB, rfl, dpB, _, _, rfl, ?_⟩
            obtain ⟨HC, dpC, bC, zC⟩ := zB.put (n := a.take.1) (by omega) (nd_leaf (lsB.but lA zA.s bB) (lA.tup zA.s bB kt2))
            have lB := zB.loose (T := [dn]) (fun x hx => by simp at hx; simp [hx])
            refine ⟨_, rfl, _, rfl, dn, HC, rfl, dpC, rfl, ?_⟩
            have lsC : IsLs S HC r fs := (IsLs.but (⟨hrS, _, hrA, hysA⟩ : IsLs S HA r fs) lA zA.s bB).but lB zB.s bC
            obtain ⟨_, ysC, hrC, hysC⟩ := lsC
            have hget : fs[m]? = some (fs.getD m dE) := by
              rw [List.getD_eq_getElem?_getD, List.getElem?_eq_getElem g2]; rfl
            obtain ⟨x, hxC, zx⟩ := Paired.get hysC hget
            refine ⟨_, rfl, _, rfl, r, _, _, _, rfl, rfl, SqL.of hrC, atI_nat hxC, _, rfl, by show 2 ≤ sizeLine; decide, fun tR htR => ?_⟩
            have sR := L2.Same.new1 (o := .tup [x, V.int ((a.take.1 : Nat) : Int)]) htR
            have bb : But [dw, dn, fl] H HC := ((((But.of ((e05.trans e6).trans (e7.trans e8))).trans (b9.mono fun x hx => by simp at hx; rcases hx with rfl | rfl <;> simp)).trans (.of s5)).trans (bB.mono fun x hx => by simp at hx; simp [hx])).trans (bC.mono fun x hx => by simp at hx; simp [hx])
            exact k _ _ _ (bb.trans (.of sR)) (zC.same sR) wst.1 wst.2 ⟨tR, x, rfl, upd_same, zx.same sR⟩
      | succ h =>
        obtain ⟨n, wl, cs⟩ := t
        obtain ⟨hl1, hz, hge, hoks⟩ := id hok
        obtain ⟨hNn, hreps⟩ := id hrep
        have hn' : n < a.fresh := hnum
        have own' : Own (n :: numsL h cs) a := own
        have h5 := len_of_lsz hge
        have hz' : lsz wl + 2 * cs.length ≤ 116 := hz
        obtain ⟨a0, l0, m0, xs, rfl, ha0, hl0, hes, hlS, hm0, hmS⟩ := nd0
        refine ⟨_, rfl, _, rfl, dn, _, rfl, g0, _, 2, rfl, .inr ⟨_, SqT.of ha0, rfl⟩, rfl, _, rfl, ibF (by decide) ?_⟩
        refine ⟨_, rfl, _, rfl, dn, _, rfl, g0, a0, _, rfl, SqT.of ha0, rfl, _, _, rfl, _, _, rfl, rfl, ?_⟩
        refine ⟨_, rfl, l0, rfl, ⟨_, SqL.of hl0⟩, fun D hD => lc_list (xs := xs) (fun i H' => Same H H' ∧ ∃ ys, H' D = some (.lst ys) ∧ ys.length = place (wl.take i) e) ⟨L2.Same.new1 hD, [], upd_same, rfl⟩ (fun i H' _ z => SqL.of (z.1 _ _ hl0)) ?_ ?_⟩
        · intro i x H' hx ⟨z1, ys, z2, z3⟩
          obtain ⟨f, hf, zf⟩ := Paired.get' hes hx
          refine ⟨rfl, ?_⟩
          have ep : place (wl.take (i + 1)) e = place (wl.take i) e + (if leE f e = true then 1 else 0) := by
            unfold place
            rw [take_snoc hf, List.filter_append, List.length_append]
            by_cases q : leE f e = true
            · rw [if_pos q, List.filter_cons_of_pos (by simpa using q)]; rfl
            · rw [if_neg q, List.filter_cons_of_neg (by simpa using q)]; rfl
          have pl := place_le (wl.take i) e
          rw [List.length_take] at pl
          refine ⟨_, rfl, _, rfl, f, e, zf.same z1, hv.same z1, _, rfl, ?_⟩
          by_cases q : leE f e = true
          · rw [if_pos q] at ep
            refine ibT q ⟨_, rfl, ys, z2, sz_lt (by omega), L2.Same.mut z1 hD, _, upd_same, ?_⟩
            rw [List.length_append, z3, ep]
            rfl
          · rw [if_neg q] at ep
            exact ibF q ⟨z1, ys, z2, by rw [z3, ep]; rfl⟩
        · intro H1 ⟨e1, ys, hD1, hys⟩
          rw [hes.length, List.take_length] at hys
          refine ⟨_, ys.length, rfl, .inl ⟨_, SqL.of hD1, rfl⟩, ?_⟩
          rw [hys]
          obtain ⟨c, hc⟩ := child_there hl1 e
          refine ⟨_, rfl, _, rfl, _, rfl, m0, _, _, _, rfl, rfl, SqL.of (e1 _ _ hm0), atI_nat (nv_map_get hc), _, rfl, ?_⟩
          obtain ⟨A', B', ec1, ec2, ec3, ec4⟩ := dec hc
          rw [put_eq hc, ec3, ec4] at k
          subst ec1
          have okc := hoks c (List.mem_of_getElem? hc)
          have f2 := num_put h c e a
          have f3 := put_ok h c e a okc ge
          obtain ⟨j, j1, j2, _⟩ := put_cnt h c e a okc
          have z1 := z.same e1
          refine ⟨h, by omega, S, dw, dn, fl, N, a, c, v, e, rfl, z1, hreps c (List.mem_of_getElem? hc), okc, ge, hv.same e1, kid_own own', by omega, fun u H2 N2 b2 z2 st r2 sp2 => ?_⟩
          generalize put h c e a = pc at *
          obtain ⟨⟨c', o⟩, a1⟩ := pc
          have l1 := z1.loose (T := [dw, dn, fl]) (fun x hx => by simpa using hx)
          have ls2 : IsLs S H2 l0 wl := (IsLs.same (⟨hlS, _, hl0, hes⟩ : IsLs S H l0 wl) e1).but l1 z1.s b2
          have ns2 : IsNs S H2 m0 ((A' ++ c :: B').map num) := (IsNs.same (⟨hmS, hm0⟩ : IsNs S H m0 _) e1).but l1 b2
          have b02 := (But.of e1).trans b2
          have f2' : num c' = num c := f2
          cases o with
          | none =>
            obtain rfl : u = .non := sp2
            refine ⟨_, rfl, rfl, _, rfl, ifT rfl ?_⟩
            have pn := put_noneN (ws := wl) own' hrep (st.cnt (fun _ => rfl) (fun x => by show List.count x (nums h c') = List.count x (nums h c' ++ []); rw [List.append_nil])) r2 f2'
            exact k .non H2 N2 b02 z2 (pn.1.cnt (fun _ => rfl) (fun x => by show List.count x (nums (h + 1) _ ++ []) = _; rw [List.append_nil])) pn.2 rfl
          | some p =>
            obtain ⟨w1, t⟩ := p
            obtain ⟨tt, x5, rfl, htt, hx5⟩ := sp2
            have htt : H2 tt = some (.tup [x5, .int ((num t : Nat) : Int)]) := htt
            refine ⟨_, rfl, rfl, _, rfl, ifF (fun q => by cases q) ?_⟩
            have ps := put_someN (ws := wl) own' hrep st r2
            have own1 := ps.1.owns own'
            have gw : GE w1 := (f3.2 _ rfl).1
            have lf := late_fits (c' := c') (t := t) (i := place wl e) hok gw
            have hf1 : a1.fresh ≤ 65534 := by
              have : a1.fresh = a.fresh + j := j2
              omega
            obtain ⟨_, xs2, hl2, hes2⟩ := id ls2
            have hxl := hes2.length
            have hm2 := ns2.2
            have hpl := place_le wl e
            -- the walls
            refine ⟨_, rfl, _, rfl, _, rfl, l0, _, rfl, SqL.of hl2, fun p1 hp1 => ?_⟩
            have s1 := L2.Same.new1 (o := .lst (cutV xs2 none (some ((place wl e : Nat) : Int)))) hp1
            refine ⟨_, rfl, tt, _, 0, _, rfl, rfl, SqT.of (s1 _ _ htt), atI_nat (j := 0) rfl, by show 1 ≤ sizeLine; decide, fun p2 hp2 => ?_⟩
            have s2 := s1.new (o := .lst [x5]) hp2
            refine ⟨p1, p2, _, _, rfl, rfl, (L2.Same.new1 hp2) _ _ upd_same, upd_same, ?_, fun p3 hp3 => ?_⟩
            · rw [cut_to, List.length_take]
              exact sz_of (by simp; omega)
            have s3 := s2.new (o := .lst (cutV xs2 none (some ((place wl e : Nat) : Int)) ++ [x5])) hp3
            refine ⟨_, rfl, _, rfl, _, rfl, l0, _, rfl, SqL.of (s3 _ _ hl2), fun p4 hp4 => ?_⟩
            have s4 := s3.new (o := .lst (cutV xs2 (some ((place wl e : Nat) : Int)) none)) hp4
            refine ⟨p3, p4, _, _, rfl, rfl, (L2.Same.new1 hp4) _ _ upd_same, upd_same, ?_, fun p5 hp5 => ?_⟩
            · rw [cut_to, cut_from, List.length_append, List.length_take, List.length_drop]
              exact sz_of (by simp; omega)
            have s5 := s4.new (o := .lst (cutV xs2 none (some ((place wl e : Nat) : Int)) ++ [x5] ++ cutV xs2 (some ((place wl e : Nat) : Int)) none)) hp5
            have q5 : ∀ o, upd (upd (upd (upd (upd H2 p1 (.lst (cutV xs2 none (some ((place wl e : Nat) : Int))))) p2 (.lst [x5])) p3 (.lst (cutV xs2 none (some ((place wl e : Nat) : Int)) ++ [x5]))) p4 (.lst (cutV xs2 (some ((place wl e : Nat) : Int)) none))) p5 o p5 = some o := fun _ => upd_same
            have q5 := q5 (.lst (cutV xs2 none (some ((place wl e : Nat) : Int)) ++ [x5] ++ cutV xs2 (some ((place wl e : Nat) : Int)) none))
            have f5 := z2.s.fresh (s4.free hp5)
            generalize upd (upd (upd (upd (upd H2 p1 (.lst (cutV xs2 none (some ((place wl e : Nat) : Int))))) p2 (.lst [x5])) p3 (.lst (cutV xs2 none (some ((place wl e : Nat) : Int)) ++ [x5]))) p4 (.lst (cutV xs2 (some ((place wl e : Nat) : Int)) none))) p5 (.lst (cutV xs2 none (some ((place wl e : Nat) : Int)) ++ [x5] ++ cutV xs2 (some ((place wl e : Nat) : Int)) none)) = H5 at *
            rw [cut_to, cut_from, List.append_assoc] at q5
            have ls5 : IsLs S H5 p5 (wl.take (place wl e) ++ w1 :: wl.drop (place wl e)) := ⟨f5, _, q5, Paired.append (Paired.take _ (hes2.same s5)) (.cons (hx5.same s5) (Paired.drop _ (hes2.same s5)))⟩
            have hlw := lf.2.1
            have hzw := lf.2.2
            have hgw := lf.1
            have hWlen : (wl.take (place wl e) ++ w1 :: wl.drop (place wl e)).length ≤ 100 := by
              have := len_of_lsz hgw
              have h2 : lsz (wl.take (place wl e) ++ w1 :: wl.drop (place wl e)) + 2 * (A' ++ c' :: t :: B').length ≤ 142 := hzw
              omega
            -- the children
            refine ⟨_, rfl, _, rfl, _, _, rfl, rfl, _, rfl, m0, _, rfl, SqL.of (s5 _ _ hm2), fun r1 hr1 => ?_⟩
            have t1 := L2.Same.new1 (o := .lst (cutV (nv ((A' ++ c :: B').map num)) none (some (((place wl e : Nat) : Int) + 1)))) hr1
            refine ⟨_, rfl, tt, _, 1, _, rfl, rfl, SqT.of (t1 _ _ (s5 _ _ htt)), atI_nat (j := 1) rfl, by show 1 ≤ sizeLine; decide, fun r2 hr2 => ?_⟩
            have t2 := t1.new (o := .lst [V.int ((num t : Nat) : Int)]) hr2
            have hcl : (A' ++ c :: B').length ≤ 100 := by omega
            refine ⟨r1, r2, _, _, rfl, rfl, (L2.Same.new1 hr2) _ _ upd_same, upd_same, ?_, fun r3 hr3 => ?_⟩
            · rw [show ((place wl e : Nat) : Int) + 1 = ((place wl e + 1 : Nat) : Int) by omega, cut_to, List.length_take, nv_len, List.length_map]
              exact sz_of (by simp; omega)
            have t3 := t2.new (o := .lst (cutV (nv ((A' ++ c :: B').map num)) none (some (((place wl e : Nat) : Int) + 1)) ++ [V.int ((num t : Nat) : Int)])) hr3
            refine ⟨_, rfl, _, rfl, _, _, rfl, rfl, _, rfl, m0, _, rfl, SqL.of (t3 _ _ (s5 _ _ hm2)), fun r4 hr4 => ?_⟩
            have t4 := t3.new (o := .lst (cutV (nv ((A' ++ c :: B').map num)) (some (((place wl e : Nat) : Int) + 1)) none)) hr4
            have eN : cutV (nv ((A' ++ c :: B').map num)) none (some (((place wl e : Nat) : Int) + 1)) ++ [V.int ((num t : Nat) : Int)] ++ cutV (nv ((A' ++ c :: B').map num)) (some (((place wl e : Nat) : Int) + 1)) none = nv ((A' ++ c' :: t :: B').map num) := by
              have q := nv_splice ((A' ++ c :: B').map num) (place wl e) (num t)
              rw [List.append_nil] at q
              rw [List.append_assoc]
              show _ ++ (V.int ((num t : Nat) : Int) :: cutV _ _ _) = _
              rw [q, ← ec2, late_nums (t := t) f2']
            refine ⟨r3, r4, _, _, rfl, rfl, (L2.Same.new1 hr4) _ _ upd_same, upd_same, ?_, fun r5 hr5 => ?_⟩
            · rw [← List.length_append, eN, nv_len, List.length_map]
              exact sz_of (by omega)
            rw [eN]
            have t5 := t4.new (o := .lst (nv ((A' ++ c' :: t :: B').map num))) hr5
            have v5 : ∀ o, upd (upd (upd (upd (upd H5 r1 (.lst (cutV (nv ((A' ++ c :: B').map num)) none (some (((place wl e : Nat) : Int) + 1))))) r2 (.lst [V.int ((num t : Nat) : Int)])) r3 (.lst (cutV (nv ((A' ++ c :: B').map num)) none (some (((place wl e : Nat) : Int) + 1)) ++ [V.int ((num t : Nat) : Int)]))) r4 (.lst (cutV (nv ((A' ++ c :: B').map num)) (some (((place wl e : Nat) : Int) + 1)) none))) r5 o r5 = some o := fun _ => upd_same
            have v5 := v5 (.lst (nv ((A' ++ c' :: t :: B').map num)))
            have g5 := (z2.same s5).s.fresh (t4.free hr5)
            generalize upd (upd (upd (upd (upd H5 r1 (.lst (cutV (nv ((A' ++ c :: B').map num)) none (some (((place wl e : Nat) : Int) + 1))))) r2 (.lst [V.int ((num t : Nat) : Int)])) r3 (.lst (cutV (nv ((A' ++ c :: B').map num)) none (some (((place wl e : Nat) : Int) + 1)) ++ [V.int ((num t : Nat) : Int)]))) r4 (.lst (cutV (nv ((A' ++ c :: B').map num)) (some (((place wl e : Nat) : Int) + 1)) none))) r5 (.lst (nv ((A' ++ c' :: t :: B').map num))) = H6 at *
            have ls6 := ls5.same t5
            have ns6 : IsNs S H6 r5 ((A' ++ c' :: t :: B').map num) := ⟨g5, v5⟩
            have z6 := z2.same (s5.trans t5)
            have b06 := b02.trans (.of (s5.trans t5))
            have own1' : Own (n :: numsL h (A' ++ c' :: t :: B')) a1 := own1
            have wst := wnode_stepN (ws := wl.take (place wl e) ++ w1 :: wl.drop (place wl e)) own1' ps.2
            have k : ∀ u H' N', But [dw, dn, fl] H H' → Wd S H' dw dn fl N' (wnode n (wl.take (place wl e) ++ w1 :: wl.drop (place wl e)) (A' ++ c' :: t :: B') a1).2 → StepN N N' a (wnode n (wl.take (place wl e) ++ w1 :: wl.drop (place wl e)) (A' ++ c' :: t :: B') a1).2 (nums (h + 1) (node n wl (A' ++ c :: B'))) (numsR (h + 1) (wnode n (wl.take (place wl e) ++ w1 :: wl.drop (place wl e)) (A' ++ c' :: t :: B') a1).1) →
              repNO (h + 1) (wnode n (wl.take (place wl e) ++ w1 :: wl.drop (place wl e)) (A' ++ c' :: t :: B') a1).1 N' → IsSp H' u (nmO (wnode n (wl.take (place wl e) ++ w1 :: wl.drop (place wl e)) (A' ++ c' :: t :: B') a1).1.2) → Q u H' := k
            clear ls5 s5 t5 s4 s3 s2 s1 t4 t3 t2 t1
            generalize wl.take (place wl e) ++ w1 :: wl.drop (place wl e) = W at *
            generalize A' ++ c' :: t :: B' = cs2 at *
            unfold wiN wnode at wst
            unfold wnode at k
            rw [List.length_map] at wst
            have hz2' : lsz W + 2 * cs2.length ≤ 142 := hzw
            refine ⟨_, rfl, _, W, rfl, ls6.el, by omega, fun H7 e7 => ?_⟩
            have ls7 := ls6.same e7
            have ns7 := ns6.same e7
            have z7 := z6.same e7
            refine ⟨_, rfl, _, cs2.length, rfl, .inl ⟨_, SqL.of ns7.2, by rw [nv_len, List.length_map]⟩, _, _, rfl, rfl, .inl ⟨by decide, by decide⟩, _, _, rfl, rfl, ?_⟩
            refine ⟨_, _, rfl, rfl, ?_⟩
            by_cases c116 : isz W cs2.length ≤ 116
            · rw [if_pos c116] at k wst
              rw [if_pos c116] at wst
              have c' : lsz W + 2 * cs2.length ≤ 116 := c116
              refine ⟨_, rfl, ifT (by omega) ?_⟩
              refine ⟨_, rfl, _, rfl, by show 2 ≤ sizeLine; decide, fun t7 ht7 => ?_⟩
              have e8 := L2.Same.new1 (o := .tup [V.ref p5, V.ref r5]) ht7
              obtain ⟨H8, dp, b8, z8⟩ := (z7.same e8).put (n := n) (by omega) (nd_node (ls7.same e8) (ns7.same e8) upd_same)
              refine ⟨_, rfl, _, rfl, dn, H8, rfl, dp, ?_⟩
              exact k .non H8 _ ((b06.trans (.of (e7.trans e8))).trans (b8.mono fun x hx => by simp at hx; simp [hx])) z8 (ps.1.trans wst.1) wst.2 rfl
            · rw [if_neg c116] at k wst
              rw [if_neg c116] at wst
              have c' : ¬ lsz W + 2 * cs2.length ≤ 116 := c116
              refine ⟨_, rfl, ifF (by omega) ?_⟩
              obtain ⟨g1, g2, g3, g4, g5'⟩ := inner_halves hgw (by rw [← hlw]; omega) (by rw [← hlw]; exact hzw)
              obtain ⟨hpS, ys7, hp7, hys7⟩ := id ls7
              have hdl : W.dropLast.length = W.length - 1 := List.length_dropLast
              refine ⟨_, rfl, _, rfl, _, rfl, p5, _, rfl, SqL.of hp7, fun p0 hp0 => ?_⟩
              have e8 := L2.Same.new1 (o := .lst (cutV ys7 none (some (-1)))) hp0
              have hz0 : upd H7 p0 (.lst (cutV ys7 none (some (-1)))) p0 = some (.lst ys7.dropLast) := by rw [upd_same, cut_m1]
              have hdL : IsEs (upd H7 p0 (.lst (cutV ys7 none (some (-1))))) ys7.dropLast W.dropLast := Paired.dropLast (hys7.same e8)
              generalize upd H7 p0 (.lst (cutV ys7 none (some (-1)))) = H8 at *
              refine ⟨p0, rfl, ⟨_, SqL.of hz0⟩, fun D hD => lc_list (xs := ys7.dropLast) (fun i H' => Same H8 H' ∧ H' D = some (.lst (iv (wszs (W.dropLast.take i)))) ∧ i ≤ ys7.dropLast.length) ⟨L2.Same.new1 hD, upd_same, Nat.zero_le _⟩ (fun i H' _ z => SqL.of (z.1 _ _ hz0)) ?_ ?_⟩
              · intro i x H' hx ⟨z1, z2, z3⟩
                obtain ⟨e', he, ze⟩ := Paired.get' hdL hx
                have hi := (List.getElem?_eq_some_iff.mp hx).1
                obtain ⟨tx, kx, sx, rfl, htx, hkx, hsx⟩ := ze.same z1
                refine ⟨rfl, ?_⟩
                refine ⟨_, rfl, tx, _, 0, _, rfl, rfl, SqT.of htx, atI_nat (j := 0) rfl, _, e'.1.length, rfl, .inr ⟨_, SqT.of hkx, (iv_len _).symm⟩, _, _, rfl, rfl, ?_⟩
                refine ⟨_, z2, sz_lt ?_, L2.Same.mut z1 hD, ?_, hi⟩
                · rw [iv_len, wszs_len, List.length_take]
                  omega
                · rw [upd_same, take_snoc he]
                  unfold wszs
                  rw [List.map_append, ← iv_app]
                  show some (HO.lst (_ ++ [V.int ((e'.1.length : Int) + 6)])) = some (HO.lst (_ ++ [V.int ((e'.1.length + 4 + 2 : Nat) : Int)]))
                  rw [show ((e'.1.length + 4 + 2 : Nat) : Int) = (e'.1.length : Int) + 6 by omega]
              · intro H9 ⟨e9, hD9, _⟩
                rw [hdL.length, List.take_length] at hD9
                refine ⟨D, wszs W.dropLast, rfl, hD9, by rw [wszs_len]; omega, by rw [wszs_len]; omega, fun HA eA => ?_⟩
                have e7A := (e8.trans e9).trans eA
                have zA := z7.same e7A
                have lsA := ls7.same e7A
                have nsA := ns7.same e7A
                refine ⟨_, rfl, S, dw, dn, fl, N2, a1, rfl, zA, fun HB bB zB => ?_⟩
                refine ⟨_, _, rfl, ?_⟩
                generalize half (wszs W.dropLast) = m at *
                have lA := zA.loose (T := [dw, fl]) (fun x hx => by simp at hx; rcases hx with rfl | rfl <;> simp)
                have lsB := lsA.but lA zA.s bB
                have nsB := nsA.but lA bB
                obtain ⟨_, ysB, hpB, hysB⟩ := id lsB
                have hrB := nsB.2
                -- the four parts
                refine ⟨_, rfl, _, rfl, _, rfl, p5, _, rfl, SqL.of hpB, fun x1 hx1 => ?_⟩
                have s1 := L2.Same.new1 (o := .lst (cutV ysB none (some ((m : Nat) : Int)))) hx1
                refine ⟨_, rfl, _, rfl, _, _, rfl, rfl, _, rfl, r5, _, rfl, SqL.of (s1 _ _ hrB), fun x2 hx2 => ?_⟩
                have s2 := s1.new (o := .lst (cutV (nv (cs2.map num)) none (some (((m : Nat) : Int) + 1)))) hx2
                refine ⟨by show 2 ≤ sizeLine; decide, fun y1 hy1 => ?_⟩
                have s3 := s2.new (o := .tup [V.ref x1, V.ref x2]) hy1
                refine ⟨_, rfl, _, rfl, _, _, rfl, rfl, _, rfl, p5, _, rfl, SqL.of (s3 _ _ hpB), fun x3 hx3 => ?_⟩
                have s4 := s3.new (o := .lst (cutV ysB (some (((m : Nat) : Int) + 1)) none)) hx3
                refine ⟨_, rfl, _, rfl, _, _, rfl, rfl, _, rfl, r5, _, rfl, SqL.of (s4 _ _ hrB), fun x4 hx4 => ?_⟩
                have s5 := s4.new (o := .lst (cutV (nv (cs2.map num)) (some (((m : Nat) : Int) + 1)) none)) hx4
                refine ⟨by show 2 ≤ sizeLine; decide, fun y2 hy2 => ?_⟩
                have s6 := s5.new (o := .tup [V.ref x3, V.ref x4]) hy2
                refine ⟨by show 2 ≤ sizeLine; decide, fun tT htT => ?_⟩
                have s7 := s6.new (o := .tup [V.ref y1, V.ref y2]) htT
                have q7 := L2.Same.new1 (o := .tup [V.ref y1, V.ref y2]) htT
                have q6 := (L2.Same.new1 (o := .tup [V.ref x3, V.ref x4]) hy2).trans q7
                have q5 := (L2.Same.new1 (o := .lst (cutV (nv (cs2.map num)) (some (((m : Nat) : Int) + 1)) none)) hx4).trans q6
                have q4 := (L2.Same.new1 (o := .lst (cutV ysB (some (((m : Nat) : Int) + 1)) none)) hx3).trans q5
                have q3 := (L2.Same.new1 (o := .tup [V.ref x1, V.ref x2]) hy1).trans q4
                have q2 := (L2.Same.new1 (o := .lst (cutV (nv (cs2.map num)) none (some (((m : Nat) : Int) + 1)))) hx2).trans q3
                have kx1 := q2 _ _ upd_same
                have kx2 := q3 _ _ upd_same
                have ky1 := q4 _ _ upd_same
                have kx3 := q5 _ _ upd_same
                have kx4 := q6 _ _ upd_same
                have ky2 := q7 _ _ upd_same
                have f1 := zB.s.fresh hx1
                have f2 := zB.s.fresh (s1.free hx2)
                have f3 := zB.s.fresh (s3.free hx3)
                have f4 := zB.s.fresh (s4.free hx4)
                have kT : ∀ o, upd (upd (upd (upd (upd (upd (upd HB x1 (.lst (cutV ysB none (some ((m : Nat) : Int))))) x2 (.lst (cutV (nv (cs2.map num)) none (some (((m : Nat) : Int) + 1))))) y1 (.tup [V.ref x1, V.ref x2])) x3 (.lst (cutV ysB (some (((m : Nat) : Int) + 1)) none))) x4 (.lst (cutV (nv (cs2.map num)) (some (((m : Nat) : Int) + 1)) none))) y2 (.tup [V.ref x3, V.ref x4])) tT o tT = some o := fun o => upd_same
                have kT := kT (.tup [V.ref y1, V.ref y2])
                generalize upd (upd (upd (upd (upd (upd (upd HB x1 (.lst (cutV ysB none (some ((m : Nat) : Int))))) x2 (.lst (cutV (nv (cs2.map num)) none (some (((m : Nat) : Int) + 1))))) y1 (.tup [V.ref x1, V.ref x2])) x3 (.lst (cutV ysB (some (((m : Nat) : Int) + 1)) none))) x4 (.lst (cutV (nv (cs2.map num)) (some (((m : Nat) : Int) + 1)) none))) y2 (.tup [V.ref x3, V.ref x4])) tT (.tup [V.ref y1, V.ref y2]) = HC at *
                rw [cut_to] at kx1
                rw [show ((m : Nat) : Int) + 1 = ((m + 1 : Nat) : Int) by omega, cut_to, ← nv_take] at kx2
                rw [show ((m : Nat) : Int) + 1 = ((m + 1 : Nat) : Int) by omega, cut_from] at kx3
                rw [show ((m : Nat) : Int) + 1 = ((m + 1 : Nat) : Int) by omega, cut_from, ← nv_drop] at kx4
                have zC := zB.same s7
                have hysC := hysB.same s7
                have l1C : IsLs S HC x1 (W.take m) := ⟨f1, _, kx1, Paired.take _ hysC⟩
                have l3C : IsLs S HC x3 (W.drop (m + 1)) := ⟨f3, _, kx3, Paired.drop _ hysC⟩
                have n2C : IsNs S HC x2 ((cs2.map num).take (m + 1)) := ⟨f2, kx2⟩
                have n4C : IsNs S HC x4 ((cs2.map num).drop (m + 1)) := ⟨f4, kx4⟩
                have lsC : IsLs S HC p5 W := lsB.same s7
                have tl := take_le (own1'.al hf1)
                refine ⟨tT, _, rfl, SqT.of kT, rfl, _, _, rfl, ?_⟩
                obtain ⟨HD, dpD, bD, zD⟩ := zC.put (n := n) (by omega) (nd_node l1C n2C ky1)
                have lC := zC.loose (T := [dn]) (fun x hx => by simp at hx; simp [hx])
                refine ⟨_, rfl, _, rfl, dn, HD, rfl, dpD, _, _, rfl, ?_⟩
                obtain ⟨HE, dpE, bE, zE⟩ := zD.put (n := a1.take.1) (by omega) (nd_node (l3C.but lC zC.s bD) (n4C.but lC bD) (lC.tup zC.s bD ky2))
                have lD := zD.loose (T := [dn]) (fun x hx => by simp at hx; simp [hx])
                refine ⟨_, rfl, _, rfl, dn, HE, rfl, dpE, rfl, ?_⟩
                obtain ⟨_, ysE, hpE, hysE⟩ := (lsC.but lC zC.s bD).but lD zD.s bE
                have hget : W[m]? = some (W.getD m dE) := by
                  rw [List.getD_eq_getElem?_getD, List.getElem?_eq_getElem (by omega)]; rfl
                obtain ⟨x, hxC, zx⟩ := Paired.get hysE hget
                refine ⟨_, rfl, _, rfl, p5, _, _, _, rfl, rfl, SqL.of hpE, atI_nat hxC, _, rfl, by show 2 ≤ sizeLine; decide, fun tR htR => ?_⟩
                have sR := L2.Same.new1 (o := .tup [x, V.int ((a1.take.1 : Nat) : Int)]) htR
                have bb : But [dw, dn, fl] H HE := ((((b06.trans (.of (e7.trans e7A))).trans (bB.mono fun x hx => by simp at hx; rcases hx with rfl | rfl <;> simp)).trans (.of s7)).trans (bD.mono fun x hx => by simp at hx; simp [hx])).trans (bE.mono fun x hx => by simp at hx; simp [hx])
                exact k _ _ _ (bb.trans (.of sR)) (zE.same sR) (ps.1.trans wst.1) wst.2 ⟨tR, x, rfl, upd_same, zx.same sR⟩
end
end K7
namespace K7
open PySem PySem.Spec PyProof.Rows L2
def ndSz : Nd → Nat
  | (es, none) => lsz es
  | (ws, some cs) => isz ws cs.length
theorem ndSz_T : ∀ {h : Nat} (t : Tr h), ndSz (ndT h t) = tsz t
  | 0, ⟨_, _⟩ => rfl
  | _ + 1, ⟨_, _, cs⟩ => by
    show isz _ (cs.map num).length = isz _ cs.length
    rw [List.length_map]
section
variable {P : Program} {w : World} {K : PySem.W.Frag} {mg : Str → Option Value} {base : Heap} {C : Addr}
def spLBytes : Sp := fun vs H Q _ => ∃ S v nd, vs = [v] ∧ IsNd S H v nd ∧ nd.1.length ≤ 1000 ∧ ∀ H', Same H H' → Q (.int (ndSz nd : Nat)) H'
abbrev s__law_bytes : Stmt := top 84
abbrev N__law_bytes : List Str := ["_law_node"]
theorem sc__law_bytes : FnScope N__law_bytes ["_law_node"] (defScope s__law_bytes) := ⟨rfl, rfl, rfl, by decide +kernel, rfl, by decide +kernel, by decide +kernel⟩
theorem ok__law_bytes (F : At K mg "_law_bytes" s__law_bytes) (T : Txt K mg C) (D__law_tree_size : Df P w K mg base "_law_tree_size" 1 ["_law_entries"] spLTs) : Df P w K mg base "_law_bytes" 2 ["_law_node"] spLBytes := by
  refine F.df sc__law_bytes (fun _ _ _ _ _ _ us hl => match us, hl with | [_], _ => rfl) (fun vs H Q E h => ?_) (fun f cdv A outer s H vs Q E hr h => ?_)
  · obtain ⟨S, v, nd, rfl, _⟩ := h; rfl
  · obtain ⟨S, v, nd, rfl, z, hl, k⟩ := h
    refine ⟨_, (pss_one (ps_ret (pe_op op_add (pe_cd D__law_tree_size (hr.mono (by omega)) (pa_cons (pe_ix ix_tup (pv 0) pe_int (fun _ _ => rfl)) pa_nil)) (pe_ifExp (pt_cmpR op_eq (pe_callB call_len (by rfl) T.len (by decide +kernel) (pa_cons (pv 0) pa_nil)) pe_int (nomark _)) (pe_op op_mul pe_int (pe_callB call_len (by rfl) T.len (by decide +kernel) (pa_cons (pe_ix ix_tup (pv 0) pe_int (fun _ _ => rfl)) pa_nil))) pe_int)))), ?_⟩
    obtain ⟨es, o⟩ := nd
    cases o with
    | none =>
      obtain ⟨a, l, xs, rfl, h1, h2, h3, h4⟩ := z
      refine ⟨_, rfl, a, _, 0, _, rfl, rfl, SqT.of h1, atI_nat (j := 0) rfl, ?_⟩
      refine ⟨_, es, rfl, ⟨l, xs, rfl, h2, h3⟩, hl, fun H1 e1 => ?_⟩
      refine ⟨_, rfl, _, 1, rfl, .inr ⟨_, SqT.of (e1 _ _ h1), rfl⟩, rfl, _, rfl, ibF (by decide) ?_⟩
      refine ⟨_, _, rfl, rfl, ?_⟩
      show Q (.int ((lsz es : Int) + 0)) H1
      rw [Int.add_zero]
      exact k _ e1
    | some cs =>
      obtain ⟨a, l, m, xs, rfl, h1, h2, h3, h4, h5, h6⟩ := z
      refine ⟨_, rfl, a, _, 0, _, rfl, rfl, SqT.of h1, atI_nat (j := 0) rfl, ?_⟩
      refine ⟨_, es, rfl, ⟨l, xs, rfl, h2, h3⟩, hl, fun H1 e1 => ?_⟩
      refine ⟨_, rfl, _, 2, rfl, .inr ⟨_, SqT.of (e1 _ _ h1), rfl⟩, rfl, _, rfl, ibT rfl ?_⟩
      refine ⟨_, rfl, a, _, 1, _, rfl, rfl, SqT.of (e1 _ _ h1), atI_nat (j := 1) rfl, _, cs.length, rfl, .inl ⟨_, SqL.of (e1 _ _ h5), (nv_len cs).symm⟩, _, _, rfl, rfl, .inl ⟨by decide, by decide⟩, _, _, rfl, rfl, ?_⟩
      show Q (.int ((lsz es : Int) + 2 * (cs.length : Int))) H1
      rw [show (lsz es : Int) + 2 * (cs.length : Int) = ((isz es cs.length : Nat) : Int) by unfold isz; omega]
      exact k _ e1
def spLTog : Sp := fun vs H Q _ => ∃ S dn N h, ∃ n : Nat, ∃ ws : List Ent, ∃ cs : List (Tr h), ∃ l : Nat, ∃ w c d, vs = [.ref dn, .int (n : Int), .int (l : Int)] ∧ IsDn S H dn N ∧ Lists S H ∧ repN (h + 1) (node n ws cs) N ∧ Ok (h + 1) (node n ws cs) ∧ ws[l]? = some w ∧ cs[l]? = some c ∧ cs[l + 1]? = some d ∧
  (tsz (joinT h c w d) ≤ 116 → ∀ a H', Same H H' → IsNd S H' (.ref a) (ndT h (joinT h c w d)) → Q (.ref a) H') ∧ (¬ tsz (joinT h c w d) ≤ 116 → ∀ H', Same H H' → Q .non H')
abbrev s__law_together : Stmt := top 85
abbrev N__law_together : List Str := ["_law_nodes", "_law_number_here", "_law_left", "_law_shuts", "_law_children", "_law_one", "_law_other", "_law_late"]
theorem sc__law_together : FnScope N__law_together ["_law_nodes", "_law_number_here", "_law_left"] (defScope s__law_together) := ⟨rfl, rfl, rfl, by decide +kernel, rfl, by decide +kernel, by decide +kernel⟩
theorem ok__law_together (F : At K mg "_law_together" s__law_together) (T : Txt K mg C) (D__law_bytes : Df P w K mg base "_law_bytes" 2 ["_law_node"] spLBytes) : Df P w K mg base "_law_together" 3 ["_law_nodes", "_law_number_here", "_law_left"] spLTog := by
  refine F.df sc__law_together (fun _ _ _ _ _ _ us hl => match us, hl with | [_, _, _], _ => rfl) (fun vs H Q E h => ?_) (fun f cdv A outer s H vs Q E hr h => ?_)
  · obtain ⟨S, dn, N, h, n, ws, cs, l, w, c, d, rfl, _⟩ := h; rfl
  · obtain ⟨S, dn, N, h, n, wl, cs, l, w1, c, d, rfl, z, hs, hrep, hok, ew, ec, ed, kt, kf⟩ := h
    refine ⟨_, (pss_cons (ps_asg (pe_dget (hu_of hr) (pv 0) (pv 1) (fun _ _ => rfl)) (pg_tup (by rfl) (pgs_cons (pg_name (i := 3) sc__law_together.nd rfl (Or.inl rfl)) (pgs_cons (pg_name (i := 4) sc__law_together.nd rfl (Or.inl rfl)) pgs_nil))))
  (pss_cons (ps_par (i := 5) (j := 6) (by rfl) sc__law_together.nd rfl rfl (by decide) rfl rfl (pa_cons (pe_dget (hu_of hr) (pv 0) (pe_ix ix_list (pv 4) (pv 2) (fun _ _ => rfl)) (fun _ _ => rfl)) (pa_cons (pe_dget (hu_of hr) (pv 0) (pe_ix ix_list (pv 4) (pe_op op_add (pv 2) pe_int) (fun _ _ => rfl)) (fun _ _ => rfl)) pa_nil)) (by rfl))
  (pss_cons (ps_if (pt_cmpR op_eq (pe_callB call_len (by rfl) T.len (by decide +kernel) (pa_cons (pv 5) pa_nil)) pe_int (nomark _))
  (pss_one (ps_set (i := 7) sc__law_together.nd rfl (Or.inl rfl) (pe_tup (pa_cons (pe_op op_cat (pe_ix ix_tup (pv 5) pe_int (fun _ _ => rfl)) (pe_ix ix_tup (pv 6) pe_int (fun _ _ => rfl))) pa_nil))))
  (pss_one (ps_set (i := 7) sc__law_together.nd rfl (Or.inl rfl) (pe_tup (pa_cons (pe_op op_cat (pe_op op_cat (pe_ix ix_tup (pv 5) pe_int (fun _ _ => rfl)) (pe_lst (pa_cons (pe_ix ix_list (pv 3) (pv 2) (fun _ _ => rfl)) pa_nil))) (pe_ix ix_tup (pv 6) pe_int (fun _ _ => rfl))) (pa_cons (pe_op op_cat (pe_ix ix_tup (pv 5) pe_int (fun _ _ => rfl)) (pe_ix ix_tup (pv 6) pe_int (fun _ _ => rfl))) pa_nil))))))
  (pss_one (ps_ret (pe_ifExp (pt_cmpR op_le (pe_cd D__law_bytes (hr.mono (by omega)) (pa_cons (pv 7) pa_nil)) pe_int (nomark _)) (pv 7) pe_non)))))), ?_⟩
    obtain ⟨hl1, hz, hge, hoks⟩ := id hok
    obtain ⟨hNn, hreps⟩ := id hrep
    obtain ⟨v0, g0, nd0⟩ := z.get hNn
    obtain ⟨v1, g1, nd1⟩ := z.get (repN_nd (hreps c (List.mem_of_getElem? ec)))
    obtain ⟨v2, g2, nd2⟩ := z.get (repN_nd (hreps d (List.mem_of_getElem? ed)))
    have okc := hoks c (List.mem_of_getElem? ec)
    have okd := hoks d (List.mem_of_getElem? ed)
    obtain ⟨a0, l0, m0, xs, rfl, ha0, hl0, hes, hlS, hm0, hmS⟩ := nd0
    refine ⟨_, rfl, _, rfl, dn, _, rfl, g0, a0, _, rfl, SqT.of ha0, rfl, _, _, rfl, _, _, rfl, rfl, ?_⟩
    refine ⟨_, rfl, _, rfl, _, rfl, m0, _, _, _, rfl, rfl, SqL.of hm0, atI_nat (nv_map_get ec), dn, v1, rfl, g1, ?_⟩
    refine ⟨_, rfl, _, rfl, _, rfl, _, _, rfl, rfl, m0, _, _, _, rfl, rfl, SqL.of hm0, atI_nat (j := l + 1) (nv_map_get ed), dn, v2, rfl, g2, ?_⟩
    refine ⟨_, _, rfl, ?_⟩
    cases h with
    | zero =>
      obtain ⟨n1, es⟩ := c
      obtain ⟨n2, fs⟩ := d
      obtain ⟨hz1, hge1⟩ := okc
      obtain ⟨hz2, hge2⟩ := okd
      have q1 := len_of_lsz hge1
      have q2 := len_of_lsz hge2
      obtain ⟨a1, l1, x1, rfl, ha1, hl1', hes1, _⟩ := nd1
      obtain ⟨a2, l2, x2, rfl, ha2, hl2', hes2, _⟩ := nd2
      refine ⟨_, rfl, _, 1, rfl, .inr ⟨_, SqT.of ha1, rfl⟩, rfl, _, rfl, ibT rfl ?_⟩
      refine ⟨_, rfl, a1, _, 0, _, rfl, rfl, SqT.of ha1, atI_nat (j := 0) rfl, _, rfl, a2, _, 0, _, rfl, rfl, SqT.of ha2, atI_nat (j := 0) rfl, l1, l2, x1, x2, rfl, rfl, hl1', hl2', sz_of (by rw [hes1.length, hes2.length]; omega), fun p hp => ?_⟩
      have s1 := L2.Same.new1 (o := .lst (x1 ++ x2)) hp
      refine ⟨by show 1 ≤ sizeLine; decide, fun t ht => ?_⟩
      have s2 := s1.new (o := .tup [V.ref p]) ht
      have hls : IsLs S (upd (upd H p (.lst (x1 ++ x2))) t (.tup [V.ref p])) p (es ++ fs) := ⟨hs.fresh hp, _, (L2.Same.new1 ht) _ _ upd_same, Paired.append (hes1.same s2) (hes2.same s2)⟩
      have hnd := nd_leaf hls (t := t) upd_same
      refine ⟨_, rfl, S, _, _, rfl, hnd, by show (es ++ fs).length ≤ 1000; rw [List.length_append]; omega, fun H3 e3 => ?_⟩
      have s3 := s2.trans e3
      have nd3 := hnd.but (T := []) Loose.nil (hs.same s2) (.of e3)
      refine ⟨_, _, rfl, rfl, ?_⟩
      have et : ndSz ((es ++ fs, none) : Nd) = tsz (joinT 0 ⟨n1, es⟩ w1 ⟨n2, fs⟩) := rfl
      rw [et]
      by_cases c : tsz (joinT 0 (⟨n1, es⟩ : Tr 0) w1 ⟨n2, fs⟩) ≤ 116
      · exact ⟨_, rfl, ifT (by omega) ⟨_, rfl, kt c _ _ s3 nd3⟩⟩
      · exact ⟨_, rfl, ifF (by omega) (kf c _ s3)⟩
    | succ h =>
      obtain ⟨n1, us, ds⟩ := c
      obtain ⟨n2, ts, bs⟩ := d
      obtain ⟨k1, hz1, hge1, _⟩ := okc
      obtain ⟨k2, hz2, hge2, _⟩ := okd
      have q1 := len_of_lsz hge1
      have q2 := len_of_lsz hge2
      have hz1' : lsz us + 2 * ds.length ≤ 116 := hz1
      have hz2' : lsz ts + 2 * bs.length ≤ 116 := hz2
      obtain ⟨a1, l1, m1, x1, rfl, ha1, hl1', hes1, _, hm1, _⟩ := nd1
      obtain ⟨a2, l2, m2, x2, rfl, ha2, hl2', hes2, _, hm2, _⟩ := nd2
      refine ⟨_, rfl, _, 2, rfl, .inr ⟨_, SqT.of ha1, rfl⟩, rfl, _, rfl, ibF (by decide) ?_⟩
      obtain ⟨x, hx, zx⟩ := Paired.get hes ew
      refine ⟨_, rfl, a1, _, 0, _, rfl, rfl, SqT.of ha1, atI_nat (j := 0) rfl, _, rfl, _, rfl, l0, _, _, _, rfl, rfl, SqL.of hl0, atI_nat hx, by show 1 ≤ sizeLine; decide, fun p1 hp1 => ?_⟩
      have s1 := L2.Same.new1 (o := .lst [x]) hp1
      refine ⟨l1, p1, x1, [x], rfl, rfl, s1 _ _ hl1', upd_same, sz_of (by rw [hes1.length]; simp; omega), fun p2 hp2 => ?_⟩
      have s2 := s1.new (o := .lst (x1 ++ [x])) hp2
      refine ⟨_, rfl, a2, _, 0, _, rfl, rfl, SqT.of (s2 _ _ ha2), atI_nat (j := 0) rfl, p2, l2, _, x2, rfl, rfl, upd_same, s2 _ _ hl2', sz_of (by rw [List.length_append, hes1.length, hes2.length]; simp; omega), fun p3 hp3 => ?_⟩
      have s3 := s2.new (o := .lst (x1 ++ [x] ++ x2)) hp3
      refine ⟨_, rfl, a1, _, 1, _, rfl, rfl, SqT.of (s3 _ _ ha1), atI_nat (j := 1) rfl, _, rfl, a2, _, 1, _, rfl, rfl, SqT.of (s3 _ _ ha2), atI_nat (j := 1) rfl, m1, m2, _, _, rfl, rfl, s3 _ _ hm1, s3 _ _ hm2, sz_of (by rw [nv_len, nv_len, List.length_map, List.length_map]; omega), fun p4 hp4 => ?_⟩
      have s4 := s3.new (o := .lst (nv (ds.map num) ++ nv (bs.map num))) hp4
      refine ⟨by show 2 ≤ sizeLine; decide, fun t ht => ?_⟩
      have s5 := s4.new (o := .tup [V.ref p3, V.ref p4]) ht
      have q5 := L2.Same.new1 (o := .tup [V.ref p3, V.ref p4]) ht
      have q4 := (L2.Same.new1 (o := .lst (nv (ds.map num) ++ nv (bs.map num))) hp4).trans q5
      have v3 := q4 _ _ upd_same
      have v4 := q5 _ _ upd_same
      have vt : ∀ o, upd (upd (upd (upd (upd H p1 (.lst [x])) p2 (.lst (x1 ++ [x]))) p3 (.lst (x1 ++ [x] ++ x2))) p4 (.lst (nv (ds.map num) ++ nv (bs.map num)))) t o t = some o := fun _ => upd_same
      have vt := vt (.tup [V.ref p3, V.ref p4])
      have f3 := hs.fresh (s2.free hp3)
      have f4 := hs.fresh (s3.free hp4)
      generalize upd (upd (upd (upd (upd H p1 (.lst [x])) p2 (.lst (x1 ++ [x]))) p3 (.lst (x1 ++ [x] ++ x2))) p4 (.lst (nv (ds.map num) ++ nv (bs.map num)))) t (.tup [V.ref p3, V.ref p4]) = H5 at *
      rw [List.append_assoc] at v3
      have hls : IsLs S H5 p3 (us ++ w1 :: ts) := ⟨f3, _, v3, Paired.append (hes1.same s5) (.cons (zx.same s5) (hes2.same s5))⟩
      have hns : IsNs S H5 p4 ((ds ++ bs).map num) := ⟨f4, by rw [List.map_append, nv_app]; exact v4⟩
      have hnd := nd_node hls hns vt
      refine ⟨_, rfl, S, _, _, rfl, hnd, by show (us ++ w1 :: ts).length ≤ 1000; rw [List.length_append, List.length_cons]; omega, fun H6 e6 => ?_⟩
      have s6 := s5.trans e6
      have nd6 := hnd.but (T := []) Loose.nil (hs.same s5) (.of e6)
      refine ⟨_, _, rfl, rfl, ?_⟩
      have et : ndSz ((us ++ w1 :: ts, some ((ds ++ bs).map num)) : Nd) = tsz (joinT (h + 1) ⟨n1, us, ds⟩ w1 ⟨n2, ts, bs⟩) := ndSz_T (joinT (h + 1) ⟨n1, us, ds⟩ w1 ⟨n2, ts, bs⟩)
      rw [et]
      by_cases c : tsz (joinT (h + 1) (⟨n1, us, ds⟩ : Tr (h + 1)) w1 ⟨n2, ts, bs⟩) ≤ 116
      · exact ⟨_, rfl, ifT (by omega) ⟨_, rfl, kt c _ _ s6 nd6⟩⟩
      · exact ⟨_, rfl, ifF (by omega) (kf c _ s6)⟩
def spLListLt (hn : Nat) : Sp := fun vs H Q _ => ∃ h, h < hn ∧ ∃ S dn N, ∃ t : Tr h, ∃ a, vs = [.ref dn, .int (num t : Int)] ∧ IsDn S H dn N ∧ Lists S H ∧ repN h t N ∧ Ok h t ∧ Own (nums h t) a ∧ a.fresh ≤ 65534 ∧ Ret H (fun v H' => IsNL H' v (nums h t)) Q
abbrev s__law_listed : Stmt := top 87
abbrev N__law_listed : List Str := ["_law_nodes", "_law_number_here", "_law_found_now", "_law_child"]
theorem sc__law_listed : FnScope N__law_listed ["_law_nodes", "_law_number_here"] (defScope s__law_listed) := ⟨rfl, rfl, rfl, by decide +kernel, rfl, by decide +kernel, by decide +kernel⟩
theorem ok__law_listed (F : At K mg "_law_listed" s__law_listed) (T : Txt K mg C)  : ∀ hn, Df P w K mg base "_law_listed" (1 + hn) ["_law_nodes", "_law_number_here"] (spLListLt hn) := by
  intro hn
  induction hn with
  | zero =>
    show Df P w K mg base "_law_listed" (0 + 1) ["_law_nodes", "_law_number_here"] (spLListLt 0)
    exact F.df sc__law_listed (fun _ _ _ _ _ _ us hl => match us, hl with | [_, _], _ => rfl) (fun vs H Q E h => by obtain ⟨_, hl, _⟩ := h; omega) (fun f cdv A outer s H vs Q E hr h => by obtain ⟨_, hl, _⟩ := h; omega)
  | succ hn D__law_listed =>
    show Df P w K mg base "_law_listed" ((1 + hn) + 1) ["_law_nodes", "_law_number_here"] (spLListLt (hn + 1))
    refine F.df sc__law_listed (fun _ _ _ _ _ _ us hl => match us, hl with | [_, _], _ => rfl) (fun vs H Q E h => ?_) (fun f cdv A outer s H vs Q E hr h => ?_)
    · obtain ⟨h, hl, S, dn, N, t, a, rfl, _⟩ := h; rfl
    · obtain ⟨h, hl, S, dn, N, t, a, rfl, z, hs, hrep, hok, own, hf, k⟩ := h
      refine ⟨_, (pss_cons (ps_set (i := 2) sc__law_listed.nd rfl (Or.inl rfl) (pe_lst (pa_cons (pv 1) pa_nil)))
  (pss_cons (ps_if (pt_cmpR op_eq (pe_callB call_len (by rfl) T.len (by decide +kernel) (pa_cons (pe_dget (hu_of hr) (pv 0) (pv 1) (fun _ _ => rfl)) pa_nil)) pe_int (nomark _))
  (pss_one (ps_for PassesOwn.never rfl (pi_list (pe_ix ix_tup (pe_dget (hu_of hr) (pv 0) (pv 1) (fun _ _ => rfl)) pe_int (fun _ _ => rfl))) (pg_name (i := 3) sc__law_listed.nd rfl (Or.inl rfl))
  (pss_one (ps_set (i := 2) sc__law_listed.nd rfl (Or.inl rfl) (pe_op op_cat (pv 2) (pe_cd D__law_listed (hr.mono (by omega)) (pa_cons (pv 0) (pa_cons (pv 3) pa_nil))))))))
  pss_nil)
  (pss_one (ps_ret (pv 2))))), ?_⟩
      obtain ⟨v0, g0, nd0⟩ := z.get (repN_nd hrep)
      refine ⟨_, rfl, by show 1 ≤ sizeLine; decide, fun p hp => ?_⟩
      have n1 := L2.Same.new1 (o := .lst [V.int ((num t : Nat) : Int)]) hp
      have z1 := z.but (T := []) Loose.nil hs (.of n1) (by simp)
      obtain ⟨v1, g1, nd1⟩ := z1.get (repN_nd hrep)
      cases h with
      | zero =>
        obtain ⟨n, es⟩ := t
        obtain ⟨a0, l0, xs, rfl, ha0, hl0, hes, hlS⟩ := nd1
        refine ⟨_, rfl, _, rfl, dn, _, rfl, g1, _, 1, rfl, .inr ⟨_, SqT.of ha0, rfl⟩, rfl, _, rfl, ibF (by decide) ?_⟩
        exact ⟨_, rfl, k _ _ n1 ⟨p, rfl, upd_same⟩⟩
      | succ h =>
        obtain ⟨n, wl, cs⟩ := t
        obtain ⟨hl1, hz, hge, hoks⟩ := id hok
        obtain ⟨hNn, hreps⟩ := id hrep
        have own' : Own (n :: numsL h cs) a := own
        have onl := own_len own'
        rw [List.length_cons] at onl
        obtain ⟨a0, l0, m0, xs, rfl, ha0, hl0, hes, hlS, hm0, hmS⟩ := nd1
        refine ⟨_, rfl, _, rfl, dn, _, rfl, g1, _, 2, rfl, .inr ⟨_, SqT.of ha0, rfl⟩, rfl, _, rfl, ibT rfl ?_⟩
        refine ⟨_, rfl, _, rfl, dn, _, rfl, g1, a0, _, 1, _, rfl, rfl, SqT.of ha0, atI_nat (j := 1) rfl, ?_⟩
        refine ⟨m0, rfl, ⟨_, SqL.of hm0⟩, for_list (xs := nv (cs.map num)) (fun i σ H' => ∃ q t4, σ = [some (.ref dn), some (.int (n : Int)), some (.ref q), t4] ∧ Same (upd H p (.lst [V.int ((n : Nat) : Int)])) H' ∧ H' q = some (.lst (nv (n :: numsL h (cs.take i)))))
          ⟨p, _, rfl, L2.Same.refl _, upd_same⟩ (fun i σ H' _ ⟨_, _, _, y, _⟩ => SqL.of (y _ _ hm0)) ?_ ?_⟩
        · rintro i x σ H4 hx ⟨q, t4, rfl, e4, hq4⟩
          obtain ⟨m, hm, rfl⟩ := nv_get' hx
          rw [List.getElem?_map] at hm
          obtain ⟨c, hc, rfl⟩ := Option.map_eq_some_iff.mp hm
          obtain ⟨A', B', ec1, ec2, ec3, ec4⟩ := dec hc
          have oc : Own (nums h c) a := by
            rw [ec1] at own'
            exact kid_own own'
          have z4 := z1.but (T := []) Loose.nil (hs.same n1) (.of e4) (by simp)
          refine ⟨_, rfl, _, rfl, _, rfl, h, by omega, S, dn, N, c, a, rfl, z4, (hs.same n1).same e4, hreps c (List.mem_of_getElem? hc), hoks c (List.mem_of_getElem? hc), oc, hf, fun v H5 e5 z5 => ?_⟩
          obtain ⟨b, rfl, hb⟩ := z5
          have n1' := numsL_take_le cs i
          have n2' := numsL_take_le cs (i + 1)
          rw [numsL_snoc hc, List.length_append] at n2'
          refine ⟨q, b, _, _, rfl, rfl, e5 _ _ hq4, hb, ?_, fun q2 hq2 => ?_⟩
          · rw [nv_len, nv_len, List.length_cons]
            exact sz_of (by omega)
          refine ⟨q2, _, rfl, (e4.trans e5).new hq2, ?_⟩
          rw [upd_same, ← nv_app, numsL_snoc hc]
          rfl
        · rintro σ H4 ⟨q, t4, rfl, e4, hq4⟩
          rw [nv_len, List.length_map, List.take_length] at hq4
          exact ⟨_, rfl, k _ H4 (n1.trans e4) ⟨q, rfl, hq4⟩⟩
end
end K7
namespace K7
open PySem PySem.Spec PyProof.Rows L2
theorem join_stepN (h : Nat) (c : Tr h) (w : Ent) (d : Tr h) (N : LM) (a : Al) (o : Own (nums h c ++ nums h d) a) (r1 : repN h c N) (r2 : repN h d N) :
    StepN N (setN N (num c) (ndT h (joinT h c w d))) a (a.give (num d)) (nums h c ++ nums h d) (nums h (joinT h c w d)) ∧ repN h (joinT h c w d) (setN N (num c) (ndT h (joinT h c w d))) := by
  obtain ⟨rc, ec⟩ := nums_head h c
  obtain ⟨rd, ed⟩ := nums_head h d
  have en : ∀ x, List.count x (nums h c ++ nums h d) = List.count x [num d, num c] + List.count x (rc ++ rd) := fun x => by
    rw [ec, ed, List.count_append, List.count_append, cnt_cons x (num c) rc, cnt_cons x (num d) rd, cnt_cons x (num d) [num c]]
    omega
  have s1 : StepN N (setN N (num c) (ndT h (joinT h c w d))) a a [num d, num c] [num d, num c] := StepN.set (List.mem_cons_of_mem _ List.mem_cons_self) _
  have s2 : StepN (setN N (num c) (ndT h (joinT h c w d))) (setN N (num c) (ndT h (joinT h c w d))) a (a.give (num d)) [num d, num c] [num c] := StepN.give
  have s := s1.trans s2
  have kp : ∀ m ∈ rc ++ rd, setN N (num c) (ndT h (joinT h c w d)) m = N m := fun m hm => s.keep o en hm
  refine ⟨s.frame _ en (fun x => ?_), ?_⟩
  · have j := joinT_cnt h c w d x
    have e := en x
    rw [List.count_append] at e
    rw [cnt_cons x (num d) [num c]] at e
    omega
  · cases h with
    | zero =>
      obtain ⟨n, es⟩ := c
      obtain ⟨m, fs⟩ := d
      exact setN_same
    | succ h =>
      obtain ⟨n, ws, cs⟩ := c
      obtain ⟨m, us, ds⟩ := d
      cases ec
      cases ed
      refine ⟨setN_same, fun x hx => ?_⟩
      have sub : ∀ (D : List (Tr h)) y, y ∈ D → ∀ k ∈ nums h y, k ∈ numsL h D := fun D y hy k hk => List.mem_flatten.mpr ⟨nums h y, List.mem_map.mpr ⟨y, hy, rfl⟩, hk⟩
      rcases List.mem_append.mp hx with q | q
      · exact repN_frame h x N _ (fun k hk => kp k (List.mem_append_left _ (sub cs x q k hk))) (r1.2 x q)
      · exact repN_frame h x N _ (fun k hk => kp k (List.mem_append_right _ (sub ds x q k hk))) (r2.2 x q)
theorem tryJoin_stepN {h n : Nat} {ws : List Ent} {cs : List (Tr h)} {l : Nat} {N N1 : LM} {a : Al} {w : Ent} {c d : Tr h} (o : Own (n :: numsL h cs) a) (ec : cs[l]? = some c) (ed : cs[l + 1]? = some d) (hr : repN (h + 1) (node n ws cs) N)
    (s : StepN N N1 a (a.give (num d)) (nums h c ++ nums h d) (nums h (joinT h c w d))) (rj : repN h (joinT h c w d) N1) (ws' : List Ent) :
    StepN N (setN N1 n (ws', some ((cs.take l ++ joinT h c w d :: cs.drop (l + 2)).map num))) a (a.give (num d)) (nums (h + 1) (node n ws cs)) (nums (h + 1) (node n ws' (cs.take l ++ joinT h c w d :: cs.drop (l + 2)))) ∧
      repN (h + 1) (node n ws' (cs.take l ++ joinT h c w d :: cs.drop (l + 2))) (setN N1 n (ws', some ((cs.take l ++ joinT h c w d :: cs.drop (l + 2)).map num))) := by
  have e0 := join_cut ec ed
  generalize hA' : cs.take l = A at *
  generalize hB' : cs.drop (l + 2) = B at *
  subst e0
  have k := kidsN (n := n) (A := A) (C := [c, d]) (C' := [joinT h c w d]) (B := B) o (s.cnt (fun x => by rw [numsL_cons, numsL_cons, List.count_append, List.count_append, List.count_append]; simp [numsL]) (fun x => by rw [numsL_cons, List.count_append]; simp [numsL])) hr.2 (fun y hy => by rw [List.mem_singleton.mp hy]; exact rj)
  have o1 := k.1.owns o
  exact ⟨k.1.trans (StepN.set List.mem_cons_self _), setN_same, repN_set o1.hd k.2.1⟩
/-- a number is put to the free ones -/
theorem Wd.give {S : List Addr} {H : Hp} {dw dn fl : Addr} {N : LM} {a : Al} (z : Wd S H dw dn fl N a) (n : Nat) :
    But [fl] H (upd H fl (.lst (nv a.free.reverse ++ [V.int (n : Int)]))) ∧ Wd S (upd H fl (.lst (nv a.free.reverse ++ [V.int (n : Int)]))) dw dn fl N (a.give n) := by
  have ne := z.ne
  have b : But [fl] H (upd H fl (.lst (nv a.free.reverse ++ [V.int (n : Int)]))) := (But.refl _ H).upd List.mem_cons_self
  refine ⟨b, z.w.but b (by simp; exact ne.2.1), z.n.but (z.loose (T := [fl]) (fun x hx => by simp at hx; simp [hx])) z.s b (by simp; exact ne.2.2), ?_, z.i, z.s.upd (.inr ⟨_, rfl⟩)⟩
  rw [upd_same]
  show _ = some (HO.lst (nv (n :: a.free).reverse))
  rw [List.reverse_cons, nv_app]
  rfl
theorem lefts_lt {i k l j : Nat} (hi : i ≤ k) (h : (lefts i k)[j]? = some l) : l < k := by
  have m := List.mem_of_getElem? h
  unfold lefts at m
  rcases List.mem_append.mp m with m | m
  · split at m
    · rw [List.mem_singleton.mp m]; assumption
    · cases m
  · split at m
    · rw [List.mem_singleton.mp m]; omega
    · cases m
section
variable {P : Program} {w : World} {K : PySem.W.Frag} {mg : Str → Option Value} {base : Heap} {C : Addr}
def spLDropLt (hn : Nat) : Sp := fun vs H Q _ => ∃ h, h < hn ∧ ∃ S dw dn fl N a, ∃ t : Tr h, ∃ v e, vs = [.ref dw, .int (num t : Int), v] ∧ Wd S H dw dn fl N a ∧ repN h t N ∧ Ok h t ∧ IsE H v e ∧ Own (nums h t) a ∧ a.fresh ≤ 65534 ∧
  ∀ H' N', But [dw, dn, fl] H H' → Wd S H' dw dn fl N' (drop h t e a).2 → StepN N N' a (drop h t e a).2 (nums h t) (nums h (drop h t e a).1) → repN h (drop h t e a).1 N' → Q .non H'
abbrev s__law_drop : Stmt := top 86
abbrev N__law_drop : List Str := ["_law_world", "_law_number_here", "_law_entry", "_law_nodes", "_law_shuts", "_law_children", "_law_at", "_law_left", "_law_late", "_law_one", "_law_shut"]
theorem sc__law_drop : FnScope N__law_drop ["_law_world", "_law_number_here", "_law_entry"] (defScope s__law_drop) := ⟨rfl, rfl, rfl, by decide +kernel, rfl, by decide +kernel, by decide +kernel⟩
theorem ok__law_drop (F : At K mg "_law_drop" s__law_drop) (T : Txt K mg C) (D__law_bytes : Df P w K mg base "_law_bytes" 2 ["_law_node"] spLBytes) (D__law_together : Df P w K mg base "_law_together" 3 ["_law_nodes", "_law_number_here", "_law_left"] spLTog) : ∀ hn, Df P w K mg base "_law_drop" (4 + hn) ["_law_world", "_law_number_here", "_law_entry"] (spLDropLt hn) := by
  intro hn
  induction hn with
  | zero =>
    show Df P w K mg base "_law_drop" (3 + 1) ["_law_world", "_law_number_here", "_law_entry"] (spLDropLt 0)
    exact F.df sc__law_drop (fun _ _ _ _ _ _ us hl => match us, hl with | [_, _, _], _ => rfl) (fun vs H Q E h => by obtain ⟨_, hl, _⟩ := h; omega) (fun f cdv A outer s H vs Q E hr h => by obtain ⟨_, hl, _⟩ := h; omega)
  | succ hn D__law_drop =>
    show Df P w K mg base "_law_drop" ((4 + hn) + 1) ["_law_world", "_law_number_here", "_law_entry"] (spLDropLt (hn + 1))
    refine F.df sc__law_drop (fun _ _ _ _ _ _ us hl => match us, hl with | [_, _, _], _ => rfl) (fun vs H Q E h => ?_) (fun f cdv A outer s H vs Q E hr h => ?_)
    · obtain ⟨h, hl, S, dw, dn, fl, N, a, t, v, e, rfl, _⟩ := h; rfl
    · obtain ⟨h, hl, S, dw, dn, fl, N, a, t, v, e, rfl, z, hrep, hok, hv, own, hf, k⟩ := h
      refine ⟨_, (pss_cons (ps_set (i := 3) sc__law_drop.nd rfl (Or.inl rfl) (pe_dget (hu_of hr) (pv 0) pe_str (fun _ _ => rfl)))
  (pss_cons (ps_if (pt_cmpR op_eq (pe_callB call_len (by rfl) T.len (by decide +kernel) (pa_cons (pe_dget (hu_of hr) (pv 3) (pv 1) (fun _ _ => rfl)) pa_nil)) pe_int (nomark _))
  (pss_cons (ps_dput (hu_of hr) (pv 3) (pv 1) (pe_tup (pa_cons (pe_lc (own := [("_law_one", 9)]) (g := gName 9) rfl sc__law_drop.nd (pi_list (pe_ix ix_tup (pe_dget (hu_of hr) (pv 3) (pv 1) (fun _ _ => rfl)) pe_int (fun _ _ => rfl))) (blkOk_by (own := [("_law_one", 9)]) (N := N__law_drop) (sc := defScope s__law_drop) (by decide +kernel)) (fun _ _ _ _ _ => pg_name (i := 9) sc__law_drop.nd rfl (Or.inl rfl)) (fun _ _ _ _ _ => pts_one (pt_cmpR (op_neDK K (hu64 hr)) (pv 9) (pv 2) (nomark _))) (fun _ _ _ _ _ => (pv 9))) pa_nil)) rfl)
  (pss_one ps_retN))
  pss_nil)
  (pss_cons (ps_asg (pe_dget (hu_of hr) (pv 3) (pv 1) (fun _ _ => rfl)) (pg_tup (by rfl) (pgs_cons (pg_name (i := 4) sc__law_drop.nd rfl (Or.inr rfl)) (pgs_cons (pg_name (i := 5) sc__law_drop.nd rfl (Or.inl rfl)) pgs_nil))))
  (pss_cons (ps_set (i := 6) sc__law_drop.nd rfl (Or.inl rfl) (pe_callB call_len (by rfl) T.len (by decide +kernel) (pa_cons (pe_lc (own := [("_law_shut", 10)]) (g := gName 10) rfl sc__law_drop.nd (pi_list (pv 4)) (blkOk_by (own := [("_law_shut", 10)]) (N := N__law_drop) (sc := defScope s__law_drop) (by decide +kernel)) (fun _ _ _ _ _ => pg_name (i := 10) sc__law_drop.nd rfl (Or.inl rfl)) (fun _ _ _ _ _ => pts_one (pt_cmpR (op_leE (hu64 hr)) (pv 10) (pv 2) (nomark _))) (fun _ _ _ _ _ => (pv 10))) pa_nil)))
  (pss_cons (ps_expr (pe_cd D__law_drop (hr.mono (by omega)) (pa_cons (pv 0) (pa_cons (pe_ix ix_list (pv 5) (pv 6) (fun _ _ => rfl)) (pa_cons (pv 2) pa_nil)))))
  (pss_cons (ps_if (pt_cmpR op_ge (pe_cd D__law_bytes (hr.mono (by omega)) (pa_cons (pe_dget (hu_of hr) (pv 3) (pe_ix ix_list (pv 5) (pv 6) (fun _ _ => rfl)) (fun _ _ => rfl)) pa_nil)) pe_int (nomark _))
  (pss_one ps_retN)
  pss_nil)
  (pss_one (ps_for PassesOwn.never rfl (pi_list (pe_lc (own := [("_law_one", 9)]) (g := gName 9) rfl sc__law_drop.nd (pi_tup (pe_tup (pa_cons (pv 6) (pa_cons (pe_op op_sub (pv 6) pe_int) pa_nil)))) (blkOk_by (own := [("_law_one", 9)]) (N := N__law_drop) (sc := defScope s__law_drop) (by decide +kernel)) (fun _ _ _ _ _ => pg_name (i := 9) sc__law_drop.nd rfl (Or.inl rfl)) (fun _ _ _ _ _ => pts_one (pt_chain op_le op_lt pe_int (pv 9) (pe_callB (call_lenK K) (by rfl) T.len (by decide +kernel) (pa_cons (pv 4) pa_nil)))) (fun _ _ _ _ _ => (pv 9)))) (pg_name (i := 7) sc__law_drop.nd rfl (Or.inl rfl))
  (pss_cons (ps_set (i := 8) sc__law_drop.nd rfl (Or.inl rfl) (pe_cd D__law_together (hr.mono (by omega)) (pa_cons (pv 3) (pa_cons (pv 1) (pa_cons (pv 7) pa_nil)))))
  (pss_one (ps_if (pt_cmpR op_notN (pv 8) pe_non (nomark _))
  (pss_cons (ps_dput (hu_of hr) (pv 3) (pe_ix ix_list (pv 5) (pv 7) (fun _ _ => rfl)) (pv 8) rfl)
  (pss_cons (ps_expr (pe_bm PySem.F.plainAttrs_list PySem.F.slot_list_append PySem.F.type_list_append mt_append (pe_dget (hu_of hr) (pv 0) pe_str (fun _ _ => rfl)) (pa_cons (pe_ix ix_list (pv 5) (pe_op op_add (pv 7) pe_int) (fun _ _ => rfl)) pa_nil)))
  (pss_cons (ps_dput (hu_of hr) (pv 3) (pv 1) (pe_tup (pa_cons (pe_op op_cat (pe_slice sl_list (pv 4) po_none (po_some (pv 7))) (pe_slice sl_list (pv 4) (po_some (pe_op op_add (pv 7) pe_int)) po_none)) (pa_cons (pe_op op_cat (pe_slice sl_list (pv 5) po_none (po_some (pe_op op_add (pv 7) pe_int))) (pe_slice sl_list (pv 5) (po_some (pe_op op_add (pv 7) pe_int)) po_none)) pa_nil))) rfl)
  (pss_one ps_retN))))
  pss_nil))))))))))), ?_⟩
      have hnum := own.lt (num_mem h t)
      obtain ⟨v0, g0, nd0⟩ := z.n.get (repN_nd hrep)
      refine ⟨_, rfl, dw, _, rfl, z.w.nodes, ?_⟩
      cases h with
      | zero =>
        obtain ⟨n, es⟩ := t
        obtain ⟨hz, hge⟩ := hok
        have h5 := len_of_lsz hge
        obtain ⟨a0, l0, xs, rfl, ha0, hl0, hes, hlS⟩ := nd0
        have hn' : n < a.fresh := hnum
        refine ⟨_, rfl, _, rfl, dn, _, rfl, g0, _, 1, rfl, .inr ⟨_, SqT.of ha0, rfl⟩, rfl, _, rfl, ibT rfl ?_⟩
        refine ⟨_, rfl, _, rfl, dn, _, rfl, g0, a0, _, 0, _, rfl, rfl, SqT.of ha0, atI_nat (j := 0) rfl, ?_⟩
        refine ⟨l0, rfl, ⟨_, SqL.of hl0⟩, fun D hD => lc_list (xs := xs) (fun i H' => Same H H' ∧ ∃ ys, H' D = some (.lst ys) ∧ IsEs H' ys ((es.take i).filter fun x => decide (x ≠ e)) ∧ ys.length ≤ i) ⟨L2.Same.new1 hD, [], upd_same, .nil, Nat.zero_le _⟩ (fun i H' _ z => SqL.of (z.1 _ _ hl0)) ?_ ?_⟩
        · intro i x H' hxx ⟨z1', ys, z2, z3, z4⟩
          obtain ⟨g', hg, zg⟩ := Paired.get' hes hxx
          have hi := (List.getElem?_eq_some_iff.mp hg).1
          refine ⟨rfl, ?_⟩
          refine ⟨_, rfl, _, rfl, enc g', enc e, (zg.same z1').dp, (hv.same z1').dp, shaped_enc _, shaped_enc _, _, rfl, ?_⟩
          rw [eqv_enc]
          by_cases q : g' = e
          · refine ibF (by rw [decide_eq_true q]; decide) ⟨z1', ys, z2, ?_, by omega⟩
            rw [take_snoc hg, List.filter_append, List.filter_cons_of_neg (by simpa using q)]
            simpa using z3
          · refine ibT (by rw [decide_eq_false q]; decide) ⟨_, rfl, ys, z2, sz_lt (by omega), L2.Same.mut z1' hD, _, upd_same, ?_, by rw [List.length_append]; simp; omega⟩
            rw [take_snoc hg, List.filter_append, List.filter_cons_of_pos (by simpa using q)]
            have tp := Tups.upd (Tups.refl H') (o := .lst (ys ++ [x])) z2 (fun _ q => by cases q)
            exact Paired.append (z3.tups tp) (.cons ((zg.same z1').tups tp) .nil)
        · intro H4 ⟨e4, ys, hD4, hys, _⟩
          rw [hes.length, List.take_length] at hys
          refine ⟨by show 1 ≤ sizeLine; decide, fun t7 ht7 => ?_⟩
          have e7 := L2.Same.new1 (o := .tup [V.ref D]) ht7
          have hls : IsLs S H4 D (es.filter fun x => decide (x ≠ e)) := ⟨z.s.fresh hD, ys, hD4, hys⟩
          obtain ⟨H8, dp, b8, z8⟩ := (z.same (e4.trans e7)).put (n := n) (by omega) (nd_leaf (hls.same e7) upd_same)
          refine ⟨_, rfl, _, rfl, dn, H8, rfl, dp, ?_⟩
          exact k H8 _ ((But.of (e4.trans e7)).trans (b8.mono fun x hx => by simp at hx; simp [hx])) z8 (StepN.set List.mem_cons_self _) setN_same
      | succ h =>
        obtain ⟨n, wl, cs⟩ := t
        obtain ⟨hl1, hz, hge, hoks⟩ := id hok
        obtain ⟨hNn, hreps⟩ := id hrep
        have hn' : n < a.fresh := hnum
        have own' : Own (n :: numsL h cs) a := own
        have h5 := len_of_lsz hge
        have hz' : lsz wl + 2 * cs.length ≤ 116 := hz
        obtain ⟨a0, l0, m0, xs, rfl, ha0, hl0, hes, hlS, hm0, hmS⟩ := nd0
        refine ⟨_, rfl, _, rfl, dn, _, rfl, g0, _, 2, rfl, .inr ⟨_, SqT.of ha0, rfl⟩, rfl, _, rfl, ibF (by decide) ?_⟩
        refine ⟨_, rfl, _, rfl, dn, _, rfl, g0, a0, _, rfl, SqT.of ha0, rfl, _, _, rfl, _, _, rfl, rfl, ?_⟩
        refine ⟨_, rfl, l0, rfl, ⟨_, SqL.of hl0⟩, fun D hD => lc_list (xs := xs) (fun i H' => Same H H' ∧ ∃ ys, H' D = some (.lst ys) ∧ ys.length = place (wl.take i) e) ⟨L2.Same.new1 hD, [], upd_same, rfl⟩ (fun i H' _ z => SqL.of (z.1 _ _ hl0)) ?_ ?_⟩
        · intro i x H' hx ⟨z1, ys, z2, z3⟩
          obtain ⟨f, hf, zf⟩ := Paired.get' hes hx
          refine ⟨rfl, ?_⟩
          have ep : place (wl.take (i + 1)) e = place (wl.take i) e + (if leE f e = true then 1 else 0) := by
            unfold place
            rw [take_snoc hf, List.filter_append, List.length_append]
            by_cases q : leE f e = true
            · rw [if_pos q, List.filter_cons_of_pos (by simpa using q)]; rfl
            · rw [if_neg q, List.filter_cons_of_neg (by simpa using q)]; rfl
          have pl := place_le (wl.take i) e
          rw [List.length_take] at pl
          refine ⟨_, rfl, _, rfl, f, e, zf.same z1, hv.same z1, _, rfl, ?_⟩
          by_cases q : leE f e = true
          · rw [if_pos q] at ep
            refine ibT q ⟨_, rfl, ys, z2, sz_lt (by omega), L2.Same.mut z1 hD, _, upd_same, ?_⟩
            rw [List.length_append, z3, ep]
            rfl
          · rw [if_neg q] at ep
            exact ibF q ⟨z1, ys, z2, by rw [z3, ep]; rfl⟩
        · intro H1 ⟨e1, ys, hD1, hys⟩
          rw [hes.length, List.take_length] at hys
          refine ⟨_, ys.length, rfl, .inl ⟨_, SqL.of hD1, rfl⟩, ?_⟩
          rw [hys]
          obtain ⟨c, hc⟩ := child_there hl1 e
          refine ⟨_, rfl, _, rfl, _, rfl, m0, _, _, _, rfl, rfl, SqL.of (e1 _ _ hm0), atI_nat (nv_map_get hc), _, rfl, ?_⟩
          obtain ⟨A', B', ec1, ec2, ec3, ec4⟩ := dec hc
          rw [drop_eq hc, ec3, ec4] at k
          subst ec1
          have okc := hoks c (List.mem_of_getElem? hc)
          have f2 := num_drop h c e a
          have f3 := drop_ok h c e a okc
          have f4 := (drop_cnt h c e a okc).1
          have z1 := z.same e1
          refine ⟨h, by omega, S, dw, dn, fl, N, a, c, v, e, rfl, z1, hreps c (List.mem_of_getElem? hc), okc, hv.same e1, kid_own own', hf, fun H2 N2 b2 z2 st r2 => ?_⟩
          generalize drop h c e a = pc at *
          obtain ⟨c', a1⟩ := pc
          have l1 := z1.loose (T := [dw, dn, fl]) (fun x hx => by simpa using hx)
          have ls2 : IsLs S H2 l0 wl := (IsLs.same (⟨hlS, _, hl0, hes⟩ : IsLs S H l0 wl) e1).but l1 z1.s b2
          have ns2 : IsNs S H2 m0 ((A' ++ c :: B').map num) := (IsNs.same (⟨hmS, hm0⟩ : IsNs S H m0 _) e1).but l1 b2
          have b02 := (But.of e1).trans b2
          have f2' : num c' = num c := f2
          have dk := put_noneN (ws := wl) own' hrep st r2 f2'
          have ok1 : Ok (h + 1) (node n wl (A' ++ c' :: B')) := ok_set hok rfl f3
          have own1 : Own (n :: numsL h (A' ++ c' :: B')) a1 := dk.1.owns own
          have hf1 : a1.fresh ≤ 65534 := by
            have : a1.fresh = a.fresh := f4
            omega
          have eNm : (A' ++ c :: B').map num = (A' ++ c' :: B').map num := by
            rw [List.map_append, List.map_append, List.map_cons, List.map_cons, f2']
          rw [eNm] at ns2
          have okc' : Ok h c' := f3
          have r2' : repN h c' N2 := r2
          obtain ⟨v2, g2, nd2⟩ := z2.n.get (repN_nd r2')
          have hcl : (ndT h c').1.length ≤ 1000 := by
            cases h with
            | zero =>
              obtain ⟨q1, q2⟩ := c'
              have := len_of_lsz okc'.2
              have := okc'.1
              show q2.length ≤ 1000
              omega
            | succ h =>
              obtain ⟨q1, q2, q3⟩ := c'
              have := len_of_lsz okc'.2.2.1
              have h2 : lsz q2 + 2 * q3.length ≤ 116 := okc'.2.1
              show q2.length ≤ 1000
              omega
          have hcN : ((A' ++ c' :: B').map num)[place wl e]? = some (num c') := by
            rw [← eNm, List.getElem?_map, hc, f2']
            rfl
          refine ⟨_, rfl, _, rfl, _, rfl, m0, _, _, _, rfl, rfl, SqL.of ns2.2, atI_nat (nv_get hcN), dn, v2, rfl, g2, S, v2, _, rfl, nd2, hcl, fun H3 e3 => ?_⟩
          refine ⟨_, _, rfl, rfl, ?_⟩
          rw [ndSz_T]
          have b03 := b02.trans (.of e3)
          have z3 := z2.same e3
          have ls3 := ls2.same e3
          have ns3 := ns2.same e3
          have nm1 : nums (h + 1) (node n wl (A' ++ c :: B')) = n :: numsL h (A' ++ c :: B') := rfl
          by_cases c30 : tsz c' < 30
          · rw [if_pos c30] at k
            refine ⟨_, rfl, ifF (by omega) ?_⟩
            have hi : place wl e ≤ wl.length := place_le wl e
            generalize hcs2 : A' ++ c' :: B' = cs2 at *
            have hl2 : cs2.length = wl.length + 1 := ok1.1
            have hxlen := hes.length
            generalize place wl e = i at *
            obtain ⟨_, xs3, hl3, hes3⟩ := id ls3
            have hm3 := ns3.2
            -- the list of the left ones
            refine ⟨_, rfl, _, rfl, _, _, rfl, rfl, by show 2 ≤ sizeLine; decide, fun tp htp => ?_⟩
            have n3 := L2.Same.new1 (o := .tup [V.int ((i : Nat) : Int), V.int (((i : Nat) : Int) - 1)]) htp
            refine ⟨tp, rfl, ⟨_, SqT.of upd_same⟩, fun D2 hD2 => lc_tup (xs := [V.int ((i : Nat) : Int), V.int (((i : Nat) : Int) - 1)]) (fun j H' => Same (upd H3 tp (.tup [V.int ((i : Nat) : Int), V.int (((i : Nat) : Int) - 1)])) H' ∧ j ≤ 2 ∧ H' D2 = some (.lst (nv ((if 1 ≤ j ∧ i < wl.length then [i] else []) ++ (if 2 ≤ j ∧ 1 ≤ i then [i - 1] else []))))) ⟨L2.Same.new1 hD2, Nat.zero_le _, ?_⟩ (fun j H' _ z => SqT.of (z.1 _ _ upd_same)) ?_ ?_⟩
            · rw [upd_same]
              simp
              rfl
            · intro j x H' hx ⟨z1, z2, z3⟩
              have fD : upd H3 tp (.tup [V.int ((i : Nat) : Int), V.int (((i : Nat) : Int) - 1)]) D2 = none := hD2
              have hxa' := z1 _ _ (n3 _ _ hl3)
              have hj : j = 0 ∨ j = 1 := by
                have := (List.getElem?_eq_some_iff.mp hx).1
                simp at this
                omega
              refine ⟨rfl, ?_⟩
              rcases hj with rfl | rfl
              · obtain rfl : V.int ((i : Nat) : Int) = x := by simpa using hx
                refine ⟨_, rfl, _, _, rfl, rfl, _, rfl, ifT (by omega) ⟨_, rfl, _, wl.length, rfl, .inl ⟨_, SqL.of hxa', hes3.length.symm⟩, _, _, rfl, rfl, ?_⟩⟩
                refine ⟨_, rfl, ?_⟩
                by_cases c : i < wl.length
                · refine ibT (decide_eq_true (by omega)) ⟨_, rfl, _, z3, by simp; decide, L2.Same.mut z1 fD, by omega, ?_⟩
                  rw [upd_same]
                  simp [c]
                  rfl
                · refine ibF (fun q => c (by have := of_decide_eq_true q; omega)) ⟨z1, by omega, ?_⟩
                  rw [z3]
                  simp [c]
              · obtain rfl : V.int (((i : Nat) : Int) - 1) = x := by simpa using hx
                by_cases c1 : 1 ≤ i
                · refine ⟨_, rfl, _, _, rfl, rfl, _, rfl, ifT (by omega) ⟨_, rfl, _, wl.length, rfl, .inl ⟨_, SqL.of hxa', hes3.length.symm⟩, _, _, rfl, rfl, ?_⟩⟩
                  refine ⟨_, rfl, ?_⟩
                  refine ibT (decide_eq_true (by omega)) ⟨_, rfl, _, z3, ?_, L2.Same.mut z1 fD, by omega, ?_⟩
                  · rw [nv_len]
                    split <;> simp <;> decide
                  · rw [upd_same]
                    have q : V.int (((i : Nat) : Int) - 1) = V.int ((i - 1 : Nat) : Int) := by
                      congr 1
                      omega
                    rw [q, if_neg (show ¬ (2 ≤ 1 ∧ 1 ≤ i) by omega), if_pos (show 2 ≤ 1 + 1 ∧ 1 ≤ i from ⟨by omega, c1⟩), List.append_nil, nv_app]
                    by_cases c : i < wl.length
                    · rw [if_pos ⟨Nat.le_refl _, c⟩, if_pos ⟨by omega, c⟩]
                      rfl
                    · rw [if_neg (fun z => c z.2), if_neg (fun z => c z.2)]
                      rfl
                · refine ⟨_, rfl, _, _, rfl, rfl, _, rfl, ifF (by omega) ⟨_, rfl, ibF (by simp) ⟨z1, by omega, ?_⟩⟩⟩
                  rw [z3]
                  simp [c1]
            · intro H4 ⟨e4, _, hD4⟩
              have hD4 : H4 D2 = some (.lst (nv (lefts i wl.length))) := by
                rw [hD4]
                unfold lefts
                simp
              have e34 := n3.trans e4
              have z4 := z3.same e34
              have b04 := b03.trans (.of e34)
              refine ⟨D2, rfl, ⟨_, SqL.of hD4⟩, for_list (xs := nv (lefts i wl.length)) (fun j σ H' => ∃ t7 t8 t9 t10, σ = [some (.ref dw), some (.int (n : Int)), some v, some (.ref dn), some (.ref l0), some (.ref m0), some (.int (i : Int)), t7, t8, t9, t10] ∧ Same H4 H' ∧ joinAts n wl cs2 a1 (lefts i wl.length) = joinAts n wl cs2 a1 ((lefts i wl.length).drop j)) ⟨_, _, _, _, rfl, L2.Same.refl _, rfl⟩ (fun j σ H' _ ⟨_, _, _, _, _, z, _⟩ => SqL.of (z _ _ hD4)) ?_ ?_⟩
              · rintro j x σ H5 hx ⟨t7, t8, t9, t10, rfl, e5, ej⟩
                obtain ⟨l, hl, rfl⟩ := nv_get' hx
                have hlw : l < wl.length := lefts_lt hi hl
                have ew := List.getElem?_eq_getElem hlw
                have ec := List.getElem?_eq_getElem (show l < cs2.length by omega)
                have ed := List.getElem?_eq_getElem (show l + 1 < cs2.length by omega)
                generalize wl[l] = wv at *
                generalize cs2[l] = cl at *
                generalize cs2[l + 1] = dv at *
                have ejc : (lefts i wl.length).drop j = l :: (lefts i wl.length).drop (j + 1) := by
                  have hj := (List.getElem?_eq_some_iff.mp hl).1
                  rw [List.drop_eq_getElem_cons hj, (List.getElem?_eq_some_iff.mp hl).2]
                rw [ejc, joinAts_cons, tryJoin_eq ew ec ed] at ej
                have z5 := z4.same e5
                have e35 := e34.trans e5
                refine ⟨_, rfl, _, rfl, _, rfl, S, dn, N2, h, n, wl, cs2, l, wv, cl, dv, rfl, z5.n, z5.s, dk.2, ok1, ew, ec, ed, fun fits v6 H6 e6 nd6 => ?_, fun nf H6 e6 => ?_⟩
                · rw [if_pos fits] at ej
                  rw [ej] at k
                  have z6 := z5.same e6
                  have js := join_stepN h cl wv dv N2 a1 (joins_own own1 ec ed) (dk.2.2 cl (List.mem_of_getElem? ec)) (dk.2.2 dv (List.mem_of_getElem? ed))
                  have ts := tryJoin_stepN own1 ec ed dk.2 js.1 js.2 (wl.take l ++ wl.drop (l + 1))
                  have lnc : num cl ≤ 65535 := by
                    have := own1.lt (List.mem_cons_of_mem _ (List.mem_flatten.mpr ⟨nums h cl, List.mem_map.mpr ⟨cl, List.mem_of_getElem? ec, rfl⟩, num_mem h cl⟩))
                    omega
                  have ls6 := (ls3.same e35).same e6
                  have ns6 := (ns3.same e35).same e6
                  refine ⟨_, rfl, rfl, _, rfl, ibT rfl ?_⟩
                  -- the late node
                  obtain ⟨H7, dp7, b7, z7⟩ := z6.put (n := num cl) lnc nd6
                  refine ⟨_, rfl, _, rfl, _, rfl, _, rfl, m0, _, _, _, rfl, rfl, SqL.of ns6.2, atI_nat (nv_map_get ec), dn, H7, rfl, dp7, ?_⟩
                  have l6 := z6.loose (T := [dn]) (fun x hx => by simp at hx; simp [hx])
                  have ls7 := ls6.but l6 z6.s b7
                  have ns7 := ns6.but l6 b7
                  -- the free one
                  have gv := z7.give (num dv)
                  have hfr : a1.free.reverse.length ≤ 65535 := by
                    rw [List.length_reverse]
                    exact nodup_bound 65535 _ (own1.al hf1).nd fun x hx => by have := (own1.al hf1).low x hx; omega
                  refine ⟨_, rfl, dw, _, rfl, z7.w.free, .inl ⟨rfl, _, SqL.of z7.f⟩, _, rfl, _, rfl, _, _, rfl, rfl, m0, _, _, _, rfl, rfl, SqL.of ns7.2, atI_nat (j := l + 1) (nv_map_get ed), fl, _, _, rfl, rfl, z7.f, sz_lt (by rw [nv_len]; exact Nat.lt_of_le_of_lt hfr (by decide)), ?_⟩
                  have l7 := z7.loose (T := [fl]) (fun x hx => by simp at hx; simp [hx])
                  obtain ⟨b8, z8⟩ := gv
                  have ls8 := ls7.but l7 z7.s b8
                  have ns8 := ns7.but l7 b8
                  have z8 : Wd S (upd H7 fl (.lst (nv a1.free.reverse ++ [V.int ((num dv : Nat) : Int)]))) dw dn fl (setN N2 (num cl) (ndT h (joinT h cl wv dv))) (a1.give (num dv)) := z8
                  generalize upd H7 fl (.lst (nv a1.free.reverse ++ [V.int ((num dv : Nat) : Int)])) = H8 at *
                  obtain ⟨_, xs8, hl8, hes8⟩ := id ls8
                  have hm8 := ns8.2
                  have hx8 := hes8.length
                  -- the node itself
                  refine ⟨_, rfl, _, rfl, _, rfl, l0, _, rfl, SqL.of hl8, fun p1 hp1 => ?_⟩
                  have s1 := L2.Same.new1 (o := .lst (cutV xs8 none (some ((l : Nat) : Int)))) hp1
                  refine ⟨_, rfl, _, rfl, _, _, rfl, rfl, _, rfl, l0, _, rfl, SqL.of (s1 _ _ hl8), fun p2 hp2 => ?_⟩
                  have s2 := s1.new (o := .lst (cutV xs8 (some (((l : Nat) : Int) + 1)) none)) hp2
                  have eX : cutV xs8 none (some ((l : Nat) : Int)) ++ cutV xs8 (some (((l : Nat) : Int) + 1)) none = xs8.take l ++ xs8.drop (l + 1) := by
                    rw [show ((l : Nat) : Int) + 1 = ((l + 1 : Nat) : Int) by omega, cut_to, cut_from]
                  refine ⟨p1, p2, _, _, rfl, rfl, (L2.Same.new1 hp2) _ _ upd_same, upd_same, ?_, fun p3 hp3 => ?_⟩
                  · rw [← List.length_append, eX, List.length_append, List.length_take, List.length_drop]
                    exact sz_of (by omega)
                  rw [eX]
                  have s3 := s2.new (o := .lst (xs8.take l ++ xs8.drop (l + 1))) hp3
                  refine ⟨_, rfl, _, rfl, _, _, rfl, rfl, _, rfl, m0, _, rfl, SqL.of (s3 _ _ hm8), fun p4 hp4 => ?_⟩
                  have s4 := s3.new (o := .lst (cutV (nv (cs2.map num)) none (some (((l : Nat) : Int) + 1)))) hp4
                  refine ⟨_, rfl, _, rfl, _, _, rfl, rfl, _, rfl, m0, _, rfl, SqL.of (s4 _ _ hm8), fun p5 hp5 => ?_⟩
                  have s5 := s4.new (o := .lst (cutV (nv (cs2.map num)) (some (((l : Nat) : Int) + 2)) none)) hp5
                  have eN : cutV (nv (cs2.map num)) none (some (((l : Nat) : Int) + 1)) ++ cutV (nv (cs2.map num)) (some (((l : Nat) : Int) + 2)) none = nv ((cs2.take l ++ joinT h cl wv dv :: cs2.drop (l + 2)).map num) := by
                    have q := nv_cut2 (cs2.map num) l (x := num cl) (by rw [List.getElem?_map, ec]; rfl) (num (joinT h cl wv dv)) (num_joinT h cl wv dv).symm
                    rw [List.append_nil] at q
                    rw [q, List.map_append, List.map_cons, List.map_take, List.map_drop]
                  refine ⟨p4, p5, _, _, rfl, rfl, (L2.Same.new1 hp5) _ _ upd_same, upd_same, ?_, fun p6 hp6 => ?_⟩
                  · rw [← List.length_append, eN, nv_len, List.length_map, List.length_append, List.length_cons, List.length_take, List.length_drop]
                    exact sz_of (by omega)
                  rw [eN]
                  have s6 := s5.new (o := .lst (nv ((cs2.take l ++ joinT h cl wv dv :: cs2.drop (l + 2)).map num))) hp6
                  refine ⟨by show 2 ≤ sizeLine; decide, fun t9' ht9 => ?_⟩
                  have s7 := s6.new (o := .tup [V.ref p3, V.ref p6]) ht9
                  have q7 := L2.Same.new1 (o := .tup [V.ref p3, V.ref p6]) ht9
                  have q6 := (L2.Same.new1 (o := .lst (nv ((cs2.take l ++ joinT h cl wv dv :: cs2.drop (l + 2)).map num))) hp6).trans q7
                  have q5 := (L2.Same.new1 (o := .lst (cutV (nv (cs2.map num)) (some (((l : Nat) : Int) + 2)) none)) hp5).trans q6
                  have q4 := (L2.Same.new1 (o := .lst (cutV (nv (cs2.map num)) none (some (((l : Nat) : Int) + 1)))) hp4).trans q5
                  have v3 := q4 _ _ upd_same
                  have v6 := q7 _ _ upd_same
                  have f3' := z8.s.fresh (s2.free hp3)
                  have f6 := z8.s.fresh (s5.free hp6)
                  have vT : ∀ o, upd (upd (upd (upd (upd (upd (upd H8 p1 (.lst (cutV xs8 none (some ((l : Nat) : Int))))) p2 (.lst (cutV xs8 (some (((l : Nat) : Int) + 1)) none))) p3 (.lst (xs8.take l ++ xs8.drop (l + 1)))) p4 (.lst (cutV (nv (cs2.map num)) none (some (((l : Nat) : Int) + 1))))) p5 (.lst (cutV (nv (cs2.map num)) (some (((l : Nat) : Int) + 2)) none))) p6 (.lst (nv ((cs2.take l ++ joinT h cl wv dv :: cs2.drop (l + 2)).map num)))) t9' o t9' = some o := fun _ => upd_same
                  have vT := vT (.tup [V.ref p3, V.ref p6])
                  generalize upd (upd (upd (upd (upd (upd (upd H8 p1 (.lst (cutV xs8 none (some ((l : Nat) : Int))))) p2 (.lst (cutV xs8 (some (((l : Nat) : Int) + 1)) none))) p3 (.lst (xs8.take l ++ xs8.drop (l + 1)))) p4 (.lst (cutV (nv (cs2.map num)) none (some (((l : Nat) : Int) + 1))))) p5 (.lst (cutV (nv (cs2.map num)) (some (((l : Nat) : Int) + 2)) none))) p6 (.lst (nv ((cs2.take l ++ joinT h cl wv dv :: cs2.drop (l + 2)).map num)))) t9' (.tup [V.ref p3, V.ref p6]) = H9 at *
                  have z9 := z8.same s7
                  have hes9 := hes8.same s7
                  have ls9 : IsLs S H9 p3 (wl.take l ++ wl.drop (l + 1)) := ⟨f3', _, v3, Paired.append (Paired.take _ hes9) (Paired.drop _ hes9)⟩
                  have ns9 : IsNs S H9 p6 ((cs2.take l ++ joinT h cl wv dv :: cs2.drop (l + 2)).map num) := ⟨f6, v6⟩
                  obtain ⟨HA, dpA, bA, zA⟩ := z9.put (n := n) (by omega) (nd_node ls9 ns9 vT)
                  refine ⟨_, rfl, _, rfl, dn, HA, rfl, dpA, ?_⟩
                  have bb : But [dw, dn, fl] H HA := (((b04.trans (.of (e5.trans e6))).trans ((b7.mono fun x hx => by simp at hx; simp [hx]).trans (b8.mono fun x hx => by simp at hx; simp [hx]))).trans (.of s7)).trans (bA.mono fun x hx => by simp at hx; simp [hx])
                  exact k _ _ bb zA (dk.1.trans ts.1) ts.2
                · rw [if_neg nf] at ej
                  exact ⟨_, rfl, rfl, _, rfl, ibF (by simp) ⟨_, _, _, _, rfl, e5.trans e6, ej⟩⟩
              · rintro σ H5 ⟨t7, t8, t9, t10, rfl, e5, ej⟩
                rw [nv_len, List.drop_length] at ej
                rw [ej] at k
                exact k _ N2 (b04.trans (.of e5)) (z4.same e5) dk.1 dk.2
          · rw [if_neg c30] at k
            refine ⟨_, rfl, ifT (by omega) ?_⟩
            exact k H3 N2 b03 z3 dk.1 dk.2
end
end K7
namespace K7
open PySem PySem.Spec PyProof.Rows L2
theorem sub_at {M : Mem} {N : LM} : ∀ (h : Nat) (t : Tr h) (nx : Nat), repP h t nx M → repN h t N → Ok h t → (∀ x ∈ nums h t, x ≤ 65535) → ∀ m ∈ nums h t, ∃ h' : Nat, ∃ t' : Tr h', ∃ nx', num t' = m ∧ repP h' t' nx' M ∧ repN h' t' N ∧ Ok h' t' ∧ ∀ x ∈ nums h' t', x ≤ 65535
  | 0, ⟨n, es⟩, nx, r1, r2, ok, hb, m, hm => ⟨0, ⟨n, es⟩, nx, (List.mem_singleton.mp hm).symm, r1, r2, ok, hb⟩
  | h + 1, ⟨n, ws, cs⟩, nx, r1, r2, ok, hb, m, hm => by
    rcases List.mem_cons.mp hm with q | q
    · exact ⟨h + 1, ⟨n, ws, cs⟩, nx, q.symm, r1, r2, ok, hb⟩
    · obtain ⟨l, hl, hml⟩ := List.mem_flatten.mp q
      obtain ⟨c, hc, rfl⟩ := List.mem_map.mp hl
      obtain ⟨A, B, e⟩ := List.append_of_mem hc
      have r := r1.2
      rw [e, repLs_app] at r
      exact sub_at h c _ r.2.1 (r2.2 c hc) (ok.2.2.2 c hc) (fun x hx => hb x (List.mem_cons_of_mem _ (List.mem_flatten.mpr ⟨nums h c, List.mem_map.mpr ⟨c, hc, rfl⟩, hx⟩))) m hml
def tL (es : List Ent) : PyData := .tuple [lE es]
def tN (ws : List Ent) (cs : List Nat) : PyData := .tuple [lE ws, lN cs]
theorem cl_tL (es : List Ent) : (tL es).canLay0 = true := by
  unfold tL
  rw [PyData.canLay0, PyData.canLayAll0, PyData.canLayAll0, cl_lE]
  rfl
theorem cl_tN (ws : List Ent) (cs : List Nat) : (tN ws cs).canLay0 = true := by
  unfold tN
  rw [PyData.canLay0, PyData.canLayAll0, PyData.canLayAll0, PyData.canLayAll0, cl_lE, cl_lN]
  rfl
theorem depth_lN (ns : List Nat) : (lN ns).depth = 1 := by rw [lN_eq, PyData.depth, depth_ints]
theorem shaped_tL (es : List Ent) : SeqAt.shaped (tL es) = true := shaped_of (cl_tL es) (by
  unfold tL
  rw [PyData.depth, PyData.depthAll, PyData.depthAll]
  have := depth_lE es
  omega)
theorem shaped_tN (ws : List Ent) (cs : List Nat) : SeqAt.shaped (tN ws cs) = true := shaped_of (cl_tN ws cs) (by
  unfold tN
  rw [PyData.depth, PyData.depthAll, PyData.depthAll, PyData.depthAll, depth_lN]
  have := depth_lE ws
  omega)
def tIfT (t u v : TT) : TT := fun σ H Q => t σ H fun c H1 => if c = true then u σ H1 Q else v σ H1 Q
theorem pt_ifT {X : Cx} {c a b : Expr} {pos : Pos} {tc ta tb : TT} (hc : PT X c tc) (ha : PT X a ta) (hb : PT X b tb) : PT X (.IfExp c a b pos) (tIfT tc ta tb) := by
  refine ⟨fun pins s σ H Q I h => ?_⟩
  show wpAny (model X.prog X.w) X.A (do if ← isTrue c X.env (eval c X.env) then isTrue a X.env (eval a X.env) else isTrue b X.env (eval b X.env)) (TP X pins σ Q) X.xe s
  refine wpAny_bind (thn (hc.run pins s σ H _ I h) fun d s1 ⟨H1, I1, q1⟩ => ?_)
  cases d with
  | true => exact ha.run pins s1 σ H1 Q I1 q1
  | false => exact hb.run pins s1 σ H1 Q I1 q1
section
variable {P : Program} {w : World} {K : PySem.W.Frag} {mg : Str → Option Value} {base : Heap} {C : Addr}
def spLSame (C : Addr) (hn : Nat) : Sp := fun vs H Q _ => ∃ h, h < hn ∧ ∃ pm M a S dn N, ∃ t : Tr h, vs = [.ref pm, .int (num t : Int), .ref dn] ∧ IsPM C H pm M ∧ repP h t 0 M ∧ IsDn S H dn N ∧ Lists S H ∧ repN h t N ∧ Ok h t ∧ Own (nums h t) a ∧ a.fresh ≤ 65534 ∧ ∀ H', Same H H' → Q (.bl true) H'
variable {hn : Nat}
abbrev s__law_same : Stmt := top 88
abbrev N__law_same : List Str := ["_law_pages", "_law_root", "_law_nodes", "_law_numbers", "_law_number_here", "_law_page", "_law_node"]
theorem sc__law_same : FnScope N__law_same ["_law_pages", "_law_root", "_law_nodes"] (defScope s__law_same) := ⟨rfl, rfl, rfl, by decide +kernel, rfl, by decide +kernel, by decide +kernel⟩
theorem ok__law_same (F : At K mg "_law_same" s__law_same) (T : Txt K mg C) (D__law_listed : Df P w K mg base "_law_listed" ((1 + hn)) ["_law_nodes", "_law_number_here"] (spLListLt hn)) (D_pages_of : Df P w K mg base "pages_of" ((5 + hn)) ["pages", "root"] (spPagesLt C hn)) (D_kind_of : Df P w K mg base "kind_of" 1 ["page"] spKind) (D_inner_parts : Df P w K mg base "inner_parts" 3 ["page"] spParts) (D_leaf_entries : Df P w K mg base "leaf_entries" 3 ["page"] spLeafE) (M_read : Dm P w K mg base C "read" 4 ["self", "number"] (spRead C)) : Df P w K mg base "_law_same" (hn + 6) ["_law_pages", "_law_root", "_law_nodes"] (spLSame C hn) := by
  refine F.df sc__law_same (fun _ _ _ _ _ _ us hl => match us, hl with | [_, _, _], _ => rfl) (fun vs H Q E h => ?_) (fun f cdv A outer s H vs Q E hr h => ?_)
  · obtain ⟨h, hl, pm, M, a, S, dn, N, t, rfl, _⟩ := h; rfl
  · obtain ⟨h, hl, pm, M, a, S, dn, N, t, rfl, hM, rp, hN, hS, rn, hok, own, hf, k⟩ := h
    refine ⟨_, (pss_cons (ps_set (i := 3) sc__law_same.nd rfl (Or.inl rfl) (pe_cd D__law_listed (hr.mono (by omega)) (pa_cons (pv 2) (pa_cons (pv 1) pa_nil))))
  (pss_cons (ps_if (pt_cmpR (op_neD (hu64 hr)) (pe_cd D_pages_of (hr.mono (by omega)) (pa_cons (pv 0) (pa_cons (pv 1) pa_nil))) (pv 3) (nomark _))
  (pss_one (ps_ret pe_bl))
  pss_nil)
  (pss_cons (ps_for PassesOwn.never rfl (pi_list (pv 3)) (pg_name (i := 4) sc__law_same.nd rfl (Or.inl rfl))
  (pss_cons (ps_par (i := 5) (j := 6) (by rfl) sc__law_same.nd rfl rfl (by decide) rfl rfl (pa_cons (pe_md T.cl M_read (hr.mono (by omega)) (pv 0) (pa_cons (pv 4) pa_nil)) (pa_cons (pe_dget (hu_of hr) (pv 2) (pv 4) (fun _ _ => rfl)) pa_nil)) (by rfl))
  (pss_cons (ps_if (pt_cmpR op_ne (pe_cd D_kind_of (hr.mono (by omega)) (pa_cons (pv 5) pa_nil)) (pe_op op_add pe_int (pe_callB call_len (by rfl) T.len (by decide +kernel) (pa_cons (pv 6) pa_nil))) (nomark _))
  (pss_one (ps_ret pe_bl))
  pss_nil)
  (pss_one (ps_if (pt_ifT (pt_cmpR op_eq (pe_callB call_len (by rfl) T.len (by decide +kernel) (pa_cons (pv 6) pa_nil)) pe_int (nomark _)) (pt_cmpR (op_neD (hu64 hr)) (pe_tup (pa_cons (pe_cd D_leaf_entries (hr.mono (by omega)) (pa_cons (pv 5) pa_nil)) pa_nil)) (pv 6) (nomark _)) (pt_cmpR (op_neD (hu64 hr)) (pe_cd D_inner_parts (hr.mono (by omega)) (pa_cons (pv 5) pa_nil)) (pv 6) (nomark _)))
  (pss_one (ps_ret pe_bl))
  pss_nil)))))
  (pss_one (ps_ret pe_bl))))), ?_⟩
    obtain ⟨dx, d, hpm⟩ := hM.at_
    refine ⟨_, rfl, _, rfl, h, hl, S, dn, N, t, a, rfl, hN, hS, rn, hok, own, hf, fun v H1 e1 z1 => ?_⟩
    obtain ⟨q, rfl, hq⟩ := id z1
    refine ⟨_, rfl, _, rfl, h, hl, pm, M, a, t, 0, rfl, hM.same e1, rp, hok, own, hf, fun p H2 e2 hp1 hp2 => ?_⟩
    have e12 := e1.trans e2
    have hq2 := e2 _ _ hq
    refine ⟨_, rfl, lN (nums h t), lN (nums h t), IsNL.dp ⟨p, rfl, hp2⟩, IsNL.dp ⟨q, rfl, hq2⟩, shaped_lN _, shaped_lN _, _, rfl, ?_⟩
    rw [PySem.SeqAt.eqv_refl _ (cl_lN _)]
    refine ibF (by decide) ?_
    refine ⟨_, rfl, q, rfl, ⟨_, SqL.of hq2⟩, for_list (xs := nv (nums h t)) (fun j σ H' => ∃ t4 t5 t6, σ = [some (.ref pm), some (.int (num t : Int)), some (.ref dn), some (.ref q), t4, t5, t6] ∧ Same H2 H') ⟨_, _, _, rfl, L2.Same.refl _⟩ (fun j σ H' _ ⟨_, _, _, _, z⟩ => SqL.of (z _ _ hq2)) ?_ ?_⟩
    · rintro j x σ H3 hx ⟨t4, t5, t6, rfl, e3⟩
      obtain ⟨m, hm, rfl⟩ := nv_get' hx
      have hb : ∀ x ∈ nums h t, x ≤ 65535 := fun x hx => by have := own.lt hx; omega
      obtain ⟨h', t', nx', rfl, rp', rn', ok', hb'⟩ := sub_at h t 0 rp rn hok hb m (List.mem_of_getElem? hm)
      have e13 := e12.trans e3
      have hN3 := hN.but (T := []) Loose.nil hS (.of e13) (by simp)
      have hS3 := hS.same e13
      refine ⟨_, rfl, pm, _, _, rfl, e13 _ _ hpm, pf_no d (by decide +kernel), _, rfl, pm, M, num t', _, rfl, hM.same e13, hb' _ (num_mem h' t'), repP_pg rp', fun g H4 e4 z4 => ?_⟩
      have hN4 := hN3.but (T := []) Loose.nil hS3 (.of e4) (by simp)
      obtain ⟨v0, g0, nd0⟩ := hN4.get (repN_nd rn')
      refine ⟨_, rfl, _, rfl, dn, v0, rfl, g0, ?_⟩
      refine ⟨_, _, rfl, ?_⟩
      cases h' with
      | zero =>
        obtain ⟨n, es⟩ := t'
        obtain ⟨a0, l0, xs, rfl, ha0, hl0, hes, hlS⟩ := nd0
        obtain ⟨hz, hge⟩ := ok'
        refine ⟨_, rfl, g, _, 3, rfl, z4, leafPg_kind es nx', ?_⟩
        refine ⟨_, rfl, _, 1, rfl, .inr ⟨_, SqT.of ha0, rfl⟩, _, _, rfl, rfl, rfl, _, rfl, ibF (by decide) ?_⟩
        refine ⟨_, rfl, _, 1, rfl, .inr ⟨_, SqT.of ha0, rfl⟩, rfl, _, rfl, ibT rfl ?_⟩
        refine ⟨_, rfl, g, es, nx', rfl, z4, hge, hz, fun l H5 e5 z5 => ?_⟩
        obtain ⟨⟨b, ys, rfl, hb1, hb2⟩, _⟩ := z5
        refine ⟨by show 1 ≤ sizeLine; decide, fun tt htt => ?_⟩
        have e6 := L2.Same.new1 (o := .tup [V.ref b]) htt
        have e56 := e5.trans e6
        have d1 : Dp K (upd H5 tt (.tup [V.ref b])) (.ref tt) (tL es) := .tup (SqT.of upd_same) (.cons (IsEL.dp ⟨b, ys, rfl, e6 _ _ hb1, hb2.same e6⟩) .nil)
        have d2 : Dp K (upd H5 tt (.tup [V.ref b])) (.ref a0) (tL es) := .tup (SqT.of (e56 _ _ ha0)) (.cons (IsEL.dp ⟨l0, xs, rfl, e56 _ _ hl0, hes.same e56⟩) .nil)
        refine ⟨_, rfl, tL es, tL es, d1, d2, shaped_tL es, shaped_tL es, _, rfl, ?_⟩
        rw [PySem.SeqAt.eqv_refl _ (cl_tL es)]
        exact ibF (by decide) ⟨_, _, _, rfl, (e3.trans e4).trans e56⟩
      | succ h' =>
        obtain ⟨n, wl, cs⟩ := t'
        obtain ⟨a0, l0, m0, xs, rfl, ha0, hl0, hes, hlS, hm0, hmS⟩ := nd0
        obtain ⟨hl1, hz, hge, hoks⟩ := id ok'
        refine ⟨_, rfl, g, _, 4, rfl, z4, innerPg_kind _ _, ?_⟩
        refine ⟨_, rfl, _, 2, rfl, .inr ⟨_, SqT.of ha0, rfl⟩, _, _, rfl, rfl, rfl, _, rfl, ibF (by decide) ?_⟩
        refine ⟨_, rfl, _, 2, rfl, .inr ⟨_, SqT.of ha0, rfl⟩, rfl, _, rfl, ibF (by decide) ?_⟩
        have hnl : ∀ d ∈ cs.map num, d ≤ 65535 := fun d hd => by
          obtain ⟨c, hc, rfl⟩ := List.mem_map.mp hd
          exact hb' _ (List.mem_cons_of_mem _ (List.mem_flatten.mpr ⟨nums h' c, List.mem_map.mpr ⟨c, hc, rfl⟩, num_mem h' c⟩))
        refine ⟨_, rfl, sp_parts (E := E0) z4 hge (by rw [List.length_map]; exact hl1) (by rw [List.length_map]; exact hz) hnl fun u5 H5 e5 z5 => ?_⟩
        obtain ⟨tt, x5, y5, rfl, htt, hx5, hy5⟩ := z5
        have d1 : Dp K H5 (.ref tt) (tN wl (cs.map num)) := .tup (SqT.of htt) (.cons hx5.dp (.cons hy5.dp .nil))
        have d2 : Dp K H5 (.ref a0) (tN wl (cs.map num)) := .tup (SqT.of (e5 _ _ ha0)) (.cons (IsEL.dp ⟨l0, xs, rfl, e5 _ _ hl0, hes.same e5⟩) (.cons (IsNL.dp ⟨m0, rfl, e5 _ _ hm0⟩) .nil))
        refine ⟨_, rfl, _, _, d1, d2, shaped_tN _ _, shaped_tN _ _, _, rfl, ?_⟩
        rw [PySem.SeqAt.eqv_refl _ (cl_tN _ _)]
        exact ibF (by decide) ⟨_, _, _, rfl, (e3.trans e4).trans e5⟩
    · rintro σ H3 ⟨t4, t5, t6, rfl, e3⟩
      exact k _ (e12.trans e3)
end
end K7
namespace K7
open PySem PySem.Spec PyProof.Rows L2
/-! ### what stays of the pages when other things change -/
/-- no dict of pages that hold M -/
def NoPages (H : Hp) (M : Mem) (x : Addr) : Prop := (∃ xs, H x = some (.lst xs)) ∨ ∃ kvs, H x = some (.dK kvs) ∧ ¬ (NumKeys kvs ∧ ∀ n pg, M n = some pg → ∃ v, valV kvs (.inl ((n : Nat) : Int)) = some v ∧ IsI H v pg ∧ Pg pg)
theorem IsPM.butG {C : Addr} {H H' : Hp} {pm : Addr} {M : Mem} {T : List Addr} (z : IsPM C H pm M) (b : But T H H') (h : ∀ x ∈ T, NoPages H M x) : IsPM C H' pm M := by
  obtain ⟨dx, d, kvs, h1, h2, h3, h4⟩ := z
  have tp : Tups H H' := fun a xs e => b a _ (fun m => by
    rcases h a m with ⟨ys, q⟩ | ⟨ks, q, _⟩
    · rw [e] at q; cases q
    · rw [e] at q; cases q) e
  refine ⟨dx, d, kvs, b _ _ (fun m => ?_) h1, b _ _ (fun m => ?_) h2, h3, fun n pg hn => ?_⟩
  · rcases h _ m with ⟨ys, q⟩ | ⟨ks, q, _⟩
    · rw [h1] at q; cases q
    · rw [h1] at q; cases q
  · rcases h _ m with ⟨ys, q⟩ | ⟨ks, q, r⟩
    · rw [h2] at q; cases q
    · rw [h2] at q
      cases q
      exact r ⟨h3, h4⟩
  · obtain ⟨v, a1, a2, a3⟩ := h4 n pg hn
    exact ⟨v, a1, a2.tups tp, a3⟩
theorem noPages_dw {H : Hp} {M : Mem} {dw dn fl : Addr} {a : Al} (z : IsDw H dw dn fl a) : NoPages H M dw := by
  obtain ⟨kvs, h1, _, h2, _, _⟩ := z
  refine .inr ⟨kvs, h1, fun q => ?_⟩
  obtain ⟨p, hp, e⟩ := List.mem_map.mp (valV_in h2)
  obtain ⟨n, _, q2⟩ := q.1.2 p hp
  rw [q2] at e
  cases e
theorem noPages_dn {S : List Addr} {H : Hp} {M : Mem} {dn : Addr} {N : LM} {n : Nat} {nd : Nd} {pg : List Int} (z : IsDn S H dn N) (hn : N n = some nd) (hm : M n = some pg) : NoPages H M dn := by
  obtain ⟨kvs, h1, h2, h3⟩ := z
  refine .inr ⟨kvs, h1, fun q => ?_⟩
  obtain ⟨v, a1, a2⟩ := h3 n nd hn
  obtain ⟨u, b1, ⟨b, rfl, hb⟩, b3⟩ := q.2 n pg hm
  rw [a1] at b1
  cases b1
  have hl := b3.len
  obtain ⟨es, o⟩ := nd
  cases o with
  | none =>
    obtain ⟨a, l, xs, e, g1, _⟩ := a2
    cases e
    rw [hb] at g1
    have := congrArg (fun o => match o with | some (HO.tup xs) => xs.length | _ => 0) g1
    simp [iv_len, hl] at this
  | some cs =>
    obtain ⟨a, l, m, xs, e, g1, _⟩ := a2
    cases e
    rw [hb] at g1
    have := congrArg (fun o => match o with | some (HO.tup xs) => xs.length | _ => 0) g1
    simp [iv_len, hl] at this
theorem IsPM.butW {C : Addr} {S : List Addr} {H H' : Hp} {pm dw dn fl : Addr} {M : Mem} {N : LM} {a : Al} {n : Nat} {nd : Nd} {pg : List Int} (z : IsPM C H pm M) (w : Wd S H dw dn fl N a) (hn : N n = some nd) (hm : M n = some pg) {T : List Addr} (hT : ∀ x ∈ T, x = dw ∨ x = dn ∨ x ∈ S) (b : But T H H') : IsPM C H' pm M := by
  refine z.butG b fun x hx => ?_
  rcases hT x hx with rfl | rfl | q
  · exact noPages_dw w.w
  · exact noPages_dn w.n hn hm
  · exact .inl (w.s x q)
theorem SqL.keep {K : PySem.W.Frag} {H H' : Hp} {a : Addr} {xs : List V} (h : SqL K H a xs) (e : ∀ o, H a = some o → H' a = some o) : SqL K H' a xs :=
  h.elim (fun h => .inl (h.elim (fun h => .inl (e _ h)) fun ⟨o, h⟩ => .inr ⟨o, e _ h⟩)) fun h => .inr h
/-- a page store is no list and no dict -/
theorem Wd.butP {C : Addr} {S : List Addr} {H H' : Hp} {pm dw dn fl : Addr} {M : Mem} {N : LM} {a : Al} (w : Wd S H dw dn fl N a) (z : IsPM C H pm M) (b : But [pm] H H') : Wd S H' dw dn fl N a := by
  obtain ⟨dx, d, h1⟩ := z.at_
  have l : Loose [pm] S H := fun x hx => by
    rw [List.mem_singleton.mp hx]
    exact .inr ⟨_, h1, trivial⟩
  have nS : ∀ x, x ∈ S → x ∉ [pm] := fun x hx m => by
    obtain ⟨xs, q⟩ := w.s x hx
    rw [List.mem_singleton.mp m, h1] at q
    cases q
  obtain ⟨ks, k1, _⟩ := id w.w
  obtain ⟨ls, l1, _⟩ := id w.n
  refine w.but l b (fun m => ?_) (fun m => ?_) (nS _ w.i) (fun x hx => ?_)
  · rw [List.mem_singleton.mp m, h1] at k1
    cases k1
  · rw [List.mem_singleton.mp m, h1] at l1
    cases l1
  · obtain ⟨xs, q⟩ := w.s x hx
    exact ⟨xs, b _ _ (nS x hx) q⟩
/-! ### the things of the law besides the tree -/
structure Side (K : PySem.W.Frag) (H : Hp) (sc dr du fl : Addr) (Z : List Addr) (ns : List Int) (due : List Ent) (i : Nat) : Prop where
  hdr : H dr = some (.lst [.ref sc, .int (i : Int)])
  hdu : ∃ vs, H du = some (.lst vs) ∧ IsEs H vs due
  hne : dr ≠ du ∧ dr ≠ fl ∧ du ≠ fl
  hsc : ∀ H', But Z H H' → SqL K H' sc (iv ns)
  hnl : ns.length ≤ 1000
theorem Side.but {K : PySem.W.Frag} {H H' : Hp} {sc dr du fl : Addr} {Z T : List Addr} {ns : List Int} {due : List Ent} {i : Nat} (z : Side K H sc dr du fl Z ns due i) (b : But T H H') (hT : ∀ x ∈ T, x ∈ Z) (h1 : dr ∉ T) (h2 : du ∉ T) (tp : Tups H H') : Side K H' sc dr du fl Z ns due i := by
  obtain ⟨vs, d1, d2⟩ := z.hdu
  exact ⟨b _ _ h1 z.hdr, ⟨vs, b _ _ h2 d1, d2.tups tp⟩, z.hne, fun H2 b2 => z.hsc H2 ((b.mono hT).trans b2), z.hnl⟩
theorem Side.same {K : PySem.W.Frag} {H H' : Hp} {sc dr du fl : Addr} {Z : List Addr} {ns : List Int} {due : List Ent} {i : Nat} (z : Side K H sc dr du fl Z ns due i) (e : Same H H') : Side K H' sc dr du fl Z ns due i :=
  z.but (T := []) (.of e) (by simp) (by simp) (by simp) (.of e)
/-- the tree's own -/
structure TreeI (T : AT) (al : Al) (due : List Ent) (b : Nat) : Prop where
  ok : Ok T.h T.t
  so : So (flat T.h T.t)
  wh : Whole (nums T.h T.t) al
  nm : num T.t = 1
  f1 : 1 ≤ al.fresh
  f2 : al.fresh ≤ 2 + 62 * b
  ht : T.h ≤ b
  de : ∀ e ∈ due, e ∈ ents T.h T.t
  dd : due.Nodup
  dl : due.length ≤ b
theorem TreeI.own {T : AT} {al : Al} {due : List Ent} {b : Nat} (z : TreeI T al due b) : Own (nums T.h T.t) al := own_of_whole z.f1 z.wh
theorem TreeI.drop {T : AT} {al : Al} {due due' : List Ent} {b : Nat} {e : Ent} (z : TreeI T al due b) (h1 : ∀ x ∈ due', x ∈ due ∧ x ≠ e) (h2 : due'.Nodup) (h3 : due'.length ≤ due.length) : TreeI (dropR T e al).1 (dropR T e al).2 due' (b + 1) := by
  have w := dropR_whole (e := e) z.ok z.wh
  have f1 := z.f1
  have f2 := z.f2
  have ht := z.ht
  have dl := z.dl
  exact ⟨dropR_ok z.ok, dropR_flat z.ok z.so, w.1, by rw [dropR_num]; exact z.nm, by rw [w.2.1]; exact f1, by rw [w.2.1]; omega, by have := w.2.2; omega, fun x hx => dropR_ents z.ok x (z.de x (h1 x hx).1) (h1 x hx).2, h2, by omega⟩
theorem TreeI.put {T : AT} {al : Al} {due : List Ent} {b : Nat} {e : Ent} (z : TreeI T al due b) (ge : GE e) (hb : b ≤ 60) (hf : e ∉ found T.t e.1) : TreeI (putR T e al).1 (putR T e al).2 (due ++ [e]) (b + 1) := by
  have w := putR_whole (e := e) z.ok z.f1 z.wh
  have f1 := z.f1
  have f2 := z.f2
  have ht := z.ht
  have dl := z.dl
  have ne : e ∉ due := fun m => hf (found_mem z.ok z.so (z.de e m))
  refine ⟨putR_ok z.ok ge, putR_flat z.ok ge z.so, w.1, by rw [putR_num]; exact z.nm, by omega, by omega, by omega, fun x hx => ?_, ?_, by rw [List.length_append]; simp; omega⟩
  · refine putR_ents z.ok x ?_
    rcases List.mem_append.mp hx with q | q
    · exact .inr (z.de x q)
    · exact .inl (List.mem_singleton.mp q)
  · exact nd_snoc z.dd ne
theorem TreeI.next {T : AT} {al : Al} {due : List Ent} {b : Nat} (z : TreeI T al due b) : TreeI T al due (b + 1) := by
  have f2 := z.f2
  have ht := z.ht
  have dl := z.dl
  exact ⟨z.ok, z.so, z.wh, z.nm, z.f1, by omega, by omega, z.de, z.dd, by omega⟩
theorem TreeI.one : TreeI ⟨0, leaf 1 []⟩ ⟨[], 2⟩ [] 0 := by
  refine ⟨⟨by decide, (fun e h => by cases h)⟩, List.Pairwise.nil, (fun x => ?_), rfl, by decide, by decide, by decide, (fun e h => by cases h), List.nodup_nil, by decide⟩
  show List.count x [1] + List.count x [] = List.count x (List.range' 1 (2 - 1))
  rfl
/-- the entries that are drawn -/
def drawn (a k r : Nat) : Ent := ((a : Int) :: List.replicate k 5, 1, (r : Int))
theorem drawn_GE {a k r : Nat} (ha : a < 40) (hk : k ≤ 19) (hr : r < 2) : GE (drawn a k r) := by
  refine ⟨?_, ?_, fun x hx => ?_, by show (1 : Int) ≤ 1; decide, by show (1 : Int) ≤ 65535; decide, ?_⟩
  · show 1 ≤ (List.replicate k (5 : Int)).length + 1
    omega
  · show (List.replicate k (5 : Int)).length + 1 ≤ 20
    rw [List.length_replicate]
    omega
  · rcases List.mem_cons.mp hx with q | q
    · rw [q]
      unfold byteB
      omega
    · rw [List.eq_of_mem_replicate q]
      unfold byteB
      omega
  · show byteB (r : Int)
    unfold byteB
    omega
theorem viaT {T : (Bool → Hp → Prop) → Prop} {Q : Bool → Hp → Prop} (R : Bool → Hp → Prop) (h : ∀ Q0 : Bool → Hp → Prop, (∀ v H', R v H' → Q0 v H') → T Q0) (k : ∀ v H', R v H' → Q v H') : T Q := h Q k
theorem viaS {T : (L2.St → Hp → Prop) → Prop} {Q : L2.St → Hp → Prop} (R : L2.St → Hp → Prop) (h : ∀ Q0 : L2.St → Hp → Prop, (∀ v H', R v H' → Q0 v H') → T Q0) (k : ∀ v H', R v H' → Q v H') : T Q := h Q k
end K7
namespace K7
open PySem PySem.Spec PyProof.Rows L2
/-- all things of the law, turn by turn -/
structure LawI (K : PySem.W.Frag) (C : Addr) (sc pm dw dn fl dr du : Addr) (ns : List Int) (H : Hp) (T : AT) (al : Al) (due : List Ent) (b : Nat) : Prop where
  pg : ∃ M, IsPM C H pm M ∧ AL M al ∧ repP T.h T.t 0 M
  wd : ∃ N, Wd [fl, dr, du] H dw dn fl N al ∧ repN T.h T.t N
  tr : TreeI T al due b
  sd : ∃ i, Side K H sc dr du fl [pm, dw, dn, fl, dr, du] ns due i
theorem shrink_stepN {h n : Nat} {ws : List Ent} {c : Tr h} {N : LM} {a : Al} (o : Own (nums (h + 1) (node n ws [c])) a) (hr : repN (h + 1) (node n ws [c]) N) :
    StepN N (setN N n (ndT h c)) a (a.give (num c)) (nums (h + 1) (node n ws [c])) (nums h (renum c n)) ∧ repN h (renum c n) (setN N n (ndT h c)) := by
  obtain ⟨rc, ec⟩ := nums_head h c
  have hrc : repN h c N := hr.2 c List.mem_cons_self
  have en : ∀ x, List.count x (nums (h + 1) (node n ws [c])) = List.count x [num c, n] + List.count x rc := fun x => by
    show List.count x (n :: (nums h c ++ [])) = _
    rw [List.append_nil, cnt_cons, ec, cnt_cons x (num c) rc, cnt_cons x (num c) [n]]
    omega
  have s1 : StepN N (setN N n (ndT h c)) a a [num c, n] [num c, n] := StepN.set (List.mem_cons_of_mem _ List.mem_cons_self) _
  have s2 : StepN (setN N n (ndT h c)) (setN N n (ndT h c)) a (a.give (num c)) [num c, n] [n] := StepN.give
  have s := s1.trans s2
  refine ⟨s.frame rc en (fun x => ?_), ?_⟩
  · have z := renum_cnt c n x
    have y : List.count x (nums h c) = List.count x [num c] + List.count x rc := by rw [ec, cnt_cons]
    omega
  · refine repN_renum h c n N _ ?_ (fun m hm => s.keep o en (by rw [ec] at hm; exact hm)) hrc
    rw [setN_same, repN_nd hrc]
theorem root_splitN {h : Nat} {t r : Tr h} {N : LM} {a : Al} (w : Ent) (o : Own (nums h t ++ nums h r) a) (r1 : repN h t N) (r2 : repN h r N) :
    StepN N (setN (setN N a.take.1 (ndT h t)) (num t) ([w], some [a.take.1, num r])) a a.take.2 (nums h t ++ nums h r) (nums (h + 1) (node (num t) [w] [renum t a.take.1, r])) ∧
      repN (h + 1) (node (num t) [w] [renum t a.take.1, r]) (setN (setN N a.take.1 (ndT h t)) (num t) ([w], some [a.take.1, num r])) := by
  have nt := o.take
  have hin : num t ∈ nums h t ++ nums h r := List.mem_append_left _ (num_mem h t)
  have ne : a.take.1 ≠ num t := fun e => nt.1 (by rw [e]; exact hin)
  have tk : StepN N N a a.take.2 (nums h t ++ nums h r) (a.take.1 :: (nums h t ++ nums h r)) := StepN.take
  have s1 := StepN.set (M := N) (a := a.take.2) (List.mem_cons_self : a.take.1 ∈ a.take.1 :: (nums h t ++ nums h r)) (ndT h t)
  have s2 := StepN.set (M := setN N a.take.1 (ndT h t)) (a := a.take.2) (List.mem_cons_of_mem _ hin : num t ∈ a.take.1 :: (nums h t ++ nums h r)) ([w], some [a.take.1, num r])
  obtain ⟨rt, et⟩ := nums_head h t
  have old : ∀ m ∈ rt ++ nums h r, setN (setN N a.take.1 (ndT h t)) (num t) ([w], some [a.take.1, num r]) m = N m := fun m hm => by
    have hm' : m ∈ nums h t ++ nums h r := by
      rw [et]
      rcases List.mem_append.mp hm with q | q
      · exact List.mem_append_left _ (List.mem_cons_of_mem _ q)
      · exact List.mem_append_right _ q
    have n1 : m ≠ num t := fun e => by
      have z := o.one (num t)
      have y := cnt_pos.mp hm
      rw [et, List.cons_append, List.count_cons_self] at z
      rw [e] at y
      omega
    have n2 : m ≠ a.take.1 := fun e => nt.1 (by rw [← e]; exact hm')
    rw [setN_ne n1, setN_ne n2]
  refine ⟨((tk.trans s1).trans s2).cnt (fun _ => rfl) (fun x => ?_), ?_, fun c hc => ?_⟩
  · have z := renum_cnt t a.take.1 x
    show List.count x (num t :: (nums h (renum t a.take.1) ++ (nums h r ++ []))) = _
    rw [List.append_nil, cnt_cons, List.count_append, cnt_cons x a.take.1 (nums h t ++ nums h r), List.count_append]
    omega
  · show setN _ _ _ _ = some ([w], some [num (renum t a.take.1), num r])
    rw [num_renum]
    exact setN_same
  · rcases List.mem_cons.mp hc with q | q
    · rw [q]
      refine repN_renum h t _ N _ ?_ (fun m hm => old m (List.mem_append_left _ (by rw [et] at hm; exact hm))) r1
      rw [setN_ne ne, setN_same, repN_nd r1]
    · rw [List.mem_singleton.mp q]
      exact repN_frame h r N _ (fun m hm => old m (List.mem_append_right _ hm)) r2
theorem putR_none {T : AT} {e : Ent} {a : Al} (q : (put T.h T.t e a).1.2 = none) : putR T e a = (⟨T.h, (put T.h T.t e a).1.1⟩, (put T.h T.t e a).2) := by
  unfold putR
  rw [q]
theorem putR_some {T : AT} {e : Ent} {a : Al} {w : Ent} {r : Tr T.h} (q : (put T.h T.t e a).1.2 = some (w, r)) :
    putR T e a = (⟨T.h + 1, node (num T.t) [w] [renum (put T.h T.t e a).1.1 (put T.h T.t e a).2.take.1, r]⟩, (put T.h T.t e a).2.take.2) := by
  unfold putR
  rw [q]
theorem key_iv (a k : Nat) : [V.int (a : Int)] ++ (List.replicate k [V.int 5]).flatten = iv ((a : Int) :: List.replicate k 5) := by
  have e : (List.replicate k [V.int 5]).flatten = List.replicate k (V.int 5) := by
    induction k with
    | zero => rfl
    | succ k ih => rw [List.replicate_succ, List.flatten_cons, ih, List.replicate_succ]; rfl
  rw [e]
  unfold iv
  rw [List.map_cons, List.map_replicate]
  rfl
section
variable {K : PySem.W.Frag} {C sc pm dw dn fl dr du : Addr} {ns : List Int} {H H' : Hp} {T : AT} {al : Al} {due : List Ent} {b : Nat}
theorem LawI.same (z : LawI K C sc pm dw dn fl dr du ns H T al due b) (e : Same H H') : LawI K C sc pm dw dn fl dr du ns H' T al due b := by
  obtain ⟨M, p1, p2, p3⟩ := z.pg
  obtain ⟨N, w1, w2⟩ := z.wd
  obtain ⟨i, s1⟩ := z.sd
  exact ⟨⟨M, p1.same e, p2, p3⟩, ⟨N, w1.same e, w2⟩, z.tr, i, s1.same e⟩
/-- one of the two lists of the law is written -/
theorem LawI.lst (z : LawI K C sc pm dw dn fl dr du ns H T al due b) {x : Addr} {xs : List V} {due' : List Ent} (hx : x = dr ∨ x = du) (bt : But [x] H H') (hxs : H' x = some (.lst xs)) (i : Nat) (hr : H' dr = some (.lst [.ref sc, .int (i : Int)])) (hu : ∃ vs, H' du = some (.lst vs) ∧ IsEs H' vs due') (tr : TreeI T al due' b) :
    LawI K C sc pm dw dn fl dr du ns H' T al due' b := by
  obtain ⟨M, p1, p2, p3⟩ := z.pg
  obtain ⟨N, w1, w2⟩ := z.wd
  obtain ⟨i0, s1⟩ := z.sd
  have hS : x ∈ [fl, dr, du] := by rcases hx with rfl | rfl <;> simp
  obtain ⟨ys, hy⟩ := w1.s x hS
  have nS := w1.notS
  have ne := s1.hne
  have nf : fl ∉ [x] := fun m => by
    have m := List.mem_singleton.mp m
    rcases hx with rfl | rfl
    · exact ne.2.1 m.symm
    · exact ne.2.2 m.symm
  refine ⟨⟨M, p1.butG bt (fun y hy' => ?_), p2, p3⟩, ⟨N, w1.but (T := [x]) (fun y hy' => ?_) bt (fun m => ?_) (fun m => ?_) nf (fun y hy' => ?_), w2⟩, tr, i, ⟨hr, hu, ne, fun H2 b2 => s1.hsc H2 ((bt.mono fun y hy' => ?_).trans b2), s1.hnl⟩⟩
  · rw [List.mem_singleton.mp hy']
    exact .inl ⟨_, hy⟩
  · rw [List.mem_singleton.mp hy']
    exact .inl hS
  · rw [← List.mem_singleton.mp m] at hS
    exact nS.1 hS
  · rw [← List.mem_singleton.mp m] at hS
    exact nS.2 hS
  · by_cases c : y = x
    · rw [c]; exact ⟨_, hxs⟩
    · obtain ⟨zs, q⟩ := w1.s y hy'
      exact ⟨zs, bt _ _ (by simpa using c) q⟩
  · rw [List.mem_singleton.mp hy']
    rcases hx with rfl | rfl <;> simp
/-- what the law's draw leaves -/
theorem LawI.draw (z : LawI K C sc pm dw dn fl dr du ns H T al due b) {j : Nat} (bt : But [dr] H H') (hd : H' dr = some (.lst [.ref sc, .int (j : Int)])) : LawI K C sc pm dw dn fl dr du ns H' T al due b := by
  obtain ⟨N, w1, w2⟩ := z.wd
  obtain ⟨i0, s1⟩ := z.sd
  obtain ⟨vs, u1, u2⟩ := s1.hdu
  have l : Loose [dr] [fl, dr, du] H := fun y hy => by
    rw [List.mem_singleton.mp hy]
    exact .inl (by simp)
  exact z.lst (.inl rfl) bt hd j hd ⟨vs, bt _ _ (by simpa using Ne.symm s1.hne.1) u1, u2.tups (l.tups w1.s bt)⟩ z.tr
theorem LawI.tupsDr (z : LawI K C sc pm dw dn fl dr du ns H T al due b) (bt : But [dr] H H') : Tups H H' := by
  obtain ⟨N, w1, w2⟩ := z.wd
  refine Loose.tups (T := [dr]) (fun y hy => ?_) w1.s bt
  rw [List.mem_singleton.mp hy]
  exact .inl (by simp)
theorem LawI.tupsDu (z : LawI K C sc pm dw dn fl dr du ns H T al due b) (bt : But [du] H H') : Tups H H' := by
  obtain ⟨N, w1, w2⟩ := z.wd
  refine Loose.tups (T := [du]) (fun y hy => ?_) w1.s bt
  rw [List.mem_singleton.mp hy]
  exact .inl (by simp)
end
end K7
namespace K7
open PySem PySem.Spec PyProof.Rows L2
section
variable {P : Program} {w : World} {K : PySem.W.Frag} {mg : Str → Option Value} {base : Heap} {C : Addr} {hn : Nat}
def spLaw (K : PySem.W.Frag) : Sp := fun vs H Q _ => ∃ a ns, vs = [.ref a] ∧ ns.length ≤ 63 ∧ SqL K H a (iv ns) ∧ ∀ H', Q (.bl true) H'
abbrev s_law : Stmt := top 89
abbrev N_law : List Str := ["_law_script", "_law_draw", "_law_pages", "_law_root", "_law_world", "_law_due", "_law_wide", "_law_turn", "_law_entry", "_law_child", "_law_many", "_law_key", "_law_found_now", "_law_left"]
theorem sc_law : FnScope N_law ["_law_script"] (defScope s_law) := ⟨rfl, rfl, rfl, by decide +kernel, rfl, by decide +kernel, by decide +kernel⟩
theorem fn_df {x : Str} {st : Stmt} {N ps : List Str} {k : Nat} {sp : Sp} {f : Addr} {fd : FuncData} (F : FnP K x x st f fd) (S : FnScope N ps (defScope st))
    (len : ∀ vs H Q E, sp vs H Q E → vs.length = ps.length)
    (hbody : ∀ (f : Addr) (cdv : Value) (A : Around) (outer : List Env) (s : Shared) (H : Hp) (vs : List V) (Q : VK) (E : XK), Room k (A.deeper (envOfC x (defScope st) s.heap.objs.size f cdv)) → sp vs H Q E →
      ∃ t, PSs (cxOf CX0 P w K mg base N x (defScope st) f cdv A outer s H E).nox (defBody st) t ∧ t { nx := fun _ H' => Q .non H', rt := Q } (start N vs) H) : FnOk P w K mg base CX0 (k + 1) f fd ps sp :=
  F.ok S len fun cdv A outer s H vs Q E hr hs => by
    obtain ⟨t, h, q⟩ := hbody f cdv A outer s H vs Q E hr hs
    exact ⟨t, h.nox, q⟩
theorem ok_law (h60 : hn = 60) {f0 : Addr} {fd0 : FuncData} (F : FnP K "law" "law" s_law f0 fd0) (T : Txt K mg C) (D_new_tree : Df P w K mg base "new_tree" 8 ["pages"] (spNewTree C)) (D__law_take : Df P w K mg base "_law_take" 2 ["_law_draw", "_law_many"] (spLTake K)) (D__law_pick : Df P w K mg base "_law_pick" 3 ["_law_draw", "_law_things"] (spLPick K)) (D_drop_key : Df P w K mg base "drop_key" ((hn + 13)) ["pages", "root", "key", "spot"] (spDropKey C hn)) (D__law_drop : Df P w K mg base "_law_drop" ((4 + hn)) ["_law_world", "_law_number_here", "_law_entry"] (spLDropLt hn)) (D_put_key : Df P w K mg base "put_key" ((hn + 10)) ["pages", "root", "key", "spot"] (spPutKey C hn)) (D__law_same : Df P w K mg base "_law_same" ((hn + 6)) ["_law_pages", "_law_root", "_law_nodes"] (spLSame C hn)) (D__law_put : Df P w K mg base "_law_put" ((2 + hn)) ["_law_world", "_law_number_here", "_law_entry"] (spLPutLt hn)) (D__law_taken : Df P w K mg base "_law_taken" 1 ["_law_world"] spLTaken) {fI : Addr} {fdI : FuncData} (MK : Mk K C fI) (G_init : FnOk P w K mg base CX0 7 fI fdI ["self"] (spInit C)) (b_init : Binds K fdI ["self"] []) :
    FnOk P w K mg base CX0 (hn + 14) f0 fd0 ["_law_script"] (spLaw K) := by
  refine fn_df F sc_law (fun vs H Q E h => ?_) (fun f cdv A outer s H vs Q E hr h => ?_)
  · obtain ⟨a, ns, rfl, _⟩ := h; rfl
  · obtain ⟨sc, ns, rfl, hnl, hsc, k⟩ := h
    refine ⟨_, (pss_cons (ps_set (i := 1) sc_law.nd rfl (Or.inl rfl) (pe_lst (pa_cons (pv 0) (pa_cons pe_int pa_nil))))
  (pss_cons (ps_set (i := 2) sc_law.nd rfl (Or.inl rfl) (pe_make0 MK G_init (hr.mono (by omega)) rfl T.mgC b_init .nil pass0))
  (pss_cons (ps_set (i := 3) sc_law.nd rfl (Or.inl rfl) (pe_cd D_new_tree (hr.mono (by omega)) (pa_cons (pv 2) pa_nil)))
  (pss_cons (ps_par (i := 4) (j := 5) (by rfl) sc_law.nd rfl rfl (by decide) rfl rfl (pa_cons (pe_disp (pps_cons pe_str (pe_disp (pps_cons (pv 3) (pe_tup (pa_cons (pe_lst pa_nil) pa_nil)) pps_nil) (by rfl) (by rfl) (fun z => by cases z) (by decide)) (pps_cons pe_str (pe_lst pa_nil) (pps_cons pe_str pe_int pps_nil))) (by rfl) (by rfl) (fun z => by cases z) (by decide)) (pa_cons (pe_lst pa_nil) pa_nil)) (by rfl))
  (pss_cons (ps_set (i := 6) sc_law.nd rfl (Or.inl rfl) (pe_cd D__law_take (hr.mono (by omega)) (pa_cons (pv 1) (pa_cons pe_int pa_nil))))
  (pss_cons (ps_for PassesOwn.never rfl (pi_range1 rfl T.range (pa_cons pe_int pa_nil)) (pg_name (i := 7) sc_law.nd rfl (Or.inl rfl))
  (pss_cons (ps_if (PW.pt (pw_and (pt_cmpR (op_neD (hu64 hr)) (pv 5) (pe_lst pa_nil) (nomark _)) (pw_and1 (pt_cmpR op_lt (pe_cd D__law_take (hr.mono (by omega)) (pa_cons (pv 1) (pa_cons pe_int pa_nil))) (pe_ifExp (pt_cmpR op_lt (pv 7) pe_int (nomark _)) pe_int pe_int) (nomark _)))))
  (pss_cons (ps_set (i := 8) sc_law.nd rfl (Or.inl rfl) (pe_cd D__law_pick (hr.mono (by omega)) (pa_cons (pv 1) (pa_cons (pv 5) pa_nil))))
  (pss_cons (ps_expr (pe_cd D_drop_key (hr.mono (by omega)) (pa_cons (pv 2) (pa_cons (pv 3) (pa_cons (pe_ix ix_tup (pv 8) pe_int (fun _ _ => rfl)) (pa_cons (pe_ix ix_tup (pv 8) pe_int (fun _ _ => rfl)) pa_nil))))))
  (pss_cons (ps_expr (pe_bm PySem.F.plainAttrs_list PySem.F.slot_list_remove PySem.F.type_list_remove (mt_removeD (hu65 hr)) (pv 5) (pa_cons (pv 8) pa_nil)))
  (pss_cons (ps_expr (pe_cd D__law_drop (hr.mono (by omega)) (pa_cons (pv 4) (pa_cons (pv 3) (pa_cons (pv 8) pa_nil)))))
  (pss_one (ps_while PassesOwn.never (PW.pt (pw_and (pt_cmpR op_eq (pe_callB call_len (by rfl) T.len (by decide +kernel) (pa_cons (pe_dget (hu_of hr) (pe_dget (hu_of hr) (pv 4) pe_str (fun _ _ => rfl)) (pv 3) (fun _ _ => rfl)) pa_nil)) pe_int (nomark _)) (pw_and1 (pt_cmpR op_eq (pe_callB call_len (by rfl) T.len (by decide +kernel) (pa_cons (pe_ix ix_tup (pe_dget (hu_of hr) (pe_dget (hu_of hr) (pv 4) pe_str (fun _ _ => rfl)) (pv 3) (fun _ _ => rfl)) pe_int (fun _ _ => rfl)) pa_nil)) pe_int (nomark _)))))
  (pss_cons (ps_set (i := 9) sc_law.nd rfl (Or.inl rfl) (pe_ix ix_list (pe_ix ix_tup (pe_dget (hu_of hr) (pe_dget (hu_of hr) (pv 4) pe_str (fun _ _ => rfl)) (pv 3) (fun _ _ => rfl)) pe_int (fun _ _ => rfl)) pe_int (fun _ _ => rfl)))
  (pss_cons (ps_dput (hu_of hr) (pe_dget (hu_of hr) (pv 4) pe_str (fun _ _ => rfl)) (pv 3) (pe_dget (hu_of hr) (pe_dget (hu_of hr) (pv 4) pe_str (fun _ _ => rfl)) (pv 9) (fun _ _ => rfl)) rfl)
  (pss_one (ps_expr (pe_bm PySem.F.plainAttrs_list PySem.F.slot_list_append PySem.F.type_list_append mt_append (pe_dget (hu_of hr) (pv 4) pe_str (fun _ _ => rfl)) (pa_cons (pv 9) pa_nil))))))))))))
  (pss_cons (ps_set (i := 10) sc_law.nd rfl (Or.inl rfl) (pe_ifExp (pt_cmpR op_eq (pv 6) pe_int (nomark _)) pe_int (pe_cd D__law_pick (hr.mono (by omega)) (pa_cons (pv 1) (pa_cons (pe_lst (pa_cons (pv 6) (pa_cons (pe_op op_mul pe_int (pv 6)) (pa_cons pe_int pa_nil)))) pa_nil)))))
  (pss_cons (ps_set (i := 11) sc_law.nd rfl (Or.inl rfl) (pe_op op_catA (pe_tup (pa_cons (pe_cd D__law_take (hr.mono (by omega)) (pa_cons (pv 1) (pa_cons pe_int pa_nil))) pa_nil)) (pe_op op_repA (pe_tup (pa_cons pe_int pa_nil)) (pv 10))))
  (pss_cons (ps_set (i := 8) sc_law.nd rfl (Or.inl rfl) (pe_tup (pa_cons (pv 11) (pa_cons (pe_tup (pa_cons pe_int (pa_cons (pe_cd D__law_take (hr.mono (by omega)) (pa_cons (pv 1) (pa_cons pe_int pa_nil))) pa_nil))) pa_nil))))
  (pss_one (ps_if (pt_val (pe_cd D_put_key (hr.mono (by omega)) (pa_cons (pv 2) (pa_cons (pv 3) (pa_cons (pe_ix ix_tup (pv 8) pe_int (fun _ _ => rfl)) (pa_cons (pe_ix ix_tup (pv 8) pe_int (fun _ _ => rfl)) pa_nil))))))
  (pss_cons (ps_expr (pe_bm PySem.F.plainAttrs_list PySem.F.slot_list_append PySem.F.type_list_append mt_append (pv 5) (pa_cons (pv 8) pa_nil)))
  (pss_cons (ps_set (i := 12) sc_law.nd rfl (Or.inl rfl) (pe_cd D__law_put (hr.mono (by omega)) (pa_cons (pv 4) (pa_cons (pv 3) (pa_cons (pv 8) pa_nil)))))
  (pss_one (ps_if (pt_cmpR op_notN (pv 12) pe_non (nomark _))
  (pss_cons (ps_set (i := 13) sc_law.nd rfl (Or.inl rfl) (pe_cd D__law_taken (hr.mono (by omega)) (pa_cons (pv 4) pa_nil)))
  (pss_cons (ps_dput (hu_of hr) (pe_dget (hu_of hr) (pv 4) pe_str (fun _ _ => rfl)) (pv 13) (pe_dget (hu_of hr) (pe_dget (hu_of hr) (pv 4) pe_str (fun _ _ => rfl)) (pv 3) (fun _ _ => rfl)) rfl)
  (pss_one (ps_dput (hu_of hr) (pe_dget (hu_of hr) (pv 4) pe_str (fun _ _ => rfl)) (pv 3) (pe_tup (pa_cons (pe_lst (pa_cons (pe_ix ix_tup (pv 12) pe_int (fun _ _ => rfl)) pa_nil)) (pa_cons (pe_lst (pa_cons (pv 13) (pa_cons (pe_ix ix_tup (pv 12) pe_int (fun _ _ => rfl)) pa_nil))) pa_nil))) rfl))))
  pss_nil))))
  pss_nil))))))
  (pss_one (ps_if (pt_not (pt_val (pe_cd D__law_same (hr.mono (by omega)) (pa_cons (pv 2) (pa_cons (pv 3) (pa_cons (pe_dget (hu_of hr) (pv 4) pe_str (fun _ _ => rfl)) pa_nil))))))
  (pss_one (ps_ret pe_bl))
  pss_nil))))
  (pss_one (ps_ret pe_bl)))))))), ?_⟩
    refine ⟨_, rfl, by show 2 ≤ sizeLine; decide, fun dr hdr => ?_⟩
    have e1 := L2.Same.new1 (o := .lst [V.ref sc, V.int 0]) hdr
    have d1 : upd H dr (.lst [V.ref sc, V.int 0]) dr = some (.lst [V.ref sc, V.int 0]) := upd_same
    generalize upd H dr (.lst [V.ref sc, V.int 0]) = H1 at *
    refine fun pm dx hpm hdx hnd => ⟨pm, dx, rfl, upd_same, fun H2 b2 q2 => ⟨rfl, ?_⟩⟩
    have e12 : Same H1 H2 := fun a o ha => by
      have n1 : a ≠ pm := ne_of_none ha hpm
      have n2 : a ≠ dx := ne_of_none ha hdx
      exact b2 a o (by simpa using n1) (by rw [upd_ne n1, upd_ne n2]; exact ha)
    -- the tree
    have a0 : AL M0 ⟨[], 1⟩ := ⟨setM_same, trivial⟩
    have ao : AlOk ⟨[], 1⟩ := ⟨by decide, by decide, List.nodup_nil, fun f hf => by cases hf⟩
    refine ⟨_, rfl, pm, M0, ⟨[], 1⟩, rfl, q2, a0, ao, fun H3 b3 q3 => ?_⟩
    have a3 : AL (setM (takeM M0 ⟨[], 1⟩) 1 (leafPg [] 0)) ⟨[], 2⟩ := (takeM_AL a0 ao).set (by decide) (by simp [Al.take])
    have r3 : repP 0 (leaf 1 []) 0 (setM (takeM M0 ⟨[], 1⟩) 1 (leafPg [] 0)) := setM_same
    have q3 : IsPM C H3 pm (setM (takeM M0 ⟨[], 1⟩) 1 (leafPg [] 0)) := q3
    have e13 : ∀ a o, H1 a = some o → H3 a = some o := fun a o ha => b3 a o (by simpa using ne_of_none ha hpm) (e12 a o ha)
    generalize setM (takeM M0 ⟨[], 1⟩) 1 (leafPg [] 0) = M3 at *
    have d3 := e13 _ _ d1
    have e03 : Same H H3 := fun a o ha => e13 a o (e1 a o ha)
    -- the world
    refine fun dw hdw => ?_
    have s1 := L2.Same.new1 (o := .dK []) hdw
    refine fun dn hdn => ?_
    have s2 := s1.new (o := .dK []) hdn
    refine ⟨_, rfl, Nat.zero_le _, fun l0 hl0 => ?_⟩
    have s3 := s2.new (o := .lst []) hl0
    refine ⟨by show 1 ≤ sizeLine; decide, fun t0 ht0 => ?_⟩
    have s4 := s3.new (o := .tup [V.ref l0]) ht0
    have fdn : H3 dn = none := s1.free hdn
    have fl0 : H3 l0 = none := s2.free hl0
    have ndd : dn ≠ dw := fun e => by rw [e, upd_same] at hdn; cases hdn
    have nl1 : l0 ≠ dn := fun e => by rw [e, upd_same] at hl0; cases hl0
    have nl2 : l0 ≠ dw := fun e => by rw [e, upd_ne (Ne.symm ndd), upd_same] at hl0; cases hl0
    have nt0 : t0 ≠ l0 := fun e => by rw [e, upd_same] at ht0; cases ht0
    have nt1 : t0 ≠ dn := fun e => by rw [e, upd_ne (Ne.symm nl1), upd_same] at ht0; cases ht0
    have nt2 : t0 ≠ dw := fun e => by rw [e, upd_ne (Ne.symm nl2), upd_ne (Ne.symm ndd), upd_same] at ht0; cases ht0
    refine ⟨by rw [upd_ne (Ne.symm nt1), upd_ne (Ne.symm nl1)]; exact upd_same, [(.inl ((1 : Nat) : Int), .ref t0)], rfl, by show 1 ≤ 15; decide, ?_⟩
    have s5 := L2.Same.mut (o := .dK (mergeK [] [(.inl ((1 : Nat) : Int), .ref t0)])) s4 fdn
    have v5n : upd (upd (upd (upd (upd H3 dw (.dK [])) dn (.dK [])) l0 (.lst [])) t0 (.tup [V.ref l0])) dn (.dK (mergeK [] [(.inl ((1 : Nat) : Int), .ref t0)])) dn = some (.dK (mergeK [] [(.inl ((1 : Nat) : Int), .ref t0)])) := upd_same
    have v5l : upd (upd (upd (upd (upd H3 dw (.dK [])) dn (.dK [])) l0 (.lst [])) t0 (.tup [V.ref l0])) dn (.dK (mergeK [] [(.inl ((1 : Nat) : Int), .ref t0)])) l0 = some (.lst []) := by
      rw [upd_ne nl1, upd_ne (Ne.symm nt0), upd_same]
    have v5t : upd (upd (upd (upd (upd H3 dw (.dK [])) dn (.dK [])) l0 (.lst [])) t0 (.tup [V.ref l0])) dn (.dK (mergeK [] [(.inl ((1 : Nat) : Int), .ref t0)])) t0 = some (.tup [V.ref l0]) := by
      rw [upd_ne nt1, upd_same]
    have v5w : upd (upd (upd (upd (upd H3 dw (.dK [])) dn (.dK [])) l0 (.lst [])) t0 (.tup [V.ref l0])) dn (.dK (mergeK [] [(.inl ((1 : Nat) : Int), .ref t0)])) dw = some (.dK []) := by
      rw [upd_ne (Ne.symm ndd), upd_ne (Ne.symm nt2), upd_ne (Ne.symm nl2), upd_ne (Ne.symm ndd), upd_same]
    generalize upd (upd (upd (upd (upd H3 dw (.dK [])) dn (.dK [])) l0 (.lst [])) t0 (.tup [V.ref l0])) dn (.dK (mergeK [] [(.inl ((1 : Nat) : Int), .ref t0)])) = H5 at *
    refine ⟨Nat.zero_le _, fun fl hfl => ?_⟩
    have s6 := s5.new (o := .lst []) hfl
    have g6 := L2.Same.new1 (o := .lst []) hfl
    have nfw : fl ≠ dw := fun e => by rw [e, v5w] at hfl; cases hfl
    have fdw : H3 dw = none := hdw
    refine ⟨by rw [upd_ne (Ne.symm nfw)]; exact v5w, [(.inr "nodes", .ref dn), (.inr "free", .ref fl), (.inr "fresh", .int ((2 : Nat) : Int))], rfl, by show 3 ≤ 15; decide, ?_⟩
    have s7 := L2.Same.mut (o := .dK (mergeK [] [(.inr "nodes", .ref dn), (.inr "free", .ref fl), (.inr "fresh", .int ((2 : Nat) : Int))])) s6 fdw
    have k7 : ∀ a o, a ≠ dw → H5 a = some o → upd (upd H5 fl (.lst [])) dw (.dK (mergeK [] [(.inr "nodes", .ref dn), (.inr "free", .ref fl), (.inr "fresh", .int ((2 : Nat) : Int))])) a = some o := fun a o na ha => by
      rw [upd_ne na]
      exact g6 a o ha
    have v7w : upd (upd H5 fl (.lst [])) dw (.dK (mergeK [] [(.inr "nodes", .ref dn), (.inr "free", .ref fl), (.inr "fresh", .int ((2 : Nat) : Int))])) dw = some (.dK (mergeK [] [(.inr "nodes", .ref dn), (.inr "free", .ref fl), (.inr "fresh", .int ((2 : Nat) : Int))])) := upd_same
    have v7f : upd (upd H5 fl (.lst [])) dw (.dK (mergeK [] [(.inr "nodes", .ref dn), (.inr "free", .ref fl), (.inr "fresh", .int ((2 : Nat) : Int))])) fl = some (.lst []) := by
      rw [upd_ne nfw, upd_same]
    have v7n := k7 _ _ ndd v5n
    have v7l := k7 _ _ nl2 v5l
    have v7t := k7 _ _ nt2 v5t
    have v7r := s7 _ _ d3
    generalize upd (upd H5 fl (.lst [])) dw (.dK (mergeK [] [(.inr "nodes", .ref dn), (.inr "free", .ref fl), (.inr "fresh", .int ((2 : Nat) : Int))])) = H7 at *
    refine ⟨Nat.zero_le _, fun du hdu => ?_⟩
    refine ⟨_, _, rfl, ?_⟩
    have g8 := L2.Same.new1 (o := .lst []) hdu
    have s8 := s7.trans g8
    have v8u : upd H7 du (.lst []) du = some (.lst []) := upd_same
    have v8w := g8 _ _ v7w
    have v8f := g8 _ _ v7f
    have v8n := g8 _ _ v7n
    have v8l := g8 _ _ v7l
    have v8t := g8 _ _ v7t
    have v8r := g8 _ _ v7r
    have nru : dr ≠ du := ne_of_none v7r hdu
    have nfu : fl ≠ du := ne_of_none v7f hdu
    have nlu : l0 ≠ du := ne_of_none v7l hdu
    have fdu : H3 du = none := s7.free hdu
    have ffl : H3 fl = none := s5.free hfl
    generalize upd H7 du (.lst []) = H8 at *
    have nrf : dr ≠ fl := ne_of_none (s5 _ _ d3) hfl
    have nlf : l0 ≠ fl := ne_of_none v5l hfl
    have nlr : l0 ≠ dr := fun e => by rw [e, d3] at fl0; cases fl0
    have q8 := q3.same s8
    have em : mergeK [] [((.inr "nodes" : Key), V.ref dn), (.inr "free", .ref fl), (.inr "fresh", .int ((2 : Nat) : Int))] = [((.inr "nodes" : Key), V.ref dn), (.inr "free", .ref fl), (.inr "fresh", .int ((2 : Nat) : Int))] :=
      merge_self _ [] (by show [(.inr "nodes" : Key), .inr "free", .inr "fresh"].Nodup; decide +kernel)
    rw [em] at v8w
    have w8 : Wd [fl, dr, du] H8 dw dn fl (fun m => if m = 1 then some ([], none) else none) ⟨[], 2⟩ := by
      refine ⟨⟨_, v8w, by show 3 ≤ 10; decide, rfl, rfl, rfl⟩, ⟨_, v8n, NumKeys.nil.put (by decide) _, fun n nd hnn => ?_⟩, v8f, List.mem_cons_self, fun x hx => ?_⟩
      · by_cases c : n = 1
        · subst c
          cases hnn
          refine ⟨.ref t0, ?_, t0, l0, [], rfl, v8t, v8l, .nil, ?_⟩
          · show valV (putK [] _ _) _ = _
            rw [valV_put, if_pos rfl]
          · simp [nlf, nlr, nlu]
        · replace hnn : (if n = 1 then some (([], none) : Nd) else none) = some nd := hnn
          rw [if_neg c] at hnn
          cases hnn
      · rcases List.mem_cons.mp hx with rfl | hx
        · exact ⟨_, v8f⟩
        · rcases List.mem_cons.mp hx with rfl | hx
          · exact ⟨_, v8r⟩
          · rw [List.mem_singleton.mp hx]
            exact ⟨_, v8u⟩
    have fpm : H pm = none := e1.free hpm
    have fdr : H dr = none := hdr
    have e08 : Same H H8 := e03.trans s8
    have z8 : Side K H8 sc dr du fl [pm, dw, dn, fl, dr, du] ns [] 0 := by
      refine ⟨v8r, ⟨[], v8u, .nil⟩, ⟨nru, nrf, Ne.symm nfu⟩, fun H' b => SqL.keep hsc fun o ho => b sc o (fun m => ?_) (e08 _ _ ho), by omega⟩
      have hf : ∀ x ∈ [pm, dw, dn, fl, dr, du], H x = none := fun x hx => by
        simp at hx
        rcases hx with rfl | rfl | rfl | rfl | rfl | rfl
        · exact fpm
        · exact e03.free fdw
        · exact e03.free fdn
        · exact e03.free ffl
        · exact fdr
        · exact e03.free fdu
      rw [hf sc m] at ho
      cases ho
    have L8 : LawI K C sc pm dw dn fl dr du ns H8 ⟨0, leaf 1 []⟩ ⟨[], 2⟩ [] 0 := ⟨⟨M3, q8, a3, r3⟩, ⟨_, w8, rfl⟩, TreeI.one, 0, z8⟩
    refine ⟨_, rfl, dr, sc, ns, 0, 3, by omega, rfl, v8r, fun H' b => z8.hsc H' (b.mono fun x hx => by simp at hx; simp [hx]), by decide, fun wide H9 wd0 wd3 b9 hd9 => ?_⟩
    have L9 := L8.draw b9 hd9
    clear L8 z8 w8 q8 v8t v8l v8w v8n v8f v8u v8r
    refine ⟨50, rfl, by decide, by decide, for_range (lo := 0) (n := (50 : Int).toNat) (fun i σ H' => ∃ T al due t7 t8 t9 t10 t11 t12 t13, σ = [some (.ref sc), some (.ref dr), some (.ref pm), some (.int 1), some (.ref dw), some (.ref du), some (.int wide), t7, t8, t9, t10, t11, t12, t13] ∧ LawI K C sc pm dw dn fl dr du ns H' T al due i)
      ⟨_, _, _, _, _, _, _, _, _, _, rfl, L9⟩ ?_ ?_⟩
    · rintro i σ HA hi ⟨T, al, due, t7, t8, t9, t10, t11, t12, t13, rfl, LA⟩
      have hi' : i < 50 := hi
      refine viaS (T := fun nx => tIfS _ _ _ { nx := nx, rt := _, bk := _, ct := _ } _ _) (fun σ' H' => ∃ T al due t7 t8 t9 t10 t11 t12 t13, σ' = [some (.ref sc), some (.ref dr), some (.ref pm), some (.int 1), some (.ref dw), some (.ref du), some (.int wide), t7, t8, t9, t10, t11, t12, t13] ∧ LawI K C sc pm dw dn fl dr du ns H' T al due (i + 1)) ?_ ?_
      · intro nx kn
        refine viaT (T := fun q => tAnd _ _ _ _ q) (fun c H' => LawI K C sc pm dw dn fl dr du ns H' T al due i ∧ (c = true → due ≠ [])) ?_ ?_
        · intro Q0 k0
          obtain ⟨j, sd⟩ := LA.sd
          obtain ⟨vs, u1, u2⟩ := sd.hdu
          refine ⟨_, rfl, Nat.zero_le _, fun p hp => ?_⟩
          have n1 := L2.Same.new1 (o := .lst []) hp
          have LA1 := LA.same n1
          have hEL : IsEL (upd HA p (.lst [])) (.ref du) due := ⟨du, vs, rfl, n1 _ _ u1, u2.same n1⟩
          have hnil : Dp K (upd HA p (.lst [])) (.ref p) (.list []) := .lst (SqL.of upd_same) .nil
          refine ⟨lE due, .list [], hEL.dp, hnil, shaped_lE due, shaped_nil, _, rfl, ?_⟩
          rw [eqv_nil_E]
          by_cases c : due = []
          · exact ibF (by rw [decide_eq_true c]; decide) (k0 _ _ ⟨LA1, fun q => by cases q⟩)
          · refine ibT (by rw [decide_eq_false c]; decide) ?_
            have sd1 := sd.same n1
            refine ⟨_, rfl, dr, sc, ns, j, 3, by omega, rfl, sd1.hdr, fun H' b => sd1.hsc H' (b.mono fun x hx => by simp at hx; simp [hx]), by decide, fun r HB r0 r3 bB hdB => ?_⟩
            have LB := LA1.draw bB hdB
            refine ⟨_, rfl, _, _, rfl, rfl, _, rfl, ?_⟩
            by_cases c2 : (0 : Int) + (i : Int) < 30
            · exact ifT c2 ⟨_, _, rfl, rfl, _, rfl, k0 _ _ ⟨LB, fun _ => c⟩⟩
            · exact ifF c2 ⟨_, _, rfl, rfl, _, rfl, k0 _ _ ⟨LB, fun _ => c⟩⟩
        · rintro c HB ⟨LB, hc⟩
          cases c with
          | true =>
            refine iteT ?_
            have hne := hc rfl
            clear hc
            obtain ⟨j, sd⟩ := LB.sd
            obtain ⟨vs, u1, u2⟩ := sd.hdu
            have tr := LB.tr
            have hdl := tr.dl
            have f2 := tr.f2
            have ht := tr.ht
            have hvl := u2.length
            have nvs : vs ≠ [] := fun e => by
              rw [e] at hvl
              exact hne (List.length_eq_zero_iff.mp hvl.symm)
            refine ⟨_, rfl, _, rfl, dr, sc, ns, j, du, vs, by omega, rfl, sd.hdr, fun H' b => sd.hsc H' (b.mono fun x hx => by simp at hx; simp [hx]), Ne.symm sd.hne.1, u1, nvs, by omega, fun jj v HC hv bC hdC => ?_⟩
            obtain ⟨e, hej, zv⟩ := Paired.get' u2 hv
            have LC := LB.draw bC hdC
            have zv := zv.tups (LB.tupsDr bC)
            have hed := List.mem_of_getElem? hej
            have ge := ok_ents _ _ tr.ok e (tr.de e hed)
            obtain ⟨te, ka, sa, rfl, hte, hka, hsa⟩ := id zv
            obtain ⟨M, p1, p2, p3⟩ := id LC.pg
            obtain ⟨N, w1, w2⟩ := id LC.wd
            obtain ⟨j3, sdC⟩ := id LC.sd
            obtain ⟨vs3, u3, u4⟩ := id sdC.hdu
            refine ⟨_, rfl, _, rfl, _, rfl, te, _, 0, _, rfl, rfl, SqT.of hte, atI_nat (j := 0) rfl, _, rfl, te, _, 1, _, rfl, rfl, SqT.of hte, atI_nat (j := 1) rfl, ?_⟩
            refine ⟨T.h, by omega, pm, M, al, T.t, ka, sa, e, by rw [tr.nm]; rfl, p1, p2, p3, tr.ok, ge, hka, hsa, tr.own, by omega, found_mem tr.ok tr.so (tr.de e hed), fun HD M' bD qD stD rD => ?_⟩
            have wD := w1.butP p1 bD
            have duD : HD du = some (.lst vs3) := p1.keep bD u3 trivial
            have u5 : IsEs HD vs3 due := u4.tups (p1.tups bD)
            have zvD := zv.tups (p1.tups bD)
            refine ⟨_, rfl, .inl ⟨rfl, _, SqL.of duD⟩, _, rfl, du, vs3, .ref te, due, e, rfl, rfl, duD, u5, zvD, hed, fun j' hj' => ?_⟩
            have bE : But [du] HD (upd HD du (.lst (vs3.eraseIdx j'))) := (But.refl _ HD).upd List.mem_cons_self
            have duE : upd HD du (.lst (vs3.eraseIdx j')) du = some (.lst (vs3.eraseIdx j')) := upd_same
            generalize upd HD du (.lst (vs3.eraseIdx j')) = HE at *
            have tpE : Tups HD HE := Loose.tups (T := [du]) (S := [fl, dr, du]) (fun y hy => by rw [List.mem_singleton.mp hy]; exact .inl (by simp)) wD.s bE
            have ne := sdC.hne
            have nS := wD.notS
            have wE : Wd [fl, dr, du] HE dw dn fl N al := by
              refine wD.but (T := [du]) (fun y hy => by rw [List.mem_singleton.mp hy]; exact .inl (by simp)) bE (fun m => nS.1 (by rw [List.mem_singleton.mp m]; simp)) (fun m => nS.2 (by rw [List.mem_singleton.mp m]; simp)) (fun m => ne.2.2 (List.mem_singleton.mp m).symm) (fun y hy => ?_)
              by_cases c : y = du
              · rw [c]; exact ⟨_, duE⟩
              · obtain ⟨zs, q⟩ := wD.s y hy
                exact ⟨zs, bE _ _ (by simpa using c) q⟩
            have qE : IsPM C HE pm M' := qD.butG bE fun y hy => by
              rw [List.mem_singleton.mp hy]
              exact .inl ⟨_, duD⟩
            have zvE := zvD.tups tpE
            have u6 : IsEs HE (vs3.eraseIdx j') (due.eraseIdx j') := Paired.eraseIdx j' (u5.tups tpE)
            have drE : HE dr = some (.lst [.ref sc, .int (j3 : Int)]) := bE _ _ (by simpa using ne.1) (p1.keep bD sdC.hdr trivial)
            refine ⟨_, rfl, _, rfl, _, rfl, T.h, by omega, [fl, dr, du], dw, dn, fl, N, al, T.t, .ref te, e, by rw [tr.nm]; rfl, wE, w2, tr.ok, zvE, tr.own, by omega, fun HF N' bF wF stF rF => ?_⟩
            have hM1 : M' 1 = some (pgT _ (dropR T e al).1.t 0) := by
              have q := repP_pg rD
              have nn : num (dropR T e al).1.t = 1 := by rw [dropR_num]; exact tr.nm
              have q : M' (num (dropR T e al).1.t) = some (pgT _ (dropR T e al).1.t 0) := q
              rw [nn] at q
              exact q
            have hN1 : N 1 = some (ndT T.h T.t) := by
              have q := repN_nd w2
              rw [tr.nm] at q
              exact q
            have hdd : ∀ x ∈ due.eraseIdx j', x ∈ due ∧ x ≠ e := fun x hx => by
              refine ⟨List.mem_of_mem_eraseIdx hx, fun q => ?_⟩
              subst q
              obtain ⟨y, hy1, hy2⟩ := List.mem_eraseIdx_iff_getElem?.mp hx
              have hl1 := (List.getElem?_eq_some_iff.mp hy2).1
              have hl2 := (List.getElem?_eq_some_iff.mp hj').1
              have e1 := (List.getElem?_eq_some_iff.mp hy2).2
              have e2 := (List.getElem?_eq_some_iff.mp hj').2
              exact hy1 ((List.getElem_inj tr.dd).mp (e1.trans e2.symm))
            have trD : TreeI (dropR T e al).1 (dropR T e al).2 (due.eraseIdx j') (i + 1) := tr.drop hdd (List.Nodup.eraseIdx j' tr.dd) (List.length_eraseIdx_le _ _)
            have eD : dropR T e al = shrink T.h (drop T.h T.t e al).1 (drop T.h T.t e al).2 := rfl
            have fin : ∀ (m : Nat) (t2 : Tr m) N2 a2 HG t7 t8 t9, (⟨m, t2⟩, a2) = dropR T e al → But [dw, dn, fl] HE HG → Wd [fl, dr, du] HG dw dn fl N2 a2 → repN m t2 N2 →
                nx [some (.ref sc), some (.ref dr), some (.ref pm), some (.int 1), some (.ref dw), some (.ref du), some (.int wide), t7, t8, t9, t10, t11, t12, t13] HG := fun m t2 N2 a2 HG t7 t8 t9 es bG wG rG => by
              have hz : ∀ x ∈ [dw, dn, fl], x ≠ dr ∧ x ≠ du := fun x hx => by
                simp at hx
                rcases hx with rfl | rfl | rfl
                · exact ⟨fun q => nS.1 (by rw [q]; simp), fun q => nS.1 (by rw [q]; simp)⟩
                · exact ⟨fun q => nS.2 (by rw [q]; simp), fun q => nS.2 (by rw [q]; simp)⟩
                · exact ⟨Ne.symm ne.2.1, Ne.symm ne.2.2⟩
              have lE := wE.loose (T := [dw, dn, fl]) (fun x hx => by simpa using hx)
              refine kn _ _ ⟨(dropR T e al).1, (dropR T e al).2, due.eraseIdx j', _, _, _, _, _, _, _, rfl, ⟨M', qE.butW wE hN1 hM1 (T := [dw, dn, fl]) (fun x hx => by simp at hx; rcases hx with rfl | rfl | rfl <;> simp) bG, stD.al, rD⟩, ⟨N2, ?_, ?_⟩, trD, j3, ?_⟩
              · rw [← es]; exact wG
              · rw [← es]; exact rG
              · refine ⟨bG _ _ (fun q => (hz _ q).1 rfl) drE, ⟨_, bG _ _ (fun q => (hz _ q).2 rfl) duE, u6.tups (lE.tups wE.s bG)⟩, ne, fun H2 b2 => sdC.hsc H2 (((bD.mono fun x hx => ?_).trans (bE.mono fun x hx => ?_)).trans ((bG.mono fun x hx => ?_).trans b2)), sdC.hnl⟩
                · simp at hx; simp [hx]
                · simp at hx; simp [hx]
                · simp at hx; rcases hx with rfl | rfl | rfl <;> simp
            refine ⟨fun m σ H' => ∃ t2 : Tr m, ∃ N2 a2 t7 t8 t9, σ = [some (.ref sc), some (.ref dr), some (.ref pm), some (.int 1), some (.ref dw), some (.ref du), some (.int wide), t7, t8, t9, t10, t11, t12, t13] ∧ But [dw, dn, fl] HE H' ∧ Wd [fl, dr, du] H' dw dn fl N2 a2 ∧ repN m t2 N2 ∧ Ok m t2 ∧ num t2 = 1 ∧ Own (nums m t2) a2 ∧ a2.fresh = al.fresh ∧ shrink m t2 a2 = dropR T e al,
              ⟨T.h, (drop T.h T.t e al).1, N', (drop T.h T.t e al).2, _, _, _, rfl, bF, wF, rF, drop_ok _ _ _ _ tr.ok, by rw [num_drop]; exact tr.nm, stF.owns tr.own, (drop_cnt _ _ _ _ tr.ok).1, rfl⟩, ?_⟩
            rintro m σ HG ⟨t2, N2, a2, t7', t8', t9', rfl, bG, wG, rG, okG, nG, oG, fG, sG⟩
            obtain ⟨v2, g2, nd2⟩ := wG.n.get (repN_nd rG)
            rw [nG] at g2
            cases m with
            | zero =>
              obtain ⟨n, es⟩ := t2
              obtain ⟨a0, l0, xs, rfl, ha0, hl0, hes, hlS⟩ := nd2
              refine ⟨_, rfl, dw, _, rfl, wG.w.nodes, _, rfl, dn, _, rfl, g2, _, 1, rfl, .inr ⟨_, SqT.of ha0, rfl⟩, rfl, _, rfl, ibF (by decide) (iteF ?_)⟩
              exact fin 0 ⟨n, es⟩ N2 a2 HG _ _ _ sG bG wG rG
            | succ m =>
              obtain ⟨n, wl, cs⟩ := t2
              obtain ⟨hl1, hz, hge, hoks⟩ := id okG
              obtain ⟨a0, l0, m0, xs, rfl, ha0, hl0, hes, hlS, hm0, hmS⟩ := nd2
              have n1 : n = 1 := nG
              subst n1
              refine ⟨_, rfl, dw, _, rfl, wG.w.nodes, _, rfl, dn, _, rfl, g2, _, 2, rfl, .inr ⟨_, SqT.of ha0, rfl⟩, rfl, _, rfl, ibT rfl ?_⟩
              refine ⟨_, rfl, dw, _, rfl, wG.w.nodes, _, rfl, dn, _, rfl, g2, a0, _, 1, _, rfl, rfl, SqT.of ha0, atI_nat (j := 1) rfl, _, cs.length, rfl, .inl ⟨_, SqL.of hm0, by rw [nv_len, List.length_map]⟩, rfl, _, rfl, ?_⟩
              by_cases c1 : cs.length = 1
              · obtain ⟨c, rfl⟩ := List.length_eq_one_iff.mp c1
                refine ibT (by rfl) ?_
                refine ⟨fun σ H' => ∃ t2 : Tr m, ∃ N2 a2 t7 t8 t9, σ = [some (.ref sc), some (.ref dr), some (.ref pm), some (.int 1), some (.ref dw), some (.ref du), some (.int wide), t7, t8, t9, t10, t11, t12, t13] ∧ But [dw, dn, fl] HE H' ∧ Wd [fl, dr, du] H' dw dn fl N2 a2 ∧ repN m t2 N2 ∧ Ok m t2 ∧ num t2 = 1 ∧ Own (nums m t2) a2 ∧ a2.fresh = al.fresh ∧ shrink m t2 a2 = dropR T e al, fun σ' H' z => ⟨m, Nat.lt_succ_self m, z⟩, ?_⟩
                have hcin : num c ∈ nums (m + 1) (node 1 wl [c]) := List.mem_cons_of_mem _ (List.mem_append_left _ (num_mem m c))
                have lcn := oG.lt hcin
                obtain ⟨vc, gc, ndc⟩ := wG.n.get (repN_nd (rG.2 c List.mem_cons_self))
                refine ⟨_, rfl, dw, _, rfl, wG.w.nodes, _, rfl, dn, _, rfl, g2, a0, _, 1, _, rfl, rfl, SqT.of ha0, atI_nat (j := 1) rfl, m0, _, 0, _, rfl, rfl, SqL.of hm0, atI_nat (j := 0) rfl, ?_⟩
                refine ⟨_, rfl, dw, _, rfl, wG.w.nodes, _, rfl, dn, vc, rfl, gc, ?_⟩
                obtain ⟨HH, dpH, bH, wH⟩ := wG.put (n := 1) (by decide) ndc
                refine ⟨_, rfl, dw, _, rfl, wG.w.nodes, _, rfl, dn, HH, rfl, dpH, ?_⟩
                have ow2 := oG.al (by omega)
                have hfr : a2.free.reverse.length ≤ 65535 := by
                  rw [List.length_reverse]
                  exact nodup_bound 65535 _ ow2.nd fun x hx => by have := ow2.low x hx; have := ow2.most; omega
                have gv := wH.give (num c)
                refine ⟨_, rfl, dw, _, rfl, wH.w.free, .inl ⟨rfl, _, SqL.of wH.f⟩, _, rfl, fl, _, _, rfl, rfl, wH.f, sz_lt (by rw [nv_len]; exact Nat.lt_of_le_of_lt hfr (by decide)), ?_⟩
                have ss := shrink_stepN oG rG
                refine ⟨renum c 1, _, a2.give (num c), _, _, _, rfl, (bG.trans (bH.mono fun x hx => by simp at hx; simp [hx])).trans (gv.1.mono fun x hx => by simp at hx; simp [hx]), gv.2, ss.2, renum_ok (hoks c List.mem_cons_self), by rw [num_renum], ss.1.owns oG, fG, ?_⟩
                rw [← sG]
                exact shrink_one.symm
              · refine ibF ?_ ?_
                · rw [vint_ne (show ((cs.length : Nat) : Int) ≠ 1 by omega)]
                  decide
                · rw [shrink_not c1] at sG
                  exact fin (m + 1) ⟨1, wl, cs⟩ N2 a2 HG _ _ _ sG bG wG rG
          | false =>
            refine iteF ?_
            clear hc
            have tr := LB.tr
            have hdl := tr.dl
            have f2 := tr.f2
            have ht := tr.ht
            refine via (T := fun Q => tIf _ _ _ _ _ Q) (fun v H' => ∃ kk : Nat, v = .int (kk : Int) ∧ kk ≤ 19 ∧ LawI K C sc pm dw dn fl dr du ns H' T al due i) ?_ ?_
            · intro Q0 k0
              refine ⟨_, rfl, rfl, _, rfl, ?_⟩
              by_cases c2 : wide = 2
              · refine ibT ?_ ?_
                · rw [c2]; rfl
                · exact k0 _ _ ⟨19, rfl, by decide, LB⟩
              · refine ibF ?_ ?_
                · rw [vint_ne c2]; decide
                · refine ⟨_, rfl, _, rfl, _, rfl, _, _, rfl, rfl, .inl ⟨by decide, by decide⟩, by show 3 ≤ sizeLine; decide, fun p hp => ?_⟩
                  have n1 := L2.Same.new1 (o := .lst [V.int wide, V.int (3 * wide), V.int 12]) hp
                  have LC := LB.same n1
                  obtain ⟨j, sd⟩ := id LC.sd
                  refine ⟨dr, sc, ns, j, p, _, by omega, rfl, sd.hdr, fun H' b => sd.hsc H' (b.mono fun x hx => by simp at hx; simp [hx]), ?_, upd_same, by simp, by simp, fun jj v HC hv bC hdC => ?_⟩
                  · obtain ⟨j0, sd0⟩ := LB.sd
                    exact fun e => by rw [e, sd0.hdr] at hp; cases hp
                  have LD := LC.draw bC hdC
                  have hj : jj = 0 ∨ jj = 1 ∨ jj = 2 := by
                    have := (List.getElem?_eq_some_iff.mp hv).1
                    simp at this
                    omega
                  have hw : wide = ((wide.toNat : Nat) : Int) := by omega
                  rcases hj with rfl | rfl | rfl
                  · obtain rfl : V.int wide = v := by simpa using hv
                    exact k0 _ _ ⟨wide.toNat, by rw [← hw], by omega, LD⟩
                  · obtain rfl : V.int (3 * wide) = v := by simpa using hv
                    exact k0 _ _ ⟨(3 * wide).toNat, by rw [show (((3 * wide).toNat : Nat) : Int) = 3 * wide by omega], by omega, LD⟩
                  · obtain rfl : V.int 12 = v := by simpa using hv
                    exact k0 _ _ ⟨12, rfl, by decide, LD⟩
            rintro v HC ⟨kk, rfl, hkk, LC⟩
            -- the key
            obtain ⟨j, sd⟩ := id LC.sd
            refine ⟨_, rfl, dr, sc, ns, j, 40, by omega, rfl, sd.hdr, fun H' b => sd.hsc H' (b.mono fun x hx => by simp at hx; simp [hx]), by decide, fun ka0 HD k0 k40 bD hdD => ?_⟩
            have LD := LC.draw bD hdD
            refine ⟨by show 1 ≤ sizeLine; decide, fun x1 hx1 => ?_⟩
            have s1 := L2.Same.new1 (o := .tup [V.int ka0]) hx1
            refine ⟨by show 1 ≤ sizeLine; decide, fun x2 hx2 => ?_⟩
            have s2 := s1.new (o := .tup [V.int 5]) hx2
            have v1 := (L2.Same.new1 (o := .tup [V.int 5]) hx2) _ _ (upd_same (H := HD) (a := x1) (o := .tup [V.int ka0]))
            refine ⟨_, rfl, x2, kk, [V.int 5], rfl, rfl, upd_same, by simp, by omega, by simp, fun x3 HE e3 h3 => ?_⟩
            refine catA (e3 _ _ v1) h3 ?_ fun x4 HF e4 h4 => ?_
            · simp
              omega
            have eK : [V.int ka0] ++ (List.replicate kk [V.int 5]).flatten = iv (drawn ka0.toNat kk 0).1 := by
              have q := key_iv ka0.toNat kk
              rw [show ((ka0.toNat : Nat) : Int) = ka0 by omega] at q
              rw [q]
              show _ = iv (((ka0.toNat : Nat) : Int) :: List.replicate kk 5)
              rw [show ((ka0.toNat : Nat) : Int) = ka0 by omega]
            rw [eK] at h4
            have eDF := (s2.trans e3).trans e4
            have LF := LD.same eDF
            -- the entry
            obtain ⟨j2, sd2⟩ := id LF.sd
            refine ⟨_, rfl, _, rfl, dr, sc, ns, j2, 2, by omega, rfl, sd2.hdr, fun H' b => sd2.hsc H' (b.mono fun x hx => by simp at hx; simp [hx]), by decide, fun r HG r0 r2 bG hdG => ?_⟩
            have LG := LF.draw bG hdG
            have h5 := LF.tupsDr bG _ _ h4
            refine ⟨by show 2 ≤ sizeLine; decide, fun x6 hx6 => ?_⟩
            have s6 := L2.Same.new1 (o := .tup [V.int 1, V.int r]) hx6
            refine ⟨by show 2 ≤ sizeLine; decide, fun x7 hx7 => ?_⟩
            have s7 := s6.new (o := .tup [V.ref x4, V.ref x6]) hx7
            have q7 := L2.Same.new1 (o := .tup [V.ref x4, V.ref x6]) hx7
            have hr' : r = ((r.toNat : Nat) : Int) := by omega
            have v6 := q7 _ _ (upd_same (H := HG) (a := x6) (o := .tup [V.int 1, V.int r]))
            have v7 : ∀ o, upd (upd HG x6 (.tup [V.int 1, V.int r])) x7 o x7 = some o := fun _ => upd_same
            have v7 := v7 (.tup [V.ref x4, V.ref x6])
            have v4 := s7 _ _ h5
            have LH := LG.same s7
            generalize upd (upd HG x6 (.tup [V.int 1, V.int r])) x7 (.tup [V.ref x4, V.ref x6]) = HH at *
            have ge : GE (drawn ka0.toNat kk r.toNat) := drawn_GE (by omega) hkk (by omega)
            have v4' : HH x4 = some (.tup (iv (drawn ka0.toNat kk r.toNat).1)) := v4
            have v6' : HH x6 = some (.tup [.int (drawn ka0.toNat kk r.toNat).2.1, .int (drawn ka0.toNat kk r.toNat).2.2]) := by
              show _ = some (HO.tup [V.int 1, V.int ((r.toNat : Nat) : Int)])
              rw [← hr']
              exact v6
            generalize drawn ka0.toNat kk r.toNat = e at *
            have zv : IsE HH (.ref x7) e := ⟨x7, x4, x6, rfl, v7, v4', v6'⟩
            clear v4 v6 h5 h4 h3 v1
            obtain ⟨M, p1, p2, p3⟩ := id LH.pg
            obtain ⟨N, w1, w2⟩ := id LH.wd
            obtain ⟨j3, sdC⟩ := id LH.sd
            obtain ⟨vs3, u3, u4⟩ := id sdC.hdu
            refine ⟨_, rfl, _, rfl, _, rfl, x7, _, 0, _, rfl, rfl, SqT.of v7, atI_nat (j := 0) rfl, _, rfl, x7, _, 1, _, rfl, rfl, SqT.of v7, atI_nat (j := 1) rfl, ?_⟩
            refine ⟨T.h, by omega, pm, M, al, T.t, x4, x6, e, by rw [tr.nm]; rfl, p1, p2, p3, tr.ok, ge, v4', v6', tr.own, by omega, fun hin HI eI => ?_, fun hnf HI M' bI qI stI rI => ?_⟩
            · have LI := LH.same eI
              exact ⟨_, rfl, ibF (by simp) (kn _ _ ⟨T, al, due, _, _, _, _, _, _, _, rfl, LI.pg, LI.wd, tr.next, LI.sd⟩)⟩
            · refine ⟨_, rfl, ibT rfl ?_⟩
              have wI := w1.butP p1 bI
              have duI : HI du = some (.lst vs3) := p1.keep bI u3 trivial
              have u5 : IsEs HI vs3 due := u4.tups (p1.tups bI)
              have zvI := zv.tups (p1.tups bI)
              have hvl3 := u4.length
              refine ⟨_, rfl, .inl ⟨rfl, _, SqL.of duI⟩, _, rfl, du, _, _, rfl, rfl, duI, sz_lt (by omega), ?_⟩
              have bE : But [du] HI (upd HI du (.lst (vs3 ++ [V.ref x7]))) := (But.refl _ HI).upd List.mem_cons_self
              have duE : upd HI du (.lst (vs3 ++ [V.ref x7])) du = some (.lst (vs3 ++ [V.ref x7])) := upd_same
              generalize upd HI du (.lst (vs3 ++ [V.ref x7])) = HE at *
              have tpE : Tups HI HE := Loose.tups (T := [du]) (S := [fl, dr, du]) (fun y hy => by rw [List.mem_singleton.mp hy]; exact .inl (by simp)) wI.s bE
              have ne := sdC.hne
              have nS := wI.notS
              have wE : Wd [fl, dr, du] HE dw dn fl N al := by
                refine wI.but (T := [du]) (fun y hy => by rw [List.mem_singleton.mp hy]; exact .inl (by simp)) bE (fun m => nS.1 (by rw [List.mem_singleton.mp m]; simp)) (fun m => nS.2 (by rw [List.mem_singleton.mp m]; simp)) (fun m => ne.2.2 (List.mem_singleton.mp m).symm) (fun y hy => ?_)
                by_cases c : y = du
                · rw [c]; exact ⟨_, duE⟩
                · obtain ⟨zs, q⟩ := wI.s y hy
                  exact ⟨zs, bE _ _ (by simpa using c) q⟩
              have qE : IsPM C HE pm M' := qI.butG bE fun y hy => by
                rw [List.mem_singleton.mp hy]
                exact .inl ⟨_, duI⟩
              have zvE := zvI.tups tpE
              have u6 : IsEs HE (vs3 ++ [V.ref x7]) (due ++ [e]) := Paired.append (u5.tups tpE) (.cons zvE .nil)
              have drE : HE dr = some (.lst [.ref sc, .int (j3 : Int)]) := bE _ _ (by simpa using ne.1) (p1.keep bI sdC.hdr trivial)
              refine ⟨_, rfl, _, rfl, _, rfl, T.h, by omega, [fl, dr, du], dw, dn, fl, N, al, T.t, .ref x7, e, by rw [tr.nm]; rfl, wE, w2, tr.ok, ge, zvE, tr.own, by omega, fun u HL N' bL wL stL rL spL => ?_⟩
              have hM1 : M' 1 = some (pgT _ (putR T e al).1.t 0) := by
                have q := repP_pg rI
                have nn : num (putR T e al).1.t = 1 := by rw [putR_num]; exact tr.nm
                have q : M' (num (putR T e al).1.t) = some (pgT _ (putR T e al).1.t 0) := q
                rw [nn] at q
                exact q
              have hN1 : N 1 = some (ndT T.h T.t) := by
                have q := repN_nd w2
                rw [tr.nm] at q
                exact q
              have trD : TreeI (putR T e al).1 (putR T e al).2 (due ++ [e]) (i + 1) := tr.put ge (by omega) hnf
              have fin : ∀ (m : Nat) (t2 : Tr m) N2 a2 HG t7 t8 t9 t10 t11 t12 t13, (⟨m, t2⟩, a2) = putR T e al → But [dw, dn, fl] HE HG → Wd [fl, dr, du] HG dw dn fl N2 a2 → repN m t2 N2 →
                  nx [some (.ref sc), some (.ref dr), some (.ref pm), some (.int 1), some (.ref dw), some (.ref du), some (.int wide), t7, t8, t9, t10, t11, t12, t13] HG := fun m t2 N2 a2 HG t7 t8 t9 t10 t11 t12 t13 es bG wG rG => by
                have hz : ∀ x ∈ [dw, dn, fl], x ≠ dr ∧ x ≠ du := fun x hx => by
                  simp at hx
                  rcases hx with rfl | rfl | rfl
                  · exact ⟨fun q => nS.1 (by rw [q]; simp), fun q => nS.1 (by rw [q]; simp)⟩
                  · exact ⟨fun q => nS.2 (by rw [q]; simp), fun q => nS.2 (by rw [q]; simp)⟩
                  · exact ⟨Ne.symm ne.2.1, Ne.symm ne.2.2⟩
                have lE := wE.loose (T := [dw, dn, fl]) (fun x hx => by simpa using hx)
                refine kn _ _ ⟨(putR T e al).1, (putR T e al).2, due ++ [e], _, _, _, _, _, _, _, rfl, ⟨M', qE.butW wE hN1 hM1 (T := [dw, dn, fl]) (fun x hx => by simp at hx; rcases hx with rfl | rfl | rfl <;> simp) bG, stI.al, rI⟩, ⟨N2, ?_, ?_⟩, trD, j3, ?_⟩
                · rw [← es]; exact wG
                · rw [← es]; exact rG
                · refine ⟨bG _ _ (fun q => (hz _ q).1 rfl) drE, ⟨_, bG _ _ (fun q => (hz _ q).2 rfl) duE, u6.tups (lE.tups wE.s bG)⟩, ne, fun H2 b2 => sdC.hsc H2 (((bI.mono fun x hx => ?_).trans (bE.mono fun x hx => ?_)).trans ((bG.mono fun x hx => ?_).trans b2)), sdC.hnl⟩
                  · simp at hx; simp [hx]
                  · simp at hx; simp [hx]
                  · simp at hx; rcases hx with rfl | rfl | rfl <;> simp
              have pc := put_cnt T.h T.t e al tr.ok
              have pn := num_put T.h T.t e al
              cases q : (put T.h T.t e al).1.2 with
              | none =>
                rw [q] at spL
                obtain rfl : u = .non := spL
                refine ⟨_, rfl, rfl, _, rfl, ibF (by simp) ?_⟩
                have rL' : repN T.h (put T.h T.t e al).1.1 N' := by
                  unfold repNO at rL
                  rw [q] at rL
                  exact rL
                exact fin T.h _ N' _ HL _ _ _ _ _ _ _ (putR_none q).symm bL wL rL'
              | some pp =>
                obtain ⟨w3, rt⟩ := pp
                rw [q] at spL
                obtain ⟨tt, x5, rfl, htt, hx5⟩ := spL
                have htt : HL tt = some (.tup [x5, .int ((num rt : Nat) : Int)]) := htt
                refine ⟨_, rfl, rfl, _, rfl, ibT (by simp) ?_⟩
                have rL' : repN T.h (put T.h T.t e al).1.1 N' ∧ repN T.h rt N' := by
                  unfold repNO at rL
                  rw [q] at rL
                  exact rL
                have ps := putR_some q
                have ownL := stL.owns tr.own
                have enR : numsR T.h (put T.h T.t e al).1 = nums T.h (put T.h T.t e al).1.1 ++ nums T.h rt := by
                  unfold numsR
                  rw [q]
                  rfl
                rw [enR] at ownL
                obtain ⟨kc, kc1, kc2, _⟩ := pc
                generalize (put T.h T.t e al).2 = a1 at *
                generalize (put T.h T.t e al).1.1 = t1 at *
                have hf1 : a1.fresh ≤ 65534 := by omega
                have pn1 : num t1 = 1 := by rw [pn]; exact tr.nm
                refine ⟨_, rfl, [fl, dr, du], dw, dn, fl, N', a1, rfl, wL, fun HQ bQ wQ => ?_⟩
                have lL := wL.loose (T := [dw, fl]) (fun x hx => by simp at hx; rcases hx with rfl | rfl <;> simp)
                have httQ := lL.tup wL.s bQ htt
                have hx5Q := hx5.tups (lL.tups wL.s bQ)
                obtain ⟨v1, g1, nd1⟩ := wQ.n.get (repN_nd rL'.1)
                rw [pn1] at g1
                have tl := take_le (ownL.al hf1)
                obtain ⟨HR, dpR, bR, wR⟩ := wQ.put (n := a1.take.1) (by omega) nd1
                refine ⟨_, rfl, dw, _, rfl, wQ.w.nodes, _, rfl, dn, v1, rfl, g1, _, rfl, dw, _, rfl, wQ.w.nodes, _, rfl, dn, HR, rfl, dpR, ?_⟩
                have lQ := wQ.loose (T := [dn]) (fun x hx => by simp at hx; simp [hx])
                have httR := lQ.tup wQ.s bR httQ
                have hx5R := hx5Q.tups (lQ.tups wQ.s bR)
                refine ⟨_, rfl, tt, _, 0, _, rfl, rfl, SqT.of httR, atI_nat (j := 0) rfl, by show 1 ≤ sizeLine; decide, fun y1 hy1 => ?_⟩
                have s1 := L2.Same.new1 (o := .lst [x5]) hy1
                refine ⟨_, rfl, _, rfl, tt, _, 1, _, rfl, rfl, SqT.of (s1 _ _ httR), atI_nat (j := 1) rfl, by show 2 ≤ sizeLine; decide, fun y2 hy2 => ?_⟩
                have s2 := s1.new (o := .lst [V.int ((a1.take.1 : Nat) : Int), V.int ((num rt : Nat) : Int)]) hy2
                refine ⟨by show 2 ≤ sizeLine; decide, fun y3 hy3 => ?_⟩
                have s3 := s2.new (o := .tup [V.ref y1, V.ref y2]) hy3
                have q3' := L2.Same.new1 (o := .tup [V.ref y1, V.ref y2]) hy3
                have q2' := (L2.Same.new1 (o := .lst [V.int ((a1.take.1 : Nat) : Int), V.int ((num rt : Nat) : Int)]) hy2).trans q3'
                have ky1 := q2' _ _ (upd_same (H := HR) (a := y1) (o := .lst [x5]))
                have ky2 := q3' _ _ (upd_same (a := y2) (o := .lst [V.int ((a1.take.1 : Nat) : Int), V.int ((num rt : Nat) : Int)]))
                have ky3 : ∀ o, upd (upd (upd HR y1 (.lst [x5])) y2 (.lst [V.int ((a1.take.1 : Nat) : Int), V.int ((num rt : Nat) : Int)])) y3 o y3 = some o := fun _ => upd_same
                have ky3 := ky3 (.tup [V.ref y1, V.ref y2])
                have fy1 := wR.s.fresh hy1
                have fy2 := wR.s.fresh (s1.free hy2)
                generalize upd (upd (upd HR y1 (.lst [x5])) y2 (.lst [V.int ((a1.take.1 : Nat) : Int), V.int ((num rt : Nat) : Int)])) y3 (.tup [V.ref y1, V.ref y2]) = HS at *
                have ls : IsLs [fl, dr, du] HS y1 [w3] := ⟨fy1, _, ky1, .cons (hx5R.same s3) .nil⟩
                have nsx : IsNs [fl, dr, du] HS y2 [a1.take.1, num rt] := ⟨fy2, ky2⟩
                have wS := wR.same s3
                obtain ⟨HT, dpT, bT, wT⟩ := wS.put (n := 1) (by decide) (nd_node ls nsx ky3)
                refine ⟨_, rfl, dw, _, rfl, wS.w.nodes, _, rfl, dn, HT, rfl, dpT, ?_⟩
                have rs := root_splitN w3 ownL rL'.1 rL'.2
                rw [pn1] at rs
                rw [tr.nm] at ps
                refine fin _ _ _ _ HT _ _ _ _ _ _ _ ps.symm ((((bL.trans (bQ.mono fun x hx => by simp at hx; rcases hx with rfl | rfl <;> simp)).trans (bR.mono fun x hx => by simp at hx; simp [hx])).trans (.of s3)).trans (bT.mono fun x hx => by simp at hx; simp [hx])) wT rs.2
      · rintro σ' HB ⟨T', al', due', t7', t8', t9', t10', t11', t12', t13', rfl, LB⟩
        obtain ⟨M, p1, p2, p3⟩ := id LB.pg
        obtain ⟨N, w1, w2⟩ := id LB.wd
        have tr := LB.tr
        have f2 := tr.f2
        have ht := tr.ht
        refine ⟨_, rfl, _, rfl, _, rfl, dw, _, rfl, w1.w.nodes, T'.h, by omega, pm, M, al', [fl, dr, du], dn, N, T'.t, by rw [tr.nm]; rfl, p1, p3, w1.n, w1.s, w2, tr.ok, tr.own, by omega, fun HC eC => ?_⟩
        exact ⟨_, rfl, ibF (by simp) ⟨_, _, _, _, _, _, _, _, _, _, rfl, LB.same eC⟩⟩
    · rintro σ HA ⟨T, al, due, t7, t8, t9, t10, t11, t12, t13, rfl, LA⟩
      exact k _
end
end K7
namespace K7
open PySem PySem.Spec PyProof.Rows L2

def faL0 : List He.Fa := [.glo "is_number", .glo "check_number", .glo "are_bytes", .glo "bytes_of", .glo "number_of", .glo "is_page", .glo "check_page", .glo "with_bytes", .glo "blank_page", .glo "kind_of", .glo "next_of", .glo "with_next", .glo "is_key", .glo "check_key", .glo "is_spot", .glo "check_entry", .glo "entry_bytes", .glo "entry_size", .glo "leaf_size", .glo "inner_size", .glo "read_entry", .glo "leaf_page", .glo "leaf_entries", .glo "inner_page", .glo "inner_parts", .glo "check_node", .glo "is_leaf", .glo "leaf_next", .glo "half_of", .glo "new_tree"]
def faL1 : List He.Fa := [.glo "child_at", .glo "put_key", .glo "put_below", .glo "write_leaf", .glo "write_inner", .glo "drop_key", .glo "drop_below", .glo "is_small", .glo "join_at", .glo "join_two", .glo "leaf_for", .glo "entries_from", .glo "pages_of", .glo "format_pages", .glo "front_of", .glo "fresh_number", .glo "free_number", .glo "take_page", .glo "give_page", .glo "check_given", .glo "free_pages", .glo "check_page_number", .glo "_law_number", .glo "_law_take", .glo "_law_pick", .glo "_law_tree_size", .glo "_law_half", .glo "_law_taken", .glo "_law_put", .glo "_law_bytes"]
def faL2 : List He.Fa := [.glo "_law_together", .glo "_law_drop", .glo "_law_listed", .glo "_law_same", .glo "law", .glo "MemoryPages", .free "len", .free "range", .free "sum", .free "isinstance", .free "int", .free "bool", .free "tuple", .free "list", .free "dict", .free "zip", .free "sorted", .free "min", .free "abs", .free "all", .int "PAGE_SIZE" 128, .int "HEAD" 12, .int "BLANK" 0, .int "FRONT" 1, .int "LEAF" 3, .int "INNER" 4, .int "MOST_PAGE" 65535, .int "MOST_KEY" 20, .int "ROOM" 116, .int "FEW" 30]
def faL3 : List He.Fa := [.int "FRESH_AT" 12, .int "FREE_AT" 14, .cls "MemoryPages", .noat "MemoryPages" "pages", .mkr "MemoryPages", .meth "MemoryPages" "read", .meth "MemoryPages" "write", .meth "MemoryPages" "allocate", .meth "MemoryPages" "release"]
def faL : List He.Fa := faL0 ++ (faL1 ++ (faL2 ++ (faL3)))
def fnL0 : List He.DefD := [⟨("is_number", none), "is_number", "is_number", defArgs (top 7), defBody (top 7), defScope (top 7), [], []⟩, ⟨("check_number", none), "check_number", "check_number", defArgs (top 8), defBody (top 8), defScope (top 8), [], []⟩, ⟨("are_bytes", none), "are_bytes", "are_bytes", defArgs (top 9), defBody (top 9), defScope (top 9), [], []⟩, ⟨("bytes_of", none), "bytes_of", "bytes_of", defArgs (top 10), defBody (top 10), defScope (top 10), [], []⟩, ⟨("number_of", none), "number_of", "number_of", defArgs (top 11), defBody (top 11), defScope (top 11), [], []⟩, ⟨("is_page", none), "is_page", "is_page", defArgs (top 20), defBody (top 20), defScope (top 20), [], []⟩, ⟨("check_page", none), "check_page", "check_page", defArgs (top 21), defBody (top 21), defScope (top 21), [], []⟩, ⟨("with_bytes", none), "with_bytes", "with_bytes", defArgs (top 22), defBody (top 22), defScope (top 22), [], []⟩, ⟨("blank_page", none), "blank_page", "blank_page", defArgs (top 23), defBody (top 23), defScope (top 23), [], []⟩, ⟨("kind_of", none), "kind_of", "kind_of", defArgs (top 24), defBody (top 24), defScope (top 24), [], []⟩, ⟨("next_of", none), "next_of", "next_of", defArgs (top 25), defBody (top 25), defScope (top 25), [], []⟩, ⟨("with_next", none), "with_next", "with_next", defArgs (top 26), defBody (top 26), defScope (top 26), [], []⟩, ⟨("is_key", none), "is_key", "is_key", defArgs (top 31), defBody (top 31), defScope (top 31), [], []⟩, ⟨("check_key", none), "check_key", "check_key", defArgs (top 32), defBody (top 32), defScope (top 32), [], []⟩, ⟨("is_spot", none), "is_spot", "is_spot", defArgs (top 33), defBody (top 33), defScope (top 33), [], []⟩, ⟨("check_entry", none), "check_entry", "check_entry", defArgs (top 34), defBody (top 34), defScope (top 34), [], []⟩, ⟨("entry_bytes", none), "entry_bytes", "entry_bytes", defArgs (top 35), defBody (top 35), defScope (top 35), [], []⟩, ⟨("entry_size", none), "entry_size", "entry_size", defArgs (top 36), defBody (top 36), defScope (top 36), [], []⟩, ⟨("leaf_size", none), "leaf_size", "leaf_size", defArgs (top 37), defBody (top 37), defScope (top 37), [], []⟩, ⟨("inner_size", none), "inner_size", "inner_size", defArgs (top 38), defBody (top 38), defScope (top 38), [], []⟩, ⟨("read_entry", none), "read_entry", "read_entry", defArgs (top 39), defBody (top 39), defScope (top 39), [], []⟩, ⟨("leaf_page", none), "leaf_page", "leaf_page", defArgs (top 40), defBody (top 40), defScope (top 40), [], []⟩, ⟨("leaf_entries", none), "leaf_entries", "leaf_entries", defArgs (top 41), defBody (top 41), defScope (top 41), [], []⟩, ⟨("inner_page", none), "inner_page", "inner_page", defArgs (top 42), defBody (top 42), defScope (top 42), [], []⟩, ⟨("inner_parts", none), "inner_parts", "inner_parts", defArgs (top 43), defBody (top 43), defScope (top 43), [], []⟩, ⟨("check_node", none), "check_node", "check_node", defArgs (top 44), defBody (top 44), defScope (top 44), [], []⟩, ⟨("is_leaf", none), "is_leaf", "is_leaf", defArgs (top 45), defBody (top 45), defScope (top 45), [], []⟩, ⟨("leaf_next", none), "leaf_next", "leaf_next", defArgs (top 46), defBody (top 46), defScope (top 46), [], []⟩, ⟨("half_of", none), "half_of", "half_of", defArgs (top 47), defBody (top 47), defScope (top 47), [], []⟩, ⟨("new_tree", none), "new_tree", "new_tree", defArgs (top 49), defBody (top 49), defScope (top 49), [], []⟩]
def fnL1 : List He.DefD := [⟨("child_at", none), "child_at", "child_at", defArgs (top 50), defBody (top 50), defScope (top 50), [], []⟩, ⟨("put_key", none), "put_key", "put_key", defArgs (top 51), defBody (top 51), defScope (top 51), [], []⟩, ⟨("put_below", none), "put_below", "put_below", defArgs (top 52), defBody (top 52), defScope (top 52), [], []⟩, ⟨("write_leaf", none), "write_leaf", "write_leaf", defArgs (top 53), defBody (top 53), defScope (top 53), [], []⟩, ⟨("write_inner", none), "write_inner", "write_inner", defArgs (top 54), defBody (top 54), defScope (top 54), [], []⟩, ⟨("drop_key", none), "drop_key", "drop_key", defArgs (top 55), defBody (top 55), defScope (top 55), [], []⟩, ⟨("drop_below", none), "drop_below", "drop_below", defArgs (top 56), defBody (top 56), defScope (top 56), [], []⟩, ⟨("is_small", none), "is_small", "is_small", defArgs (top 57), defBody (top 57), defScope (top 57), [], []⟩, ⟨("join_at", none), "join_at", "join_at", defArgs (top 58), defBody (top 58), defScope (top 58), [], []⟩, ⟨("join_two", none), "join_two", "join_two", defArgs (top 59), defBody (top 59), defScope (top 59), [], []⟩, ⟨("leaf_for", none), "leaf_for", "leaf_for", defArgs (top 60), defBody (top 60), defScope (top 60), [], []⟩, ⟨("entries_from", none), "entries_from", "entries_from", defArgs (top 61), defBody (top 61), defScope (top 61), [], []⟩, ⟨("pages_of", none), "pages_of", "pages_of", defArgs (top 62), defBody (top 62), defScope (top 62), [], []⟩, ⟨("format_pages", none), "format_pages", "format_pages", defArgs (top 66), defBody (top 66), defScope (top 66), [], []⟩, ⟨("front_of", none), "front_of", "front_of", defArgs (top 67), defBody (top 67), defScope (top 67), [], []⟩, ⟨("fresh_number", none), "fresh_number", "fresh_number", defArgs (top 68), defBody (top 68), defScope (top 68), [], []⟩, ⟨("free_number", none), "free_number", "free_number", defArgs (top 69), defBody (top 69), defScope (top 69), [], []⟩, ⟨("take_page", none), "take_page", "take_page", defArgs (top 70), defBody (top 70), defScope (top 70), [], []⟩, ⟨("give_page", none), "give_page", "give_page", defArgs (top 71), defBody (top 71), defScope (top 71), [], []⟩, ⟨("check_given", none), "check_given", "check_given", defArgs (top 72), defBody (top 72), defScope (top 72), [], []⟩, ⟨("free_pages", none), "free_pages", "free_pages", defArgs (top 73), defBody (top 73), defScope (top 73), [], []⟩, ⟨("MemoryPages", some "__init__"), "__init__", "MemoryPages.__init__", defArgs (inClass (top 74) 0), defBody (inClass (top 74) 0), defScope (inClass (top 74) 0), [], []⟩, ⟨("MemoryPages", some "read"), "read", "MemoryPages.read", defArgs (inClass (top 74) 1), defBody (inClass (top 74) 1), defScope (inClass (top 74) 1), [], []⟩, ⟨("MemoryPages", some "write"), "write", "MemoryPages.write", defArgs (inClass (top 74) 2), defBody (inClass (top 74) 2), defScope (inClass (top 74) 2), [], []⟩, ⟨("MemoryPages", some "allocate"), "allocate", "MemoryPages.allocate", defArgs (inClass (top 74) 3), defBody (inClass (top 74) 3), defScope (inClass (top 74) 3), [], []⟩, ⟨("MemoryPages", some "release"), "release", "MemoryPages.release", defArgs (inClass (top 74) 4), defBody (inClass (top 74) 4), defScope (inClass (top 74) 4), [], []⟩, ⟨("check_page_number", none), "check_page_number", "check_page_number", defArgs (top 75), defBody (top 75), defScope (top 75), [], []⟩, ⟨("_law_number", none), "_law_number", "_law_number", defArgs (top 77), defBody (top 77), defScope (top 77), [], []⟩, ⟨("_law_take", none), "_law_take", "_law_take", defArgs (top 78), defBody (top 78), defScope (top 78), [], []⟩, ⟨("_law_pick", none), "_law_pick", "_law_pick", defArgs (top 79), defBody (top 79), defScope (top 79), [], []⟩]
def fnL2 : List He.DefD := [⟨("_law_tree_size", none), "_law_tree_size", "_law_tree_size", defArgs (top 80), defBody (top 80), defScope (top 80), [], []⟩, ⟨("_law_half", none), "_law_half", "_law_half", defArgs (top 81), defBody (top 81), defScope (top 81), [], []⟩, ⟨("_law_taken", none), "_law_taken", "_law_taken", defArgs (top 82), defBody (top 82), defScope (top 82), [], []⟩, ⟨("_law_put", none), "_law_put", "_law_put", defArgs (top 83), defBody (top 83), defScope (top 83), [], []⟩, ⟨("_law_bytes", none), "_law_bytes", "_law_bytes", defArgs (top 84), defBody (top 84), defScope (top 84), [], []⟩, ⟨("_law_together", none), "_law_together", "_law_together", defArgs (top 85), defBody (top 85), defScope (top 85), [], []⟩, ⟨("_law_drop", none), "_law_drop", "_law_drop", defArgs (top 86), defBody (top 86), defScope (top 86), [], []⟩, ⟨("_law_listed", none), "_law_listed", "_law_listed", defArgs (top 87), defBody (top 87), defScope (top 87), [], []⟩, ⟨("_law_same", none), "_law_same", "_law_same", defArgs (top 88), defBody (top 88), defScope (top 88), [], []⟩, ⟨("law", none), "law", "law", defArgs (top 89), defBody (top 89), defScope (top 89), [], []⟩]
def fnL : List He.DefD := fnL0 ++ (fnL1 ++ (fnL2))
def looseL0 : List Str := ["TideError", "BadNumber", "BadKey", "BadPage", "BadSpot", "is_number", "check_number", "are_bytes", "bytes_of", "number_of", "PAGE_SIZE", "HEAD", "BLANK", "FRONT", "LEAF", "INNER", "MOST_PAGE", "is_page", "check_page", "with_bytes", "blank_page", "kind_of", "next_of", "with_next", "MOST_KEY", "ROOM", "FEW", "is_key", "check_key", "is_spot"]
def looseL1 : List Str := ["check_entry", "entry_bytes", "entry_size", "leaf_size", "inner_size", "read_entry", "leaf_page", "leaf_entries", "inner_page", "inner_parts", "check_node", "is_leaf", "leaf_next", "half_of", "new_tree", "child_at", "put_key", "put_below", "write_leaf", "write_inner", "drop_key", "drop_below", "is_small", "join_at", "join_two", "leaf_for", "entries_from", "pages_of", "FRESH_AT", "FREE_AT"]
def looseL2 : List Str := ["format_pages", "front_of", "fresh_number", "free_number", "take_page", "give_page", "check_given", "free_pages", "MemoryPages", "check_page_number", "_law_number", "_law_take", "_law_pick", "_law_tree_size", "_law_half", "_law_taken", "_law_put", "_law_bytes", "_law_together", "_law_drop", "_law_listed", "_law_same"]
def looseL : List Str := looseL0 ++ (looseL1 ++ (looseL2))
abbrev Rw : PySem.W.OpenRow := PySem.W.OpenLaw.row PySem.Challenge.rw_tidebase_k07_whole_shapes
abbrev hk : PySem.W.Hook := He.hookD 5 faL fnL
def ob (s : PySem.W.SharedT) : He.AlD := He.obsDG 5 faL fnL (HandSHeadRun.getT s)
theorem ob_eq (s : PySem.W.SharedT) : ob s = hk.obs s.abs := He.obsDG_eq (HandSHeadRun.getT_eq s)
theorem run (w : World) : HandSHeadRun.RunEq Rw (PySem.W.view Rw.prog [89]) hk ob 30000 looseL w := by
  intro os
  kernel_rfl
end K7
namespace K7
open PySem PySem.Spec PyProof.Rows L2
section
variable {K : PySem.W.Frag} {h : Heap} {mg : Str → Option Value}
theorem at_is_number (X : K.In h) (G : h.Ns mainGlobals mg) (c : He.SaysD faL fnL K) : At K mg "is_number" s_is_number := by
  obtain ⟨fd, F⟩ := c.def_ 0 (d := ⟨("is_number", none), "is_number", "is_number", defArgs s_is_number, defBody s_is_number, defScope s_is_number, [], []⟩) rfl
  exact ⟨_, fd, F, He.glo_ok X G (c.fact 0 (f := .glo "is_number") rfl)⟩
theorem at_check_number (X : K.In h) (G : h.Ns mainGlobals mg) (c : He.SaysD faL fnL K) : At K mg "check_number" s_check_number := by
  obtain ⟨fd, F⟩ := c.def_ 1 (d := ⟨("check_number", none), "check_number", "check_number", defArgs s_check_number, defBody s_check_number, defScope s_check_number, [], []⟩) rfl
  exact ⟨_, fd, F, He.glo_ok X G (c.fact 1 (f := .glo "check_number") rfl)⟩
theorem at_are_bytes (X : K.In h) (G : h.Ns mainGlobals mg) (c : He.SaysD faL fnL K) : At K mg "are_bytes" s_are_bytes := by
  obtain ⟨fd, F⟩ := c.def_ 2 (d := ⟨("are_bytes", none), "are_bytes", "are_bytes", defArgs s_are_bytes, defBody s_are_bytes, defScope s_are_bytes, [], []⟩) rfl
  exact ⟨_, fd, F, He.glo_ok X G (c.fact 2 (f := .glo "are_bytes") rfl)⟩
theorem at_bytes_of (X : K.In h) (G : h.Ns mainGlobals mg) (c : He.SaysD faL fnL K) : At K mg "bytes_of" s_bytes_of := by
  obtain ⟨fd, F⟩ := c.def_ 3 (d := ⟨("bytes_of", none), "bytes_of", "bytes_of", defArgs s_bytes_of, defBody s_bytes_of, defScope s_bytes_of, [], []⟩) rfl
  exact ⟨_, fd, F, He.glo_ok X G (c.fact 3 (f := .glo "bytes_of") rfl)⟩
theorem at_number_of (X : K.In h) (G : h.Ns mainGlobals mg) (c : He.SaysD faL fnL K) : At K mg "number_of" s_number_of := by
  obtain ⟨fd, F⟩ := c.def_ 4 (d := ⟨("number_of", none), "number_of", "number_of", defArgs s_number_of, defBody s_number_of, defScope s_number_of, [], []⟩) rfl
  exact ⟨_, fd, F, He.glo_ok X G (c.fact 4 (f := .glo "number_of") rfl)⟩
theorem at_is_page (X : K.In h) (G : h.Ns mainGlobals mg) (c : He.SaysD faL fnL K) : At K mg "is_page" s_is_page := by
  obtain ⟨fd, F⟩ := c.def_ 5 (d := ⟨("is_page", none), "is_page", "is_page", defArgs s_is_page, defBody s_is_page, defScope s_is_page, [], []⟩) rfl
  exact ⟨_, fd, F, He.glo_ok X G (c.fact 5 (f := .glo "is_page") rfl)⟩
theorem at_check_page (X : K.In h) (G : h.Ns mainGlobals mg) (c : He.SaysD faL fnL K) : At K mg "check_page" s_check_page := by
  obtain ⟨fd, F⟩ := c.def_ 6 (d := ⟨("check_page", none), "check_page", "check_page", defArgs s_check_page, defBody s_check_page, defScope s_check_page, [], []⟩) rfl
  exact ⟨_, fd, F, He.glo_ok X G (c.fact 6 (f := .glo "check_page") rfl)⟩
theorem at_with_bytes (X : K.In h) (G : h.Ns mainGlobals mg) (c : He.SaysD faL fnL K) : At K mg "with_bytes" s_with_bytes := by
  obtain ⟨fd, F⟩ := c.def_ 7 (d := ⟨("with_bytes", none), "with_bytes", "with_bytes", defArgs s_with_bytes, defBody s_with_bytes, defScope s_with_bytes, [], []⟩) rfl
  exact ⟨_, fd, F, He.glo_ok X G (c.fact 7 (f := .glo "with_bytes") rfl)⟩
theorem at_blank_page (X : K.In h) (G : h.Ns mainGlobals mg) (c : He.SaysD faL fnL K) : At K mg "blank_page" s_blank_page := by
  obtain ⟨fd, F⟩ := c.def_ 8 (d := ⟨("blank_page", none), "blank_page", "blank_page", defArgs s_blank_page, defBody s_blank_page, defScope s_blank_page, [], []⟩) rfl
  exact ⟨_, fd, F, He.glo_ok X G (c.fact 8 (f := .glo "blank_page") rfl)⟩
theorem at_kind_of (X : K.In h) (G : h.Ns mainGlobals mg) (c : He.SaysD faL fnL K) : At K mg "kind_of" s_kind_of := by
  obtain ⟨fd, F⟩ := c.def_ 9 (d := ⟨("kind_of", none), "kind_of", "kind_of", defArgs s_kind_of, defBody s_kind_of, defScope s_kind_of, [], []⟩) rfl
  exact ⟨_, fd, F, He.glo_ok X G (c.fact 9 (f := .glo "kind_of") rfl)⟩
theorem at_next_of (X : K.In h) (G : h.Ns mainGlobals mg) (c : He.SaysD faL fnL K) : At K mg "next_of" s_next_of := by
  obtain ⟨fd, F⟩ := c.def_ 10 (d := ⟨("next_of", none), "next_of", "next_of", defArgs s_next_of, defBody s_next_of, defScope s_next_of, [], []⟩) rfl
  exact ⟨_, fd, F, He.glo_ok X G (c.fact 10 (f := .glo "next_of") rfl)⟩
theorem at_with_next (X : K.In h) (G : h.Ns mainGlobals mg) (c : He.SaysD faL fnL K) : At K mg "with_next" s_with_next := by
  obtain ⟨fd, F⟩ := c.def_ 11 (d := ⟨("with_next", none), "with_next", "with_next", defArgs s_with_next, defBody s_with_next, defScope s_with_next, [], []⟩) rfl
  exact ⟨_, fd, F, He.glo_ok X G (c.fact 11 (f := .glo "with_next") rfl)⟩
theorem at_is_key (X : K.In h) (G : h.Ns mainGlobals mg) (c : He.SaysD faL fnL K) : At K mg "is_key" s_is_key := by
  obtain ⟨fd, F⟩ := c.def_ 12 (d := ⟨("is_key", none), "is_key", "is_key", defArgs s_is_key, defBody s_is_key, defScope s_is_key, [], []⟩) rfl
  exact ⟨_, fd, F, He.glo_ok X G (c.fact 12 (f := .glo "is_key") rfl)⟩
theorem at_check_key (X : K.In h) (G : h.Ns mainGlobals mg) (c : He.SaysD faL fnL K) : At K mg "check_key" s_check_key := by
  obtain ⟨fd, F⟩ := c.def_ 13 (d := ⟨("check_key", none), "check_key", "check_key", defArgs s_check_key, defBody s_check_key, defScope s_check_key, [], []⟩) rfl
  exact ⟨_, fd, F, He.glo_ok X G (c.fact 13 (f := .glo "check_key") rfl)⟩
theorem at_is_spot (X : K.In h) (G : h.Ns mainGlobals mg) (c : He.SaysD faL fnL K) : At K mg "is_spot" s_is_spot := by
  obtain ⟨fd, F⟩ := c.def_ 14 (d := ⟨("is_spot", none), "is_spot", "is_spot", defArgs s_is_spot, defBody s_is_spot, defScope s_is_spot, [], []⟩) rfl
  exact ⟨_, fd, F, He.glo_ok X G (c.fact 14 (f := .glo "is_spot") rfl)⟩
theorem at_check_entry (X : K.In h) (G : h.Ns mainGlobals mg) (c : He.SaysD faL fnL K) : At K mg "check_entry" s_check_entry := by
  obtain ⟨fd, F⟩ := c.def_ 15 (d := ⟨("check_entry", none), "check_entry", "check_entry", defArgs s_check_entry, defBody s_check_entry, defScope s_check_entry, [], []⟩) rfl
  exact ⟨_, fd, F, He.glo_ok X G (c.fact 15 (f := .glo "check_entry") rfl)⟩
theorem at_entry_bytes (X : K.In h) (G : h.Ns mainGlobals mg) (c : He.SaysD faL fnL K) : At K mg "entry_bytes" s_entry_bytes := by
  obtain ⟨fd, F⟩ := c.def_ 16 (d := ⟨("entry_bytes", none), "entry_bytes", "entry_bytes", defArgs s_entry_bytes, defBody s_entry_bytes, defScope s_entry_bytes, [], []⟩) rfl
  exact ⟨_, fd, F, He.glo_ok X G (c.fact 16 (f := .glo "entry_bytes") rfl)⟩
theorem at_entry_size (X : K.In h) (G : h.Ns mainGlobals mg) (c : He.SaysD faL fnL K) : At K mg "entry_size" s_entry_size := by
  obtain ⟨fd, F⟩ := c.def_ 17 (d := ⟨("entry_size", none), "entry_size", "entry_size", defArgs s_entry_size, defBody s_entry_size, defScope s_entry_size, [], []⟩) rfl
  exact ⟨_, fd, F, He.glo_ok X G (c.fact 17 (f := .glo "entry_size") rfl)⟩
theorem at_leaf_size (X : K.In h) (G : h.Ns mainGlobals mg) (c : He.SaysD faL fnL K) : At K mg "leaf_size" s_leaf_size := by
  obtain ⟨fd, F⟩ := c.def_ 18 (d := ⟨("leaf_size", none), "leaf_size", "leaf_size", defArgs s_leaf_size, defBody s_leaf_size, defScope s_leaf_size, [], []⟩) rfl
  exact ⟨_, fd, F, He.glo_ok X G (c.fact 18 (f := .glo "leaf_size") rfl)⟩
theorem at_inner_size (X : K.In h) (G : h.Ns mainGlobals mg) (c : He.SaysD faL fnL K) : At K mg "inner_size" s_inner_size := by
  obtain ⟨fd, F⟩ := c.def_ 19 (d := ⟨("inner_size", none), "inner_size", "inner_size", defArgs s_inner_size, defBody s_inner_size, defScope s_inner_size, [], []⟩) rfl
  exact ⟨_, fd, F, He.glo_ok X G (c.fact 19 (f := .glo "inner_size") rfl)⟩
theorem at_read_entry (X : K.In h) (G : h.Ns mainGlobals mg) (c : He.SaysD faL fnL K) : At K mg "read_entry" s_read_entry := by
  obtain ⟨fd, F⟩ := c.def_ 20 (d := ⟨("read_entry", none), "read_entry", "read_entry", defArgs s_read_entry, defBody s_read_entry, defScope s_read_entry, [], []⟩) rfl
  exact ⟨_, fd, F, He.glo_ok X G (c.fact 20 (f := .glo "read_entry") rfl)⟩
theorem at_leaf_page (X : K.In h) (G : h.Ns mainGlobals mg) (c : He.SaysD faL fnL K) : At K mg "leaf_page" s_leaf_page := by
  obtain ⟨fd, F⟩ := c.def_ 21 (d := ⟨("leaf_page", none), "leaf_page", "leaf_page", defArgs s_leaf_page, defBody s_leaf_page, defScope s_leaf_page, [], []⟩) rfl
  exact ⟨_, fd, F, He.glo_ok X G (c.fact 21 (f := .glo "leaf_page") rfl)⟩
theorem at_leaf_entries (X : K.In h) (G : h.Ns mainGlobals mg) (c : He.SaysD faL fnL K) : At K mg "leaf_entries" s_leaf_entries := by
  obtain ⟨fd, F⟩ := c.def_ 22 (d := ⟨("leaf_entries", none), "leaf_entries", "leaf_entries", defArgs s_leaf_entries, defBody s_leaf_entries, defScope s_leaf_entries, [], []⟩) rfl
  exact ⟨_, fd, F, He.glo_ok X G (c.fact 22 (f := .glo "leaf_entries") rfl)⟩
theorem at_inner_page (X : K.In h) (G : h.Ns mainGlobals mg) (c : He.SaysD faL fnL K) : At K mg "inner_page" s_inner_page := by
  obtain ⟨fd, F⟩ := c.def_ 23 (d := ⟨("inner_page", none), "inner_page", "inner_page", defArgs s_inner_page, defBody s_inner_page, defScope s_inner_page, [], []⟩) rfl
  exact ⟨_, fd, F, He.glo_ok X G (c.fact 23 (f := .glo "inner_page") rfl)⟩
theorem at_inner_parts (X : K.In h) (G : h.Ns mainGlobals mg) (c : He.SaysD faL fnL K) : At K mg "inner_parts" s_inner_parts := by
  obtain ⟨fd, F⟩ := c.def_ 24 (d := ⟨("inner_parts", none), "inner_parts", "inner_parts", defArgs s_inner_parts, defBody s_inner_parts, defScope s_inner_parts, [], []⟩) rfl
  exact ⟨_, fd, F, He.glo_ok X G (c.fact 24 (f := .glo "inner_parts") rfl)⟩
theorem at_check_node (X : K.In h) (G : h.Ns mainGlobals mg) (c : He.SaysD faL fnL K) : At K mg "check_node" s_check_node := by
  obtain ⟨fd, F⟩ := c.def_ 25 (d := ⟨("check_node", none), "check_node", "check_node", defArgs s_check_node, defBody s_check_node, defScope s_check_node, [], []⟩) rfl
  exact ⟨_, fd, F, He.glo_ok X G (c.fact 25 (f := .glo "check_node") rfl)⟩
theorem at_is_leaf (X : K.In h) (G : h.Ns mainGlobals mg) (c : He.SaysD faL fnL K) : At K mg "is_leaf" s_is_leaf := by
  obtain ⟨fd, F⟩ := c.def_ 26 (d := ⟨("is_leaf", none), "is_leaf", "is_leaf", defArgs s_is_leaf, defBody s_is_leaf, defScope s_is_leaf, [], []⟩) rfl
  exact ⟨_, fd, F, He.glo_ok X G (c.fact 26 (f := .glo "is_leaf") rfl)⟩
theorem at_leaf_next (X : K.In h) (G : h.Ns mainGlobals mg) (c : He.SaysD faL fnL K) : At K mg "leaf_next" s_leaf_next := by
  obtain ⟨fd, F⟩ := c.def_ 27 (d := ⟨("leaf_next", none), "leaf_next", "leaf_next", defArgs s_leaf_next, defBody s_leaf_next, defScope s_leaf_next, [], []⟩) rfl
  exact ⟨_, fd, F, He.glo_ok X G (c.fact 27 (f := .glo "leaf_next") rfl)⟩
theorem at_half_of (X : K.In h) (G : h.Ns mainGlobals mg) (c : He.SaysD faL fnL K) : At K mg "half_of" s_half_of := by
  obtain ⟨fd, F⟩ := c.def_ 28 (d := ⟨("half_of", none), "half_of", "half_of", defArgs s_half_of, defBody s_half_of, defScope s_half_of, [], []⟩) rfl
  exact ⟨_, fd, F, He.glo_ok X G (c.fact 28 (f := .glo "half_of") rfl)⟩
theorem at_new_tree (X : K.In h) (G : h.Ns mainGlobals mg) (c : He.SaysD faL fnL K) : At K mg "new_tree" s_new_tree := by
  obtain ⟨fd, F⟩ := c.def_ 29 (d := ⟨("new_tree", none), "new_tree", "new_tree", defArgs s_new_tree, defBody s_new_tree, defScope s_new_tree, [], []⟩) rfl
  exact ⟨_, fd, F, He.glo_ok X G (c.fact 29 (f := .glo "new_tree") rfl)⟩
theorem at_child_at (X : K.In h) (G : h.Ns mainGlobals mg) (c : He.SaysD faL fnL K) : At K mg "child_at" s_child_at := by
  obtain ⟨fd, F⟩ := c.def_ 30 (d := ⟨("child_at", none), "child_at", "child_at", defArgs s_child_at, defBody s_child_at, defScope s_child_at, [], []⟩) rfl
  exact ⟨_, fd, F, He.glo_ok X G (c.fact 30 (f := .glo "child_at") rfl)⟩
theorem at_put_key (X : K.In h) (G : h.Ns mainGlobals mg) (c : He.SaysD faL fnL K) : At K mg "put_key" s_put_key := by
  obtain ⟨fd, F⟩ := c.def_ 31 (d := ⟨("put_key", none), "put_key", "put_key", defArgs s_put_key, defBody s_put_key, defScope s_put_key, [], []⟩) rfl
  exact ⟨_, fd, F, He.glo_ok X G (c.fact 31 (f := .glo "put_key") rfl)⟩
theorem at_put_below (X : K.In h) (G : h.Ns mainGlobals mg) (c : He.SaysD faL fnL K) : At K mg "put_below" s_put_below := by
  obtain ⟨fd, F⟩ := c.def_ 32 (d := ⟨("put_below", none), "put_below", "put_below", defArgs s_put_below, defBody s_put_below, defScope s_put_below, [], []⟩) rfl
  exact ⟨_, fd, F, He.glo_ok X G (c.fact 32 (f := .glo "put_below") rfl)⟩
theorem at_write_leaf (X : K.In h) (G : h.Ns mainGlobals mg) (c : He.SaysD faL fnL K) : At K mg "write_leaf" s_write_leaf := by
  obtain ⟨fd, F⟩ := c.def_ 33 (d := ⟨("write_leaf", none), "write_leaf", "write_leaf", defArgs s_write_leaf, defBody s_write_leaf, defScope s_write_leaf, [], []⟩) rfl
  exact ⟨_, fd, F, He.glo_ok X G (c.fact 33 (f := .glo "write_leaf") rfl)⟩
theorem at_write_inner (X : K.In h) (G : h.Ns mainGlobals mg) (c : He.SaysD faL fnL K) : At K mg "write_inner" s_write_inner := by
  obtain ⟨fd, F⟩ := c.def_ 34 (d := ⟨("write_inner", none), "write_inner", "write_inner", defArgs s_write_inner, defBody s_write_inner, defScope s_write_inner, [], []⟩) rfl
  exact ⟨_, fd, F, He.glo_ok X G (c.fact 34 (f := .glo "write_inner") rfl)⟩
theorem at_drop_key (X : K.In h) (G : h.Ns mainGlobals mg) (c : He.SaysD faL fnL K) : At K mg "drop_key" s_drop_key := by
  obtain ⟨fd, F⟩ := c.def_ 35 (d := ⟨("drop_key", none), "drop_key", "drop_key", defArgs s_drop_key, defBody s_drop_key, defScope s_drop_key, [], []⟩) rfl
  exact ⟨_, fd, F, He.glo_ok X G (c.fact 35 (f := .glo "drop_key") rfl)⟩
theorem at_drop_below (X : K.In h) (G : h.Ns mainGlobals mg) (c : He.SaysD faL fnL K) : At K mg "drop_below" s_drop_below := by
  obtain ⟨fd, F⟩ := c.def_ 36 (d := ⟨("drop_below", none), "drop_below", "drop_below", defArgs s_drop_below, defBody s_drop_below, defScope s_drop_below, [], []⟩) rfl
  exact ⟨_, fd, F, He.glo_ok X G (c.fact 36 (f := .glo "drop_below") rfl)⟩
theorem at_is_small (X : K.In h) (G : h.Ns mainGlobals mg) (c : He.SaysD faL fnL K) : At K mg "is_small" s_is_small := by
  obtain ⟨fd, F⟩ := c.def_ 37 (d := ⟨("is_small", none), "is_small", "is_small", defArgs s_is_small, defBody s_is_small, defScope s_is_small, [], []⟩) rfl
  exact ⟨_, fd, F, He.glo_ok X G (c.fact 37 (f := .glo "is_small") rfl)⟩
theorem at_join_at (X : K.In h) (G : h.Ns mainGlobals mg) (c : He.SaysD faL fnL K) : At K mg "join_at" s_join_at := by
  obtain ⟨fd, F⟩ := c.def_ 38 (d := ⟨("join_at", none), "join_at", "join_at", defArgs s_join_at, defBody s_join_at, defScope s_join_at, [], []⟩) rfl
  exact ⟨_, fd, F, He.glo_ok X G (c.fact 38 (f := .glo "join_at") rfl)⟩
theorem at_join_two (X : K.In h) (G : h.Ns mainGlobals mg) (c : He.SaysD faL fnL K) : At K mg "join_two" s_join_two := by
  obtain ⟨fd, F⟩ := c.def_ 39 (d := ⟨("join_two", none), "join_two", "join_two", defArgs s_join_two, defBody s_join_two, defScope s_join_two, [], []⟩) rfl
  exact ⟨_, fd, F, He.glo_ok X G (c.fact 39 (f := .glo "join_two") rfl)⟩
theorem at_leaf_for (X : K.In h) (G : h.Ns mainGlobals mg) (c : He.SaysD faL fnL K) : At K mg "leaf_for" s_leaf_for := by
  obtain ⟨fd, F⟩ := c.def_ 40 (d := ⟨("leaf_for", none), "leaf_for", "leaf_for", defArgs s_leaf_for, defBody s_leaf_for, defScope s_leaf_for, [], []⟩) rfl
  exact ⟨_, fd, F, He.glo_ok X G (c.fact 40 (f := .glo "leaf_for") rfl)⟩
theorem at_entries_from (X : K.In h) (G : h.Ns mainGlobals mg) (c : He.SaysD faL fnL K) : At K mg "entries_from" s_entries_from := by
  obtain ⟨fd, F⟩ := c.def_ 41 (d := ⟨("entries_from", none), "entries_from", "entries_from", defArgs s_entries_from, defBody s_entries_from, defScope s_entries_from, [], []⟩) rfl
  exact ⟨_, fd, F, He.glo_ok X G (c.fact 41 (f := .glo "entries_from") rfl)⟩
theorem at_pages_of (X : K.In h) (G : h.Ns mainGlobals mg) (c : He.SaysD faL fnL K) : At K mg "pages_of" s_pages_of := by
  obtain ⟨fd, F⟩ := c.def_ 42 (d := ⟨("pages_of", none), "pages_of", "pages_of", defArgs s_pages_of, defBody s_pages_of, defScope s_pages_of, [], []⟩) rfl
  exact ⟨_, fd, F, He.glo_ok X G (c.fact 42 (f := .glo "pages_of") rfl)⟩
theorem at_format_pages (X : K.In h) (G : h.Ns mainGlobals mg) (c : He.SaysD faL fnL K) : At K mg "format_pages" s_format_pages := by
  obtain ⟨fd, F⟩ := c.def_ 43 (d := ⟨("format_pages", none), "format_pages", "format_pages", defArgs s_format_pages, defBody s_format_pages, defScope s_format_pages, [], []⟩) rfl
  exact ⟨_, fd, F, He.glo_ok X G (c.fact 43 (f := .glo "format_pages") rfl)⟩
theorem at_front_of (X : K.In h) (G : h.Ns mainGlobals mg) (c : He.SaysD faL fnL K) : At K mg "front_of" s_front_of := by
  obtain ⟨fd, F⟩ := c.def_ 44 (d := ⟨("front_of", none), "front_of", "front_of", defArgs s_front_of, defBody s_front_of, defScope s_front_of, [], []⟩) rfl
  exact ⟨_, fd, F, He.glo_ok X G (c.fact 44 (f := .glo "front_of") rfl)⟩
theorem at_fresh_number (X : K.In h) (G : h.Ns mainGlobals mg) (c : He.SaysD faL fnL K) : At K mg "fresh_number" s_fresh_number := by
  obtain ⟨fd, F⟩ := c.def_ 45 (d := ⟨("fresh_number", none), "fresh_number", "fresh_number", defArgs s_fresh_number, defBody s_fresh_number, defScope s_fresh_number, [], []⟩) rfl
  exact ⟨_, fd, F, He.glo_ok X G (c.fact 45 (f := .glo "fresh_number") rfl)⟩
theorem at_free_number (X : K.In h) (G : h.Ns mainGlobals mg) (c : He.SaysD faL fnL K) : At K mg "free_number" s_free_number := by
  obtain ⟨fd, F⟩ := c.def_ 46 (d := ⟨("free_number", none), "free_number", "free_number", defArgs s_free_number, defBody s_free_number, defScope s_free_number, [], []⟩) rfl
  exact ⟨_, fd, F, He.glo_ok X G (c.fact 46 (f := .glo "free_number") rfl)⟩
theorem at_take_page (X : K.In h) (G : h.Ns mainGlobals mg) (c : He.SaysD faL fnL K) : At K mg "take_page" s_take_page := by
  obtain ⟨fd, F⟩ := c.def_ 47 (d := ⟨("take_page", none), "take_page", "take_page", defArgs s_take_page, defBody s_take_page, defScope s_take_page, [], []⟩) rfl
  exact ⟨_, fd, F, He.glo_ok X G (c.fact 47 (f := .glo "take_page") rfl)⟩
theorem at_give_page (X : K.In h) (G : h.Ns mainGlobals mg) (c : He.SaysD faL fnL K) : At K mg "give_page" s_give_page := by
  obtain ⟨fd, F⟩ := c.def_ 48 (d := ⟨("give_page", none), "give_page", "give_page", defArgs s_give_page, defBody s_give_page, defScope s_give_page, [], []⟩) rfl
  exact ⟨_, fd, F, He.glo_ok X G (c.fact 48 (f := .glo "give_page") rfl)⟩
theorem at_check_given (X : K.In h) (G : h.Ns mainGlobals mg) (c : He.SaysD faL fnL K) : At K mg "check_given" s_check_given := by
  obtain ⟨fd, F⟩ := c.def_ 49 (d := ⟨("check_given", none), "check_given", "check_given", defArgs s_check_given, defBody s_check_given, defScope s_check_given, [], []⟩) rfl
  exact ⟨_, fd, F, He.glo_ok X G (c.fact 49 (f := .glo "check_given") rfl)⟩
theorem at_free_pages (X : K.In h) (G : h.Ns mainGlobals mg) (c : He.SaysD faL fnL K) : At K mg "free_pages" s_free_pages := by
  obtain ⟨fd, F⟩ := c.def_ 50 (d := ⟨("free_pages", none), "free_pages", "free_pages", defArgs s_free_pages, defBody s_free_pages, defScope s_free_pages, [], []⟩) rfl
  exact ⟨_, fd, F, He.glo_ok X G (c.fact 50 (f := .glo "free_pages") rfl)⟩
theorem at_MP___init__ (c : He.SaysD faL fnL K) : AtM K (He.ga K "MemoryPages") "__init__" "MemoryPages.__init__" s_MP___init__ := by
  obtain ⟨fd, F⟩ := c.def_ 51 (d := ⟨("MemoryPages", some "__init__"), "__init__", "MemoryPages.__init__", defArgs s_MP___init__, defBody s_MP___init__, defScope s_MP___init__, [], []⟩) rfl
  have M := He.mkr_ok (c.fact 94 (f := .mkr "MemoryPages") rfl)
  exact ⟨_, fd, F, ⟨M.init, M.fn, F.kp⟩⟩
theorem at_MP_read (c : He.SaysD faL fnL K) : AtM K (He.ga K "MemoryPages") "read" "MemoryPages.read" s_MP_read := by
  obtain ⟨fd, F⟩ := c.def_ 52 (d := ⟨("MemoryPages", some "read"), "read", "MemoryPages.read", defArgs s_MP_read, defBody s_MP_read, defScope s_MP_read, [], []⟩) rfl
  exact ⟨_, fd, F, He.meth_ok (c.fact 95 (f := .meth "MemoryPages" "read") rfl)⟩
theorem at_MP_write (c : He.SaysD faL fnL K) : AtM K (He.ga K "MemoryPages") "write" "MemoryPages.write" s_MP_write := by
  obtain ⟨fd, F⟩ := c.def_ 53 (d := ⟨("MemoryPages", some "write"), "write", "MemoryPages.write", defArgs s_MP_write, defBody s_MP_write, defScope s_MP_write, [], []⟩) rfl
  exact ⟨_, fd, F, He.meth_ok (c.fact 96 (f := .meth "MemoryPages" "write") rfl)⟩
theorem at_MP_allocate (c : He.SaysD faL fnL K) : AtM K (He.ga K "MemoryPages") "allocate" "MemoryPages.allocate" s_MP_allocate := by
  obtain ⟨fd, F⟩ := c.def_ 54 (d := ⟨("MemoryPages", some "allocate"), "allocate", "MemoryPages.allocate", defArgs s_MP_allocate, defBody s_MP_allocate, defScope s_MP_allocate, [], []⟩) rfl
  exact ⟨_, fd, F, He.meth_ok (c.fact 97 (f := .meth "MemoryPages" "allocate") rfl)⟩
theorem at_MP_release (c : He.SaysD faL fnL K) : AtM K (He.ga K "MemoryPages") "release" "MemoryPages.release" s_MP_release := by
  obtain ⟨fd, F⟩ := c.def_ 55 (d := ⟨("MemoryPages", some "release"), "release", "MemoryPages.release", defArgs s_MP_release, defBody s_MP_release, defScope s_MP_release, [], []⟩) rfl
  exact ⟨_, fd, F, He.meth_ok (c.fact 98 (f := .meth "MemoryPages" "release") rfl)⟩
theorem at_check_page_number (X : K.In h) (G : h.Ns mainGlobals mg) (c : He.SaysD faL fnL K) : At K mg "check_page_number" s_check_page_number := by
  obtain ⟨fd, F⟩ := c.def_ 56 (d := ⟨("check_page_number", none), "check_page_number", "check_page_number", defArgs s_check_page_number, defBody s_check_page_number, defScope s_check_page_number, [], []⟩) rfl
  exact ⟨_, fd, F, He.glo_ok X G (c.fact 51 (f := .glo "check_page_number") rfl)⟩
theorem at__law_number (X : K.In h) (G : h.Ns mainGlobals mg) (c : He.SaysD faL fnL K) : At K mg "_law_number" s__law_number := by
  obtain ⟨fd, F⟩ := c.def_ 57 (d := ⟨("_law_number", none), "_law_number", "_law_number", defArgs s__law_number, defBody s__law_number, defScope s__law_number, [], []⟩) rfl
  exact ⟨_, fd, F, He.glo_ok X G (c.fact 52 (f := .glo "_law_number") rfl)⟩
theorem at__law_take (X : K.In h) (G : h.Ns mainGlobals mg) (c : He.SaysD faL fnL K) : At K mg "_law_take" s__law_take := by
  obtain ⟨fd, F⟩ := c.def_ 58 (d := ⟨("_law_take", none), "_law_take", "_law_take", defArgs s__law_take, defBody s__law_take, defScope s__law_take, [], []⟩) rfl
  exact ⟨_, fd, F, He.glo_ok X G (c.fact 53 (f := .glo "_law_take") rfl)⟩
theorem at__law_pick (X : K.In h) (G : h.Ns mainGlobals mg) (c : He.SaysD faL fnL K) : At K mg "_law_pick" s__law_pick := by
  obtain ⟨fd, F⟩ := c.def_ 59 (d := ⟨("_law_pick", none), "_law_pick", "_law_pick", defArgs s__law_pick, defBody s__law_pick, defScope s__law_pick, [], []⟩) rfl
  exact ⟨_, fd, F, He.glo_ok X G (c.fact 54 (f := .glo "_law_pick") rfl)⟩
theorem at__law_tree_size (X : K.In h) (G : h.Ns mainGlobals mg) (c : He.SaysD faL fnL K) : At K mg "_law_tree_size" s__law_tree_size := by
  obtain ⟨fd, F⟩ := c.def_ 60 (d := ⟨("_law_tree_size", none), "_law_tree_size", "_law_tree_size", defArgs s__law_tree_size, defBody s__law_tree_size, defScope s__law_tree_size, [], []⟩) rfl
  exact ⟨_, fd, F, He.glo_ok X G (c.fact 55 (f := .glo "_law_tree_size") rfl)⟩
theorem at__law_half (X : K.In h) (G : h.Ns mainGlobals mg) (c : He.SaysD faL fnL K) : At K mg "_law_half" s__law_half := by
  obtain ⟨fd, F⟩ := c.def_ 61 (d := ⟨("_law_half", none), "_law_half", "_law_half", defArgs s__law_half, defBody s__law_half, defScope s__law_half, [], []⟩) rfl
  exact ⟨_, fd, F, He.glo_ok X G (c.fact 56 (f := .glo "_law_half") rfl)⟩
theorem at__law_taken (X : K.In h) (G : h.Ns mainGlobals mg) (c : He.SaysD faL fnL K) : At K mg "_law_taken" s__law_taken := by
  obtain ⟨fd, F⟩ := c.def_ 62 (d := ⟨("_law_taken", none), "_law_taken", "_law_taken", defArgs s__law_taken, defBody s__law_taken, defScope s__law_taken, [], []⟩) rfl
  exact ⟨_, fd, F, He.glo_ok X G (c.fact 57 (f := .glo "_law_taken") rfl)⟩
theorem at__law_put (X : K.In h) (G : h.Ns mainGlobals mg) (c : He.SaysD faL fnL K) : At K mg "_law_put" s__law_put := by
  obtain ⟨fd, F⟩ := c.def_ 63 (d := ⟨("_law_put", none), "_law_put", "_law_put", defArgs s__law_put, defBody s__law_put, defScope s__law_put, [], []⟩) rfl
  exact ⟨_, fd, F, He.glo_ok X G (c.fact 58 (f := .glo "_law_put") rfl)⟩
theorem at__law_bytes (X : K.In h) (G : h.Ns mainGlobals mg) (c : He.SaysD faL fnL K) : At K mg "_law_bytes" s__law_bytes := by
  obtain ⟨fd, F⟩ := c.def_ 64 (d := ⟨("_law_bytes", none), "_law_bytes", "_law_bytes", defArgs s__law_bytes, defBody s__law_bytes, defScope s__law_bytes, [], []⟩) rfl
  exact ⟨_, fd, F, He.glo_ok X G (c.fact 59 (f := .glo "_law_bytes") rfl)⟩
theorem at__law_together (X : K.In h) (G : h.Ns mainGlobals mg) (c : He.SaysD faL fnL K) : At K mg "_law_together" s__law_together := by
  obtain ⟨fd, F⟩ := c.def_ 65 (d := ⟨("_law_together", none), "_law_together", "_law_together", defArgs s__law_together, defBody s__law_together, defScope s__law_together, [], []⟩) rfl
  exact ⟨_, fd, F, He.glo_ok X G (c.fact 60 (f := .glo "_law_together") rfl)⟩
theorem at__law_drop (X : K.In h) (G : h.Ns mainGlobals mg) (c : He.SaysD faL fnL K) : At K mg "_law_drop" s__law_drop := by
  obtain ⟨fd, F⟩ := c.def_ 66 (d := ⟨("_law_drop", none), "_law_drop", "_law_drop", defArgs s__law_drop, defBody s__law_drop, defScope s__law_drop, [], []⟩) rfl
  exact ⟨_, fd, F, He.glo_ok X G (c.fact 61 (f := .glo "_law_drop") rfl)⟩
theorem at__law_listed (X : K.In h) (G : h.Ns mainGlobals mg) (c : He.SaysD faL fnL K) : At K mg "_law_listed" s__law_listed := by
  obtain ⟨fd, F⟩ := c.def_ 67 (d := ⟨("_law_listed", none), "_law_listed", "_law_listed", defArgs s__law_listed, defBody s__law_listed, defScope s__law_listed, [], []⟩) rfl
  exact ⟨_, fd, F, He.glo_ok X G (c.fact 62 (f := .glo "_law_listed") rfl)⟩
theorem at__law_same (X : K.In h) (G : h.Ns mainGlobals mg) (c : He.SaysD faL fnL K) : At K mg "_law_same" s__law_same := by
  obtain ⟨fd, F⟩ := c.def_ 68 (d := ⟨("_law_same", none), "_law_same", "_law_same", defArgs s__law_same, defBody s__law_same, defScope s__law_same, [], []⟩) rfl
  exact ⟨_, fd, F, He.glo_ok X G (c.fact 63 (f := .glo "_law_same") rfl)⟩
theorem txt (X : K.In h) (G : h.Ns mainGlobals mg) (c : He.SaysD faL fnL K) : Txt K mg (He.ga K "MemoryPages") where
  cl := He.cls_ok (c.fact 92 (f := .cls "MemoryPages") rfl)
  nP := He.noat_ok (c.fact 93 (f := .noat "MemoryPages" "pages") rfl)
  mgC := He.glo_ok X G (c.fact 65 (f := .glo "MemoryPages") rfl)
  len := He.free_ok X G (c.fact 66 (f := .free "len") rfl)
  range := He.free_ok X G (c.fact 67 (f := .free "range") rfl)
  sum := He.free_ok X G (c.fact 68 (f := .free "sum") rfl)
  isinstance := He.free_ok X G (c.fact 69 (f := .free "isinstance") rfl)
  int := He.free_ok X G (c.fact 70 (f := .free "int") rfl)
  bool := He.free_ok X G (c.fact 71 (f := .free "bool") rfl)
  tuple := He.free_ok X G (c.fact 72 (f := .free "tuple") rfl)
  list := He.free_ok X G (c.fact 73 (f := .free "list") rfl)
  dict := He.free_ok X G (c.fact 74 (f := .free "dict") rfl)
  zip := He.free_ok X G (c.fact 75 (f := .free "zip") rfl)
  sorted := He.free_ok X G (c.fact 76 (f := .free "sorted") rfl)
  min := He.free_ok X G (c.fact 77 (f := .free "min") rfl)
  abs := He.free_ok X G (c.fact 78 (f := .free "abs") rfl)
  all := He.free_ok X G (c.fact 79 (f := .free "all") rfl)
  c_PAGE_SIZE := He.int_ok X G (c.fact 80 (f := .int "PAGE_SIZE" 128) rfl)
  c_HEAD := He.int_ok X G (c.fact 81 (f := .int "HEAD" 12) rfl)
  c_BLANK := He.int_ok X G (c.fact 82 (f := .int "BLANK" 0) rfl)
  c_FRONT := He.int_ok X G (c.fact 83 (f := .int "FRONT" 1) rfl)
  c_LEAF := He.int_ok X G (c.fact 84 (f := .int "LEAF" 3) rfl)
  c_INNER := He.int_ok X G (c.fact 85 (f := .int "INNER" 4) rfl)
  c_MOST_PAGE := He.int_ok X G (c.fact 86 (f := .int "MOST_PAGE" 65535) rfl)
  c_MOST_KEY := He.int_ok X G (c.fact 87 (f := .int "MOST_KEY" 20) rfl)
  c_ROOM := He.int_ok X G (c.fact 88 (f := .int "ROOM" 116) rfl)
  c_FEW := He.int_ok X G (c.fact 89 (f := .int "FEW" 30) rfl)
  c_FRESH_AT := He.int_ok X G (c.fact 90 (f := .int "FRESH_AT" 12) rfl)
  c_FREE_AT := He.int_ok X G (c.fact 91 (f := .int "FREE_AT" 14) rfl)
end
theorem facts {P : Program} {w : World} {K : PySem.W.Frag} {h : Heap} {mg : Str → Option Value} {f : Addr} (X : K.In h) (G : h.Ns mainGlobals mg) (hfa : mg ("law" : Str) = some (.ref f)) (c : He.SaysD faL fnL K) :
    ∃ fd : FuncData, (∀ (s : Shared) (v : Value), BindsTo s fd ⟨[v], []⟩ [("_law_script", v)]) ∧ ∀ base : Heap, K.In base → base.Ns mainGlobals mg → FnOk P w K mg base CX0 74 f fd ["_law_script"] (spLaw K) := by
  obtain ⟨fd, F⟩ := c.def_ 69 (d := ⟨("law", none), "law", "law", defArgs s_law, defBody s_law, defScope s_law, [], []⟩) rfl
  have e := hfa.symm.trans (He.glo_ok X G (c.fact 64 (f := .glo "law") rfl))
  cases e
  have b := FunD.bindsA (ps := ["_law_script"]) F fun _ _ _ _ _ _ us hl => match us, hl with | [_], _ => rfl
  have T := txt X G c
  refine ⟨fd, fun s v => b s [v] rfl, fun base _ _ => ?_⟩
  have D_with_bytes : Df P w K mg base "with_bytes" 1 ["page", "at", "data"] spWb := ok_with_bytes (F := (at_with_bytes X G c)) (T := T)
  have D_is_number : Df P w K mg base "is_number" 1 ["thing", "least", "most"] spNum := ok_is_number (F := (at_is_number X G c)) (T := T)
  have D_check_number : Df P w K mg base "check_number" 2 ["thing", "least", "most"] spChkNum := ok_check_number (F := (at_check_number X G c)) (T := T) (D_is_number := D_is_number)
  have D_bytes_of : Df P w K mg base "bytes_of" 1 ["number", "width"] spB2 := ok_bytes_of (F := (at_bytes_of X G c)) (T := T)
  have D_blank_page : Df P w K mg base "blank_page" 3 ["kind"] spBlank := ok_blank_page (F := (at_blank_page X G c)) (T := T) (D_check_number := D_check_number) (D_with_bytes := D_with_bytes) (D_bytes_of := D_bytes_of)
  have D_check_page_number : Df P w K mg base "check_page_number" 2 ["number"] spChkPN := ok_check_page_number (F := (at_check_page_number X G c)) (T := T) (D_is_number := D_is_number)
  have D_are_bytes : Df P w K mg base "are_bytes" 2 ["thing"] spBytes := ok_are_bytes (F := (at_are_bytes X G c)) (T := T) (D_is_number := D_is_number)
  have D_is_page : Df P w K mg base "is_page" 3 ["thing"] spIsPage := ok_is_page (F := (at_is_page X G c)) (T := T) (D_are_bytes := D_are_bytes)
  have D_check_page : Df P w K mg base "check_page" 4 ["page"] spChkPage := ok_check_page (F := (at_check_page X G c)) (T := T) (D_is_page := D_is_page)
  have M_write : Dm P w K mg base (He.ga K "MemoryPages") "write" 5 ["self", "number", "page"] (spWrite (He.ga K "MemoryPages")) := ok_MP_write (F := (at_MP_write c)) (T := T) (D_check_page_number := D_check_page_number) (D_check_page := D_check_page)
  have D_format_pages : Df P w K mg base "format_pages" 6 ["pages"] (spFormat (He.ga K "MemoryPages")) := ok_format_pages (F := (at_format_pages X G c)) (T := T) (D_with_bytes := D_with_bytes) (D_blank_page := D_blank_page) (D_bytes_of := D_bytes_of) (M_write := M_write)
  have M___init__ : Dm P w K mg base (He.ga K "MemoryPages") "__init__" 7 ["self"] (spInit (He.ga K "MemoryPages")) := ok_MP___init__ (F := (at_MP___init__ c)) (T := T) (D_format_pages := D_format_pages)
  have D_with_next : Df P w K mg base "with_next" 3 ["page", "number"] spWithNext := ok_with_next (F := (at_with_next X G c)) (T := T) (D_check_number := D_check_number) (D_with_bytes := D_with_bytes) (D_bytes_of := D_bytes_of)
  have D_entry_bytes : Df P w K mg base "entry_bytes" 2 ["entry"] spEntB := ok_entry_bytes (F := (at_entry_bytes X G c)) (T := T) (D_bytes_of := D_bytes_of)
  have D_leaf_page : Df P w K mg base "leaf_page" 4 ["entries", "number"] spLeafP := ok_leaf_page (F := (at_leaf_page X G c)) (T := T) (D_with_bytes := D_with_bytes) (D_with_next := D_with_next) (D_entry_bytes := D_entry_bytes) (D_blank_page := D_blank_page)
  have D_kind_of : Df P w K mg base "kind_of" 1 ["page"] spKind := ok_kind_of (F := (at_kind_of X G c)) (T := T)
  have M_read : Dm P w K mg base (He.ga K "MemoryPages") "read" 4 ["self", "number"] (spRead (He.ga K "MemoryPages")) := ok_MP_read (F := (at_MP_read c)) (T := T) (D_check_page_number := D_check_page_number) (D_blank_page := D_blank_page)
  have D_front_of : Df P w K mg base "front_of" 5 ["pages"] (spFrontOf (He.ga K "MemoryPages")) := ok_front_of (F := (at_front_of X G c)) (T := T) (D_kind_of := D_kind_of) (M_read := M_read)
  have D_number_of : Df P w K mg base "number_of" 1 ["data"] spNumOf := ok_number_of (F := (at_number_of X G c)) (T := T)
  have D_free_number : Df P w K mg base "free_number" 2 ["page"] spFreeN := ok_free_number (F := (at_free_number X G c)) (T := T) (D_number_of := D_number_of)
  have D_fresh_number : Df P w K mg base "fresh_number" 2 ["page"] spFreshN := ok_fresh_number (F := (at_fresh_number X G c)) (T := T) (D_number_of := D_number_of)
  have D_next_of : Df P w K mg base "next_of" 2 ["page"] spNext := ok_next_of (F := (at_next_of X G c)) (T := T) (D_number_of := D_number_of)
  have D_take_page : Df P w K mg base "take_page" 6 ["pages"] (spTake (He.ga K "MemoryPages")) := ok_take_page (F := (at_take_page X G c)) (T := T) (D_front_of := D_front_of) (D_free_number := D_free_number) (D_with_bytes := D_with_bytes) (D_fresh_number := D_fresh_number) (D_blank_page := D_blank_page) (D_bytes_of := D_bytes_of) (D_next_of := D_next_of) (M_write := M_write) (M_read := M_read)
  have M_allocate : Dm P w K mg base (He.ga K "MemoryPages") "allocate" 7 ["self"] (spAlloc (He.ga K "MemoryPages")) := ok_MP_allocate (F := (at_MP_allocate c)) (T := T) (D_take_page := D_take_page)
  have D_new_tree : Df P w K mg base "new_tree" 8 ["pages"] (spNewTree (He.ga K "MemoryPages")) := ok_new_tree (F := (at_new_tree X G c)) (T := T) (D_leaf_page := D_leaf_page) (M_allocate := M_allocate) (M_write := M_write)
  have D__law_number : Df P w K mg base "_law_number" 1 ["_law_script", "_law_index"] (spLNum K) := ok__law_number (F := (at__law_number X G c)) (T := T)
  have D__law_take : Df P w K mg base "_law_take" 2 ["_law_draw", "_law_many"] (spLTake K) := ok__law_take (F := (at__law_take X G c)) (T := T) (D__law_number := D__law_number)
  have D__law_pick : Df P w K mg base "_law_pick" 3 ["_law_draw", "_law_things"] (spLPick K) := ok__law_pick (F := (at__law_pick X G c)) (T := T) (D__law_take := D__law_take)
  have D_is_key : Df P w K mg base "is_key" 3 ["thing"] spIsKey := ok_is_key (F := (at_is_key X G c)) (T := T) (D_are_bytes := D_are_bytes)
  have D_check_key : Df P w K mg base "check_key" 4 ["key"] spChkKey := ok_check_key (F := (at_check_key X G c)) (T := T) (D_is_key := D_is_key)
  have D_is_spot : Df P w K mg base "is_spot" 2 ["thing"] spIsSpot := ok_is_spot (F := (at_is_spot X G c)) (T := T) (D_is_number := D_is_number)
  have D_check_entry : Df P w K mg base "check_entry" 5 ["key", "spot"] spChkEntry := ok_check_entry (F := (at_check_entry X G c)) (T := T) (D_check_key := D_check_key) (D_is_spot := D_is_spot)
  have D_check_node : Df P w K mg base "check_node" 2 ["page"] spChkNode := ok_check_node (F := (at_check_node X G c)) (T := T) (D_kind_of := D_kind_of)
  have D_is_leaf : Df P w K mg base "is_leaf" 3 ["page"] spIsLeaf := ok_is_leaf (F := (at_is_leaf X G c)) (T := T) (D_check_node := D_check_node) (D_kind_of := D_kind_of)
  have D_read_entry : Df P w K mg base "read_entry" 2 ["page", "at"] spReadE := ok_read_entry (F := (at_read_entry X G c)) (T := T) (D_number_of := D_number_of)
  have D_inner_parts : Df P w K mg base "inner_parts" 3 ["page"] spParts := ok_inner_parts (F := (at_inner_parts X G c)) (T := T) (D_read_entry := D_read_entry) (D_number_of := D_number_of)
  have D_child_at : Df P w K mg base "child_at" 1 ["walls", "entry"] spChildAt := ok_child_at (F := (at_child_at X G c)) (T := T)
  have D_entry_size : Df P w K mg base "entry_size" 1 ["entry"] spEsz := ok_entry_size (F := (at_entry_size X G c)) (T := T)
  have D_leaf_size : Df P w K mg base "leaf_size" 2 ["entries"] spLsz := ok_leaf_size (F := (at_leaf_size X G c)) (T := T) (D_entry_size := D_entry_size)
  have D_inner_size : Df P w K mg base "inner_size" 3 ["walls", "children"] spIsz := ok_inner_size (F := (at_inner_size X G c)) (T := T) (D_leaf_size := D_leaf_size)
  have D_leaf_entries : Df P w K mg base "leaf_entries" 3 ["page"] spLeafE := ok_leaf_entries (F := (at_leaf_entries X G c)) (T := T) (D_read_entry := D_read_entry)
  have D_is_small : Df P w K mg base "is_small" 4 ["page"] spSmall := ok_is_small (F := (at_is_small X G c)) (T := T) (D_is_leaf := D_is_leaf) (D_inner_parts := D_inner_parts) (D_inner_size := D_inner_size) (D_leaf_size := D_leaf_size) (D_leaf_entries := D_leaf_entries)
  have D_inner_page : Df P w K mg base "inner_page" 4 ["walls", "children"] spInnerP := ok_inner_page (F := (at_inner_page X G c)) (T := T) (D_with_bytes := D_with_bytes) (D_blank_page := D_blank_page) (D_bytes_of := D_bytes_of) (D_entry_bytes := D_entry_bytes)
  have D_leaf_next : Df P w K mg base "leaf_next" 3 ["page"] spLeafN := ok_leaf_next (F := (at_leaf_next X G c)) (T := T) (D_next_of := D_next_of)
  have D_free_pages : Df P w K mg base "free_pages" 6 ["pages"] (spFreeP (He.ga K "MemoryPages")) := ok_free_pages (F := (at_free_pages X G c)) (T := T) (D_free_number := D_free_number) (D_next_of := D_next_of) (D_front_of := D_front_of) (M_read := M_read)
  have D_check_given : Df P w K mg base "check_given" 7 ["pages", "front", "number"] (spChkGiven (He.ga K "MemoryPages")) := ok_check_given (F := (at_check_given X G c)) (T := T) (D_is_number := D_is_number) (D_free_pages := D_free_pages) (D_fresh_number := D_fresh_number)
  have D_give_page : Df P w K mg base "give_page" 8 ["pages", "number"] (spGive (He.ga K "MemoryPages")) := ok_give_page (F := (at_give_page X G c)) (T := T) (D_front_of := D_front_of) (D_check_given := D_check_given) (D_with_next := D_with_next) (D_with_bytes := D_with_bytes) (D_blank_page := D_blank_page) (D_free_number := D_free_number) (D_bytes_of := D_bytes_of) (M_write := M_write)
  have M_release : Dm P w K mg base (He.ga K "MemoryPages") "release" 9 ["self", "number"] (spRelease (He.ga K "MemoryPages")) := ok_MP_release (F := (at_MP_release c)) (T := T) (D_give_page := D_give_page)
  have D_join_two : Df P w K mg base "join_two" 10 ["pages", "wall", "left", "right"] (spJoin2 (He.ga K "MemoryPages")) := ok_join_two (F := (at_join_two X G c)) (T := T) (D_is_leaf := D_is_leaf) (D_leaf_size := D_leaf_size) (D_leaf_page := D_leaf_page) (D_inner_size := D_inner_size) (D_inner_page := D_inner_page) (D_leaf_entries := D_leaf_entries) (D_leaf_next := D_leaf_next) (D_inner_parts := D_inner_parts) (M_release := M_release) (M_read := M_read) (M_write := M_write)
  have D_join_at : Df P w K mg base "join_at" 11 ["pages", "number", "at"] (spJoinAt (He.ga K "MemoryPages")) := ok_join_at (F := (at_join_at X G c)) (T := T) (D_inner_parts := D_inner_parts) (D_join_two := D_join_two) (D_inner_page := D_inner_page) (M_read := M_read) (M_write := M_write)
  have D_drop_below : Df P w K mg base "drop_below" (12 + 60) ["pages", "number", "entry"] (spDropLt (He.ga K "MemoryPages") 60) := ok_drop_below (F := (at_drop_below X G c)) (T := T) (D_is_leaf := D_is_leaf) (D_inner_parts := D_inner_parts) (D_child_at := D_child_at) (D_is_small := D_is_small) (D_join_at := D_join_at) (D_leaf_page := D_leaf_page) (D_leaf_entries := D_leaf_entries) (D_leaf_next := D_leaf_next) (M_read := M_read) (M_write := M_write) 60
  have D_leaf_for : Df P w K mg base "leaf_for" 5 ["pages", "root", "low"] (spLeafFor (He.ga K "MemoryPages")) := ok_leaf_for (F := (at_leaf_for X G c)) (T := T) (D_is_leaf := D_is_leaf) (D_inner_parts := D_inner_parts) (D_child_at := D_child_at) (M_read := M_read)
  have D_entries_from : Df P w K mg base "entries_from" 6 ["pages", "root", "low", "high"] (spEnts (He.ga K "MemoryPages")) := ok_entries_from (F := (at_entries_from X G c)) (T := T) (D_leaf_for := D_leaf_for) (D_leaf_entries := D_leaf_entries) (D_leaf_next := D_leaf_next) (M_read := M_read)
  have D_drop_key : Df P w K mg base "drop_key" (60 + 13) ["pages", "root", "key", "spot"] (spDropKey (He.ga K "MemoryPages") 60) := ok_drop_key (F := (at_drop_key X G c)) (T := T) (D_check_entry := D_check_entry) (D_drop_below := D_drop_below) (D_entries_from := D_entries_from) (D_is_leaf := D_is_leaf) (D_inner_parts := D_inner_parts) (M_read := M_read) (M_write := M_write) (M_release := M_release)
  have D__law_tree_size : Df P w K mg base "_law_tree_size" 1 ["_law_entries"] spLTs := ok__law_tree_size (F := (at__law_tree_size X G c)) (T := T)
  have D__law_bytes : Df P w K mg base "_law_bytes" 2 ["_law_node"] spLBytes := ok__law_bytes (F := (at__law_bytes X G c)) (T := T) (D__law_tree_size := D__law_tree_size)
  have D__law_together : Df P w K mg base "_law_together" 3 ["_law_nodes", "_law_number_here", "_law_left"] spLTog := ok__law_together (F := (at__law_together X G c)) (T := T) (D__law_bytes := D__law_bytes)
  have D__law_drop : Df P w K mg base "_law_drop" (4 + 60) ["_law_world", "_law_number_here", "_law_entry"] (spLDropLt 60) := ok__law_drop (F := (at__law_drop X G c)) (T := T) (D__law_bytes := D__law_bytes) (D__law_together := D__law_together) 60
  have D_half_of : Df P w K mg base "half_of" 1 ["sizes"] spHalf := ok_half_of (F := (at_half_of X G c)) (T := T)
  have D_write_inner : Df P w K mg base "write_inner" 8 ["pages", "number", "walls", "children"] (spWInner (He.ga K "MemoryPages")) := ok_write_inner (F := (at_write_inner X G c)) (T := T) (D_half_of := D_half_of) (D_inner_size := D_inner_size) (D_inner_page := D_inner_page) (D_entry_size := D_entry_size) (M_allocate := M_allocate) (M_write := M_write)
  have D_write_leaf : Df P w K mg base "write_leaf" 8 ["pages", "number", "entries", "late"] (spWLeaf (He.ga K "MemoryPages")) := ok_write_leaf (F := (at_write_leaf X G c)) (T := T) (D_half_of := D_half_of) (D_leaf_size := D_leaf_size) (D_leaf_page := D_leaf_page) (D_entry_size := D_entry_size) (M_allocate := M_allocate) (M_write := M_write)
  have D_put_below : Df P w K mg base "put_below" (9 + 60) ["pages", "number", "entry"] (spPutLt (He.ga K "MemoryPages") 60) := ok_put_below (F := (at_put_below X G c)) (T := T) (D_is_leaf := D_is_leaf) (D_inner_parts := D_inner_parts) (D_child_at := D_child_at) (D_write_inner := D_write_inner) (D_write_leaf := D_write_leaf) (D_leaf_next := D_leaf_next) (D_leaf_entries := D_leaf_entries) (M_read := M_read) 60
  have D_put_key : Df P w K mg base "put_key" (60 + 10) ["pages", "root", "key", "spot"] (spPutKey (He.ga K "MemoryPages") 60) := ok_put_key (F := (at_put_key X G c)) (T := T) (D_check_entry := D_check_entry) (D_put_below := D_put_below) (D_entries_from := D_entries_from) (D_inner_page := D_inner_page) (M_allocate := M_allocate) (M_write := M_write) (M_read := M_read)
  have D__law_listed : Df P w K mg base "_law_listed" (1 + 60) ["_law_nodes", "_law_number_here"] (spLListLt 60) := ok__law_listed (F := (at__law_listed X G c)) (T := T) 60
  have D_pages_of : Df P w K mg base "pages_of" (5 + 60) ["pages", "root"] (spPagesLt (He.ga K "MemoryPages") 60) := ok_pages_of (F := (at_pages_of X G c)) (T := T) (D_is_leaf := D_is_leaf) (D_inner_parts := D_inner_parts) (M_read := M_read) 60
  have D__law_same : Df P w K mg base "_law_same" (60 + 6) ["_law_pages", "_law_root", "_law_nodes"] (spLSame (He.ga K "MemoryPages") 60) := ok__law_same (F := (at__law_same X G c)) (T := T) (D__law_listed := D__law_listed) (D_pages_of := D_pages_of) (D_kind_of := D_kind_of) (D_inner_parts := D_inner_parts) (D_leaf_entries := D_leaf_entries) (M_read := M_read)
  have D__law_half : Df P w K mg base "_law_half" 1 ["_law_sizes"] spHalf := ok__law_half (F := (at__law_half X G c)) (T := T)
  have D__law_taken : Df P w K mg base "_law_taken" 1 ["_law_world"] spLTaken := ok__law_taken (F := (at__law_taken X G c)) (T := T)
  have D__law_put : Df P w K mg base "_law_put" (2 + 60) ["_law_world", "_law_number_here", "_law_entry"] (spLPutLt 60) := ok__law_put (F := (at__law_put X G c)) (T := T) (D__law_half := D__law_half) (D__law_taken := D__law_taken) (D__law_tree_size := D__law_tree_size) 60
  have MK := He.mkr_ok (c.fact 94 (f := .mkr "MemoryPages") rfl)
  obtain ⟨fI, fdI, GI, mI, bI⟩ := M___init__.ex
  have eI : fI = He.ma K (He.ga K "MemoryPages") "__init__" := by
    have q := mI.at_.symm.trans MK.init
    injection q with q
    injection q with q
    injection q with q
  rw [← eI] at MK
  exact ok_law (hn := 60) rfl (F := F) (T := T) (D_new_tree := D_new_tree) (D__law_take := D__law_take) (D__law_pick := D__law_pick) (D_drop_key := D_drop_key) (D__law_drop := D__law_drop) (D_put_key := D_put_key) (D__law_same := D__law_same) (D__law_put := D__law_put) (D__law_taken := D__law_taken) (MK := MK) (G_init := GI) (b_init := bI)
end K7
open PySem PySem.W PySem.Calls PyProof.Rows
theorem PySem.Challenge.cw_tidebase_k07_whole_shapes_holds : PySem.Challenge.rw_tidebase_k07_whole_shapes.Holds := by
  w_on; o_law
  refine HandSHeadRun.head_any (r := OpenLaw.row PySem.Challenge.rw_tidebase_k07_whole_shapes) (q := view (OpenLaw.row PySem.Challenge.rw_tidebase_k07_whole_shapes).prog [89]) (H := K7.hk) (ob := K7.ob) (M := 30000) (loose := K7.looseL) (d := HandSHeadRun.topDef (OpenLaw.row PySem.Challenge.rw_tidebase_k07_whole_shapes).prog 89) (kwd := []) K7.ob_eq
    (by kernel_rfl) (fun s => by kernel_rfl) K7.run (by kernel_rfl) (by kernel_rfl) (by kernel_rfl) (by rfl) (by first | assumption | decide +kernel) (by decide +kernel) ⟨rfl, rfl, rfl, rfl, rfl, by decide +kernel⟩ ?hw ?hc
  case hw => w_witness2
  case hc =>
    refine L2.walk_ofE (l := PySem.Challenge.rw_tidebase_k07_whole_shapes) (n := 63) (k := 74) (x := "_law_script") (CX := L2.CX0) rfl (by decide) (by kernel_rfl) ⟨rfl, by decide, by decide⟩ ?F (fun _ _ _ _ z => z)
    intro w mg fa h Y G hmg0
    obtain ⟨K, KX, c⟩ := Y
    have hmg : mg ("law" : PySem.Str) = some (.ref fa) := by
      have e : (HandSHeadRun.topDef (OpenLaw.row PySem.Challenge.rw_tidebase_k07_whole_shapes).prog 89).name = ("law" : PySem.Str) := by kernel_rfl
      rw [← e]
      exact hmg0
    obtain ⟨fd, hb, hF⟩ := K7.facts (P := (PySem.Challenge.rw_tidebase_k07_whole_shapes).prog) (w := w) KX G hmg c
    exact ⟨K, fd, K7.spLaw K, KX, hb, fun H a ns hl _ hS => ⟨a, ns, rfl, hl, hS, fun _ => rfl⟩, hF⟩
