import PyProof.Rows.All
import Wide.All
import OpenK.AllK
import Wide.FinOn
import KE.KDictOf
import PyProof.AttrMissHeap
import PySem.Challenge.RW_pq0689_01
open PySem PySem.W PyProof.Rows
set_option Elab.async false
set_option maxRecDepth 100000
namespace Mine
set_option maxHeartbeats 8000000 in
open_top hd for PySem.Challenge.rw_pq0689_01
theorem fill_K : (PySem.Challenge.rw_pq0689_01 = PySem.Challenge.rw_pq0689_01) ∧ (hd.heap_39 = hd.heap_39) := by
  k_fill
  exact ⟨rfl, rfl⟩

section
-- Base0
/-- what a call of f with these values does to a ledger -/
def Spec (w : World) (f : Addr) (args : List Value) (d u : Nat) (news : List (Addr × Obj)) (post : List (Addr × Obj) → Value → Prop) : Prop :=
  ∀ (dp un : Nat) (gd : Option (List Code)) (cn : Str) (cs : Scope) (a : Addr) (ccd : Value) (cl : List (Str × Addr)) (outer : List Env) (A₀ : Around) (base h₀ : Heap) (L : Addr) (m : Str → Option Value) (s : Shared)
    (mean : ExcName → Option Value) (mg mb : Str → Option Value) (Q E : Value → Shared → Prop),
    Below A₀ base outer h₀ → Fr h₀ L s.heap m → (hd.heap_39 w.params).In h₀ → News h₀ L s.heap news → Top hd.view_39 (looseW hd.view_39 [Str.ofString "RowsError"]) mean mg mb h₀ → cs.kind = .function → dp + d < recursionLimit → un + u < cLine →
    (∀ r news' h' tk', Fr h₀ L h' m → News h₀ L h' news' → post news' r → Q r { s with heap := h', toks := tk' }) →
    wpAny (model PySem.Challenge.rw_pq0689_01.row.prog w) (ktrTop dp un gd cn cs L a ccd cl outer) (call (.ref f) args) Q E s

/-- every object told is a tuple -/
def Tups (T : List (Addr × Obj)) : Prop := ∀ p ∈ T, p.2.cls = .type "tuple"
theorem Tups.off {T : List (Addr × Obj)} {h₀ h : Heap} {L a : Addr} {o : Obj} {news : List (Addr × Obj)} (ht : Tups T) (N : News h₀ L h news) (hs : ∀ p ∈ T, p ∈ news) (ha : (a, o) ∈ news) (hc : o.cls ≠ .type "tuple") : ∀ p ∈ T, p.1 ≠ a := by
  intro p hp e
  have h1 := (N p (hs p hp)).1
  have h2 := (N _ ha).1
  rw [e] at h1
  rw [h1] at h2
  cases h2
  exact hc (ht p hp)
end

section
-- Base1
abbrev tupObj (vs : List Value) (n : Nat) : Obj := { cls := .type "tuple", data := .seq vs.toArray n }
def strsOf : List Value → List Str
  | [] => []
  | .str x _ :: r => x :: strsOf r
  | _ :: r => strsOf r
def allStr : List Value → Bool
  | [] => true
  | .str _ _ :: r => allStr r
  | _ :: _ => false
theorem strsAre_of : ∀ {l : List Value}, allStr l = true → StrsAre l (strsOf l)
  | [], _ => .nil
  | v :: r, h => by
    cases v with
    | str x t => exact .cons _ _ (strsAre_of (l := r) h)
    | _ => simp [allStr] at h
theorem in_tupL {prog : Program} {w : World} {A : Around} {E : Value → Shared → Prop} {s : Shared} {t : Addr} {l : List Value} {x : Str} {u : Tok} {Q : Value → Shared → Prop} (ht : PyProof.Rows.IsTup s.heap t l.toArray) (hi : allStr l = true)
    (h : Q (.bool ((strsOf l).any (· == x))) s) : wpAny (model prog w) A (compareOp .In (.str x u) (.ref t)) Q E s := in_tuple_strs ht (by simpa using strsAre_of hi) h
end

section
-- DatEq
def Held (h : Heap) (news : List (Addr × Obj)) : Prop := ∀ p ∈ news, h.get? p.1 = some p.2
theorem heldOf {h₀ h : Heap} {L : Addr} {news : List (Addr × Obj)} (N : News h₀ L h news) : Held h news := fun p hp => (N p hp).1
mutual
inductive TIn (news : List (Addr × Obj)) : Value → Dat → Prop
  | int (i : Int) (t : Tok) : TIn news (Value.int i t) (Dat.int i)
  | str (x : Str) (t : Tok) : TIn news (Value.str x t) (Dat.str x)
  | bytes (b : Array UInt8) (t : Tok) : TIn news (Value.bytes b t) (Dat.bytes b)
  | tuple {a : Addr} {vs : List Value} {n : Nat} {ds : List Dat} : (a, tupObj vs n) ∈ news → TAll news vs ds → TIn news (Value.ref a) (Dat.tuple ds)
inductive TAll (news : List (Addr × Obj)) : List Value → List Dat → Prop
  | nil : TAll news [] []
  | cons {v : Value} {vs : List Value} {d : Dat} {ds : List Dat} : TIn news v d → TAll news vs ds → TAll news (v :: vs) (d :: ds)
end
/-- a tuple's object -/
def isTupB (o : Obj) : Bool := o.cls == .type "tuple" && (match o.data with | .seq .. => true | _ => false)
theorem isTupB_cls {o : Obj} (h : isTupB o = true) : o.cls = .type "tuple" := by
  unfold isTupB at h
  rw [Bool.and_eq_true] at h
  exact eq_of_beq h.1
theorem isTupB_not {o : Obj} (h : o.cls ≠ .type "tuple") : isTupB o = false := by
  cases e : isTupB o with
  | false => rfl
  | true => exact absurd (isTupB_cls e) h
def SubT (X Y : List (Addr × Obj)) : Prop := ∀ p ∈ X, isTupB p.2 = true → p ∈ Y
mutual
theorem TIn.mono {X Y : List (Addr × Obj)} (hs : SubT X Y) : ∀ {v : Value} {d : Dat}, TIn X v d → TIn Y v d
  | _, _, .int i t => .int i t
  | _, _, .str x t => .str x t
  | _, _, .bytes b t => .bytes b t
  | _, _, .tuple h r => .tuple (hs _ h rfl) (TAll.mono hs r)
theorem TAll.mono {X Y : List (Addr × Obj)} (hs : SubT X Y) : ∀ {vs : List Value} {ds : List Dat}, TAll X vs ds → TAll Y vs ds
  | _, _, .nil => .nil
  | _, _, .cons h r => .cons (TIn.mono hs h) (TAll.mono hs r)
end
mutual
def cmpD : Dat → Dat → Option Bool
  | .int a, .int b => some (a == b)
  | .str a, .str b => some (a == b)
  | .bytes a, .bytes b => some (decide (a.toList = b.toList))
  | .int _, .str _ => some false
  | .str _, .int _ => some false
  | .int _, .tuple _ => some false
  | .str _, .tuple _ => some false
  | .tuple _, .int _ => some false
  | .tuple _, .str _ => some false
  | .tuple xs, .tuple ys => cmpDs xs ys
  | _, _ => none
def cmpDs : List Dat → List Dat → Option Bool
  | [], [] => some true
  | [], _ :: _ => some false
  | _ :: _, [] => some false
  | x :: xs, y :: ys => match cmpD x y with
    | some true => cmpDs xs ys
    | r => r
end
mutual
def depD : Dat → Nat
  | .tuple ds => depDs ds + 1
  | .list ds => depDs ds + 1
  | _ => 0
def depDs : List Dat → Nat
  | [] => 0
  | d :: ds => max (depD d) (depDs ds)
end
mutual
theorem datIn_uniq {h : Heap} {news : List (Addr × Obj)} (H : Held h news) : ∀ {v : Value} {d e : Dat}, TIn news v d → TIn news v e → d = e
  | _, _, _, .int _ _, .int _ _ => rfl
  | _, _, _, .str _ _, .str _ _ => rfl
  | _, _, _, .bytes _ _, .bytes _ _ => rfl
  | _, _, _, .tuple m r, .tuple m' r' => by
    have e1 := H _ m
    have e2 := H _ m'
    simp only at e1 e2
    rw [e1] at e2
    have e3 := e2
    simp only [Option.some.injEq, Obj.mk.injEq, Data.seq.injEq, List.toArray_inj] at e3
    have e4 := congrArg Array.toList e3.2.2.1.1
    simp only [List.toList_toArray] at e4
    subst e4
    rw [datAll_uniq H r r']
theorem datAll_uniq {h : Heap} {news : List (Addr × Obj)} (H : Held h news) : ∀ {vs : List Value} {ds es : List Dat}, TAll news vs ds → TAll news vs es → ds = es
  | _, _, _, .nil, .nil => rfl
  | _, _, _, .cons a r, .cons a' r' => by rw [datIn_uniq H a a', datAll_uniq H r r']
end
mutual
theorem cmpD_refl : ∀ (d : Dat) (b : Bool), cmpD d d = some b → b = true
  | .int a, b, h => by simpa [cmpD] using h.symm
  | .str a, b, h => by simpa [cmpD] using h.symm
  | .bytes a, b, h => by simpa [cmpD] using h.symm
  | .tuple xs, b, h => cmpDs_refl xs b (by simpa [cmpD] using h)
  | .none, b, h => by simp [cmpD] at h
  | .bool _, b, h => by simp [cmpD] at h
  | .list _, b, h => by simp [cmpD] at h
theorem cmpDs_refl : ∀ (ds : List Dat) (b : Bool), cmpDs ds ds = some b → b = true
  | [], b, h => by simpa [cmpDs] using h.symm
  | d :: ds, b, h => by
    unfold cmpDs at h
    split at h
    · exact cmpDs_refl ds b h
    · exact cmpD_refl d b (by assumption)
end

theorem tupEq_dat {prog : Program} {w : World} {A : Around} {E : Value → Shared → Prop} {s : Shared} {news : List (Addr × Obj)} {a b : Addr} {xs ys : List Value} {m n : Nat} {ds es : List Dat} {r : Bool} {P : Fin → Shared → Prop}
    (H : Held s.heap news) (ma : (a, tupObj xs m) ∈ news) (mb : (b, tupObj ys n) ∈ news) (D1 : TAll news xs ds) (D2 : TAll news ys es) (hc : cmpDs ds es = some r)
    (ih : ∀ d ∈ ds, ∀ (e : Dat) (v u : Value) (r : Bool), TIn news v d → TIn news u e → cmpD d e = some r → SeqAt.EqAt A s v u r)
    (h : P (.done (.ret (.bool r))) s) : wpAny (model prog w) A (Builtin.«tuple.__eq__» ⟨[.ref a, .ref b], []⟩) P E s := by
  have ha := H _ ma
  have hb := H _ mb
  show wpAny _ _ (isInstance (.ref b) (.type "tuple") >>= _) _ _ s
  refine wpAny_bind (wpAny_isInstance ⟨_, hb, rfl⟩ isSubtype_tuple_tuple ?_)
  simp only [Bool.not_true, Bool.false_eq_true, if_false]
  refine wpAny_bind (wpAny_tupleItemsOf ha rfl ?_)
  refine wpAny_bind (wpAny_tupleItemsOf hb rfl ?_)
  refine wpAny_bind ?_
  refine wpAny_forIn_list _
    (fun rest q s' => q.1 = none ∧ s' = s ∧ ∃ d' e' xs' ys', rest = List.zip xs' ys' ∧ TAll news xs' d' ∧ TAll news ys' e' ∧ cmpDs d' e' = some r ∧ (∀ d ∈ d', d ∈ ds) ∧ (xs'.length == ys'.length) = (xs.toArray.size == ys.toArray.size))
    _ ?_ ?_ _ _ ⟨rfl, rfl, ds, es, xs, ys, by simp, D1, D2, hc, fun _ h => h, by simp⟩
  · rintro ⟨u, v⟩ rest q s' ⟨hq, rfl, d', e', xs', ys', hz, hx', hy', hcc, hsub, hlen⟩
    cases hx' with
    | nil => simp at hz
    | @cons u' xs'' d d'' h1 hx'' =>
      cases hy' with
      | nil => simp at hz
      | @cons v' ys'' e e'' h2 hy'' =>
        simp only [List.zip_cons_cons, List.cons.injEq, Prod.mk.injEq] at hz
        obtain ⟨⟨rfl, rfl⟩, rfl⟩ := hz
        unfold cmpDs at hcc
        cases hk : cmpD d e with
        | none => rw [hk] at hcc; cases hcc
        | some k =>
          refine wpAny_bind (ih d (hsub _ (.head _)) e _ _ k h1 h2 hk prog w E _ ?_)
          rw [hk] at hcc
          cases k with
          | true =>
            simp only [Bool.not_true, Bool.false_eq_true, if_false]
            exact wpAny_pure ⟨rfl, rfl, _, _, xs'', ys'', rfl, hx'', hy'', hcc, fun d hd => hsub d (.tail _ hd), by simpa using hlen⟩
          | false =>
            simp only [Bool.not_false, if_true]
            have : r = false := by simpa using hcc.symm
            subst this
            exact wpAny_bind (wpAny_pure (wpAny_pure (wpAny_pure h)))
  · rintro ⟨r1, r2⟩ s' ⟨hq, rfl, d', e', xs', ys', hz, hx', hy', hcc, _, hlen⟩
    simp only at hq
    subst hq
    refine wpAny_pure ?_
    have hfin : (xs.toArray.size == ys.toArray.size) = r := by
      rw [← hlen]
      cases hx' with
      | nil =>
        cases hy' with
        | nil => simpa [cmpDs] using hcc
        | cons _ _ => simpa [cmpDs] using hcc
      | cons _ _ =>
        cases hy' with
        | nil => simpa [cmpDs] using hcc
        | cons _ _ => simp at hz
    show P (.done (.ret (.bool (xs.toArray.size == ys.toArray.size)))) s'
    rw [hfin]; exact h

theorem tupNe_dat {prog : Program} {w : World} {A : Around} {E : Value → Shared → Prop} {s : Shared} {news : List (Addr × Obj)} {a b : Addr} {xs ys : List Value} {m n : Nat} {ds es : List Dat} {r : Bool} {P : Fin → Shared → Prop}
    (H : Held s.heap news) (ma : (a, tupObj xs m) ∈ news) (mb : (b, tupObj ys n) ∈ news) (D1 : TAll news xs ds) (D2 : TAll news ys es) (hc : cmpDs ds es = some r)
    (ih : ∀ d ∈ ds, ∀ (e : Dat) (v u : Value) (r : Bool), TIn news v d → TIn news u e → cmpD d e = some r → SeqAt.EqAt A s v u r)
    (h : P (.done (.ret (.bool (!r)))) s) : wpAny (model prog w) A (Builtin.«tuple.__ne__» ⟨[.ref a, .ref b], []⟩) P E s := by
  have ha := H _ ma
  have hb := H _ mb
  show wpAny _ _ (isInstance (.ref b) (.type "tuple") >>= _) _ _ s
  refine wpAny_bind (wpAny_isInstance ⟨_, hb, rfl⟩ isSubtype_tuple_tuple ?_)
  simp only [Bool.not_true, Bool.false_eq_true, if_false]
  refine wpAny_bind (wpAny_tupleItemsOf ha rfl ?_)
  refine wpAny_bind (wpAny_tupleItemsOf hb rfl ?_)
  refine wpAny_bind ?_
  refine wpAny_forIn_list _
    (fun rest q s' => q.1 = none ∧ s' = s ∧ ∃ d' e' xs' ys', rest = List.zip xs' ys' ∧ TAll news xs' d' ∧ TAll news ys' e' ∧ cmpDs d' e' = some r ∧ (∀ d ∈ d', d ∈ ds) ∧ (xs'.length == ys'.length) = (xs.toArray.size == ys.toArray.size))
    _ ?_ ?_ _ _ ⟨rfl, rfl, ds, es, xs, ys, by simp, D1, D2, hc, fun _ h => h, by simp⟩
  · rintro ⟨u, v⟩ rest q s' ⟨hq, rfl, d', e', xs', ys', hz, hx', hy', hcc, hsub, hlen⟩
    cases hx' with
    | nil => simp at hz
    | @cons u' xs'' d d'' h1 hx'' =>
      cases hy' with
      | nil => simp at hz
      | @cons v' ys'' e e'' h2 hy'' =>
        simp only [List.zip_cons_cons, List.cons.injEq, Prod.mk.injEq] at hz
        obtain ⟨⟨rfl, rfl⟩, rfl⟩ := hz
        unfold cmpDs at hcc
        cases hk : cmpD d e with
        | none => rw [hk] at hcc; cases hcc
        | some k =>
          refine wpAny_bind (ih d (hsub _ (.head _)) e _ _ k h1 h2 hk prog w E _ ?_)
          rw [hk] at hcc
          cases k with
          | true =>
            simp only [Bool.not_true, Bool.false_eq_true, if_false]
            exact wpAny_pure ⟨rfl, rfl, _, _, xs'', ys'', rfl, hx'', hy'', hcc, fun d hd => hsub d (.tail _ hd), by simpa using hlen⟩
          | false =>
            simp only [Bool.not_false, if_true]
            have : r = false := by simpa using hcc.symm
            subst this
            exact wpAny_bind (wpAny_pure (wpAny_pure (wpAny_pure h)))
  · rintro ⟨r1, r2⟩ s' ⟨hq, rfl, d', e', xs', ys', hz, hx', hy', hcc, _, hlen⟩
    simp only at hq
    subst hq
    refine wpAny_pure ?_
    have hfin : (xs.toArray.size == ys.toArray.size) = r := by
      rw [← hlen]
      cases hx' with
      | nil =>
        cases hy' with
        | nil => simpa [cmpDs] using hcc
        | cons _ _ => simpa [cmpDs] using hcc
      | cons _ _ =>
        cases hy' with
        | nil => simpa [cmpDs] using hcc
        | cons _ _ => simp at hz
    show P (.done (.ret (.bool (!(xs.toArray.size == ys.toArray.size))))) s'
    rw [hfin]; exact h

theorem depDs_mem : ∀ {ds : List Dat} {d : Dat}, d ∈ ds → depD d ≤ depDs ds
  | _ :: _, _, .head _ => by simp only [depDs]; omega
  | _ :: ds, _, .tail _ h => by have := depDs_mem h; simp only [depDs]; omega
theorem isTuple_of {h : Heap} {a : Addr} {xs : List Value} {n : Nat} (e : h.get? a = some (tupObj xs n)) : h.IsTuple a xs.toArray := ⟨_, e, rfl, _, rfl⟩
theorem eqAt_dat {s : Shared} {news : List (Addr × Obj)} (H : Held s.heap news) : ∀ (k : Nat) (d : Dat), depD d ≤ k → ∀ (A : Around) (e : Dat) (v u : Value) (r : Bool), TIn news v d → TIn news u e → cmpD d e = some r → A.units + k < cLine → SeqAt.EqAt A s v u r := by
  intro k
  induction k with
  | zero =>
    intro d hd A e v u r D1 D2 hc hu
    cases D1 with
    | int a t =>
      cases D2 with
      | int b t' => simp only [cmpD, Option.some.injEq] at hc; subst hc; exact SeqAt.EqAt.int_int _ _ _ _
      | str b t' => simp only [cmpD, Option.some.injEq] at hc; subst hc; exact SeqAt.EqAt.int_str _ _ _ _
      | tuple m r => simp only [cmpD, Option.some.injEq] at hc; subst hc; exact SeqAt.EqAt.int_tuple _ _ (isTuple_of (H _ m)) (by omega)
      | _ => simp [cmpD] at hc
    | str a t =>
      cases D2 with
      | int b t' => simp only [cmpD, Option.some.injEq] at hc; subst hc; exact SeqAt.EqAt.str_int _ _ _ _
      | str b t' => simp only [cmpD, Option.some.injEq] at hc; subst hc; exact SeqAt.EqAt.str_str _ _ _ _
      | tuple m r => simp only [cmpD, Option.some.injEq] at hc; subst hc; exact SeqAt.EqAt.str_tuple _ _ (isTuple_of (H _ m)) (by omega)
      | _ => simp [cmpD] at hc
    | bytes a t =>
      cases D2 with
      | bytes b t' => simp only [cmpD, Option.some.injEq] at hc; subst hc; exact fun prog w E Q h => eqBool_bytes h
      | _ => simp [cmpD] at hc
    | tuple m r => simp [depD] at hd
  | succ k ih =>
    intro d hd A e v u r D1 D2 hc hu
    cases D1 with
    | int a t =>
      cases D2 with
      | int b t' => simp only [cmpD, Option.some.injEq] at hc; subst hc; exact SeqAt.EqAt.int_int _ _ _ _
      | str b t' => simp only [cmpD, Option.some.injEq] at hc; subst hc; exact SeqAt.EqAt.int_str _ _ _ _
      | tuple m r => simp only [cmpD, Option.some.injEq] at hc; subst hc; exact SeqAt.EqAt.int_tuple _ _ (isTuple_of (H _ m)) (by omega)
      | _ => simp [cmpD] at hc
    | str a t =>
      cases D2 with
      | int b t' => simp only [cmpD, Option.some.injEq] at hc; subst hc; exact SeqAt.EqAt.str_int _ _ _ _
      | str b t' => simp only [cmpD, Option.some.injEq] at hc; subst hc; exact SeqAt.EqAt.str_str _ _ _ _
      | tuple m r => simp only [cmpD, Option.some.injEq] at hc; subst hc; exact SeqAt.EqAt.str_tuple _ _ (isTuple_of (H _ m)) (by omega)
      | _ => simp [cmpD] at hc
    | bytes a t =>
      cases D2 with
      | bytes b t' => simp only [cmpD, Option.some.injEq] at hc; subst hc; exact fun prog w E Q h => eqBool_bytes h
      | _ => simp [cmpD] at hc
    | @tuple a vs n ds m q =>
      cases D2 with
      | int b t' => simp only [cmpD, Option.some.injEq] at hc; subst hc; exact SeqAt.EqAt.tuple_int _ _ (isTuple_of (H _ m)) (by omega)
      | str b t' => simp only [cmpD, Option.some.injEq] at hc; subst hc; exact SeqAt.EqAt.tuple_str _ _ (isTuple_of (H _ m)) (by omega)
      | @tuple b us n' es m' q' =>
        simp only [cmpD] at hc
        by_cases hab : a = b
        · subst hab
          have e := datIn_uniq H (TIn.tuple m q) (TIn.tuple m' q')
          simp only [Dat.tuple.injEq] at e
          subst e
          rw [cmpDs_refl ds r hc]
          exact SeqAt.EqAt.same _
        · refine SeqAt.EqAt.of_refs hab fun prog w E Q h => ?_
          have hT1 : s.TypeIs (.ref a) "tuple" := ⟨_, H _ m, rfl⟩
          have hT2 : s.TypeIs (.ref b) "tuple" := ⟨_, H _ m', rfl⟩
          refine wpAny_richCompare_same_room (op := .Eq) hT1 hT2 F.slot_tuple_eq
            (wpAny_call_entry F.slot_tuple_eq hT1 F.entry_tuple_eq (tupEq_dat H m m' q q' hc (fun d' hm e v u r D1 D2 hc' => ih d' (by have := depDs_mem hm; simp only [depD] at hd; omega) A.in1 e v u r D1 D2 hc' (by simp only [Around.in1_units]; omega)) ⟨_, rfl, (fun e => nomatch e), h⟩) (F.args_tuple_eq_2 _ _)) (by omega)
      | _ => simp [cmpD] at hc
section
variable {prog : Program} {w : World} {A : Around} {E : Value → Shared → Prop} {s : Shared} {h₀ : Heap} {L a b : Addr} {news : List (Addr × Obj)} {d e : Dat} {r : Bool} {Q : Value → Shared → Prop}
theorem eq_dat (H : Held s.heap news) (D1 : TIn news (.ref a) (.tuple ds)) (D2 : TIn news (.ref b) (.tuple es)) (hc : cmpDs ds es = some r) (hd : depDs ds ≤ 20) (hu : A.units + 30 < cLine) (h : Q (.bool r) s) : wpAny (model prog w) A (compareOp .Eq (.ref a) (.ref b)) Q E s := by
  refine cmp_ofEq ?_
  cases D1 with
  | @tuple _ vs n _ m q =>
    cases D2 with
    | @tuple _ us n' _ m' q' =>
      have hT1 : s.TypeIs (.ref a) "tuple" := ⟨_, H _ m, rfl⟩
      have hT2 : s.TypeIs (.ref b) "tuple" := ⟨_, H _ m', rfl⟩
      exact wpAny_richCompare_same_room (op := .Eq) hT1 hT2 F.slot_tuple_eq
        (wpAny_call_entry F.slot_tuple_eq hT1 F.entry_tuple_eq (tupEq_dat H m m' q q' hc (fun d' hm e v u r D1 D2 hc' => eqAt_dat H 20 d' (by have := depDs_mem hm; omega) A.in1 e v u r D1 D2 hc' (by simp only [Around.in1_units]; omega)) ⟨_, rfl, (fun e => nomatch e), h⟩) (F.args_tuple_eq_2 _ _)) (by omega)
theorem ne_dat (H : Held s.heap news) (D1 : TIn news (.ref a) (.tuple ds)) (D2 : TIn news (.ref b) (.tuple es)) (hc : cmpDs ds es = some r) (hd : depDs ds ≤ 20) (hu : A.units + 30 < cLine) (h : Q (.bool (!r)) s) : wpAny (model prog w) A (compareOp .NotEq (.ref a) (.ref b)) Q E s := by
  refine cmp_ofNotEq ?_
  cases D1 with
  | @tuple _ vs n _ m q =>
    cases D2 with
    | @tuple _ us n' _ m' q' =>
      have hT1 : s.TypeIs (.ref a) "tuple" := ⟨_, H _ m, rfl⟩
      have hT2 : s.TypeIs (.ref b) "tuple" := ⟨_, H _ m', rfl⟩
      exact wpAny_richCompare_same_room (op := .NotEq) hT1 hT2 F.slot_tuple_ne
        (wpAny_call_entry F.slot_tuple_ne hT1 F.entry_tuple_ne (tupNe_dat H m m' q q' hc (fun d' hm e v u r D1 D2 hc' => eqAt_dat H 20 d' (by have := depDs_mem hm; omega) A.in1 e v u r D1 D2 hc' (by simp only [Around.in1_units]; omega)) ⟨_, rfl, (fun e => nomatch e), h⟩) (F.args_tuple_ne_2 _ _)) (by omega)
end

theorem heldK {h : Heap} {news : List (Addr × Obj)} {K : Frag} {a : Addr} {o : Obj} (H : Held h news) (X : K.In h) (e : K.lookup a = some o) : Held h ((a, o) :: news) := fun p hp => by
  rcases List.mem_cons.mp hp with rfl | hp
  · exact X _ _ e
  · exact H p hp
end

section
-- Contract
def GrowT (Y Y₁ : List (Addr × Obj)) : Prop := (∀ p ∈ Y, p ∈ Y₁) ∧ ∀ p ∈ Y₁, p ∈ Y ∨ isTupB p.2 = true
theorem GrowT.refl (Y : List (Addr × Obj)) : GrowT Y Y := ⟨fun _ h => h, fun _ h => .inl h⟩
def tf (X : List (Addr × Obj)) : List (Addr × Obj) := X.filter fun p => isTupB p.2
theorem tf_mem {X : List (Addr × Obj)} {p : Addr × Obj} (h : p ∈ tf X) : p ∈ X ∧ isTupB p.2 = true := List.mem_filter.mp h
theorem tf_in {X : List (Addr × Obj)} {p : Addr × Obj} (h : p ∈ X) (c : isTupB p.2 = true) : p ∈ tf X := List.mem_filter.mpr ⟨h, c⟩
/-- a tuple's address is no mutable object's -/
theorem GrowT.off {Y Y₁ news : List (Addr × Obj)} {h₀ h : Heap} {L a : Addr} {o : Obj} (g : GrowT Y Y₁) (hy : ∀ p ∈ Y, p.1 ≠ a) (N : News h₀ L h news) (hs : ∀ p ∈ Y₁, p ∈ news) (ha : (a, o) ∈ news) (hc : isTupB o = false) : ∀ p ∈ Y₁, p.1 ≠ a := by
  intro p hp
  rcases g.2 p hp with q | q
  · exact hy p q
  · intro e
    have h1 := (N p (hs p hp)).1
    have h2 := (N _ ha).1
    rw [e] at h1
    rw [h1] at h2
    cases h2
    rw [q] at hc
    cases hc
def Con (w : World) (f : Addr) (args : List Value) (d u : Nat) (Ms Y : List (Addr × Obj)) (Post : List (Addr × Obj) → List (Addr × Obj) → Value → Prop) : Prop :=
  Spec w f args d u (Ms ++ Y) (fun news' r => ∃ M' Y₁, GrowT Y Y₁ ∧ news' = M' ++ Y₁ ∧ Post M' Y₁ r)
inductive Cut (Ms Y : List (Addr × Obj)) : List (Addr × Obj) → List (Addr × Obj) → Prop
  | tail : Cut Ms Y Y []
  | own {p l ex} : p ∈ Ms → Cut Ms Y l ex → Cut Ms Y (p :: l) ex
  | oth {p l ex} : (∀ m ∈ Ms, m.1 ≠ p.1) → Cut Ms Y l ex → Cut Ms Y (p :: l) (p :: ex)
theorem Cut.sub {Ms Y news ex : List (Addr × Obj)} (c : Cut Ms Y news ex) : ∀ p ∈ ex ++ Y, p ∈ news := by
  induction c with
  | tail => exact fun p h => by simpa using h
  | own _ _ ih => exact fun p h => .tail _ (ih p h)
  | oth _ _ ih =>
    intro p h
    rcases List.mem_cons.mp h with rfl | h
    · exact .head _
    · exact .tail _ (ih p h)
theorem Cut.off {Ms Y news ex : List (Addr × Obj)} (c : Cut Ms Y news ex) : ∀ p ∈ ex, ∀ m ∈ Ms, m.1 ≠ p.1 := by
  induction c with
  | tail => exact fun p h => nomatch h
  | own _ _ ih => exact ih
  | oth h _ ih =>
    intro p hp
    rcases List.mem_cons.mp hp with rfl | hp
    · exact h
    · exact ih p hp
section
variable {w : World} {f : Addr} {args : List Value} {d u : Nat} {Ms Y ex news : List (Addr × Obj)} {Post : List (Addr × Obj) → List (Addr × Obj) → Value → Prop}
  {dp un : Nat} {gd : Option (List Code)} {cn : Str} {cs : Scope} {a : Addr} {ccd : Value} {cl : List (Str × Addr)} {outer : List Env} {A₀ : Around} {base h₀ : Heap} {L : Addr} {m : Str → Option Value} {s : Shared}
  {mean : ExcName → Option Value} {mg mb : Str → Option Value} {Q E : Value → Shared → Prop}
theorem Con.use (C : (∀ q ∈ Ms, ∀ p ∈ ex ++ Y, p.1 ≠ q.1) → Con w f args d u Ms (ex ++ Y) Post)
    (mono : ∀ M' X Z r, SubT X Z → Post M' X r → Post M' Z r)
    (hc : Cut Ms Y news ex) (hm : ∀ p ∈ Ms, p ∈ news) (hy : ∀ q ∈ Ms, ∀ p ∈ Y, p.1 ≠ q.1)
    (B : Below A₀ base outer h₀) (F : Fr h₀ L s.heap m) (X : (hd.heap_39 w.params).In h₀) (N : News h₀ L s.heap news) (T : Top hd.view_39 (looseW hd.view_39 [Str.ofString "RowsError"]) mean mg mb h₀) (hk : cs.kind = .function) (hd : dp + d < recursionLimit) (hu : un + u < cLine)
    (ret : ∀ r M' Y₂ h' tk', GrowT Y Y₂ → Fr h₀ L h' m → News h₀ L h' (M' ++ (ex ++ Y₂)) → Post M' Y₂ r → Q r { s with heap := h', toks := tk' }) :
    wpAny (model PySem.Challenge.rw_pq0689_01.row.prog w) (ktrTop dp un gd cn cs L a ccd cl outer) (call (.ref f) args) Q E s := by
  have off : ∀ q ∈ Ms, ∀ p ∈ ex ++ Y, p.1 ≠ q.1 := by
    intro q hq p hp
    rcases List.mem_append.mp hp with h | h
    · exact (hc.off p h q hq).symm
    · exact hy q hq p h
  refine C off dp un gd cn cs a ccd cl outer A₀ base h₀ L m s mean mg mb Q E B F X ?_ T hk hd hu ?_
  · intro p hp
    rcases List.mem_append.mp hp with h | h
    · exact N p (hm p h)
    · exact N p (hc.sub p h)
  · rintro r news' h' tk' F' N' ⟨M', Y₁, ⟨g1, g2⟩, rfl, hp⟩
    refine ret r M' (tf Y₁ ++ Y) h' tk' ⟨fun p h => List.mem_append.mpr (.inr h), fun p h => ?_⟩ F' ?_ (mono _ _ _ _ (fun p h1 h2 => List.mem_append.mpr (.inl (tf_in h1 h2))) hp)
    · rcases List.mem_append.mp h with h | h
      · exact .inr (tf_mem h).2
      · exact .inl h
    · intro p hp
      rcases List.mem_append.mp hp with h | h
      · exact N' p (List.mem_append.mpr (.inl h))
      · refine N' p (List.mem_append.mpr (.inr ?_))
        rcases List.mem_append.mp h with h | h
        · exact g1 p (List.mem_append.mpr (.inl h))
        · rcases List.mem_append.mp h with h | h
          · exact (tf_mem h).1
          · exact g1 p (List.mem_append.mpr (.inr h))
theorem con_fin {r : Value} {M' messy : List (Addr × Obj)} {h' : Heap} {tk' : Nat}
    (ret : ∀ r news' h' tk', Fr h₀ L h' m → News h₀ L h' news' → (∃ M' Y₁, GrowT Y Y₁ ∧ news' = M' ++ Y₁ ∧ Post M' Y₁ r) → Q r { s with heap := h', toks := tk' })
    (F : Fr h₀ L h' m) (N : News h₀ L h' messy) (hM : ∀ p ∈ M', p ∈ messy) (hY : ∀ p ∈ Y, p ∈ messy) (hp : ∀ Y₁, SubT messy Y₁ → Post M' Y₁ r) : Q r { s with heap := h', toks := tk' } := by
  refine ret r (M' ++ (tf messy ++ Y)) h' tk' F ?_ ⟨M', tf messy ++ Y, ⟨fun p h => List.mem_append.mpr (.inr h), fun p h => ?_⟩, rfl, hp _ fun p h1 h2 => List.mem_append.mpr (.inl (tf_in h1 h2))⟩
  · intro p hp
    rcases List.mem_append.mp hp with h | h
    · exact N p (hM p h)
    · rcases List.mem_append.mp h with h | h
      · exact N p (tf_mem h).1
      · exact N p (hY p h)
  · rcases List.mem_append.mp h with h | h
    · exact .inr (tf_mem h).2
    · exact .inl h
end
theorem subT_of {X Y : List (Addr × Obj)} (h : ∀ p ∈ X, p ∈ Y) : SubT X Y := fun p hp _ => h p hp
theorem subT_nil {Y : List (Addr × Obj)} : SubT [] Y := fun _ h => nomatch h
theorem subT_cons {X Y : List (Addr × Obj)} {p : Addr × Obj} (h : p ∈ Y) (r : SubT X Y) : SubT (p :: X) Y := fun q hq c => by
  rcases List.mem_cons.mp hq with rfl | hq
  · exact h
  · exact r q hq c
theorem subT_skip {X Y : List (Addr × Obj)} {p : Addr × Obj} (h : isTupB p.2 = false) (r : SubT X Y) : SubT (p :: X) Y := fun q hq c => by
  rcases List.mem_cons.mp hq with rfl | hq
  · rw [c] at h; cases h
  · exact r q hq c
theorem subT_app {X Z Y : List (Addr × Obj)} (h : SubT X Y) (r : SubT Z Y) : SubT (X ++ Z) Y := fun q hq c => by
  rcases List.mem_append.mp hq with hq | hq
  · exact h q hq c
  · exact r q hq c
theorem GrowT.mem {Y Y₁ : List (Addr × Obj)} {p : Addr × Obj} (g : GrowT Y Y₁) (h : List.Mem p Y) : List.Mem p Y₁ := g.1 p h
theorem GrowT.mem' {Y Y₁ : List (Addr × Obj)} {p : Addr × Obj} (g : GrowT Y Y₁) (h : p ∈ Y) : p ∈ Y₁ := g.1 p h
theorem Con.intro {w : World} {f : Addr} {args : List Value} {d u : Nat} {Ms Y : List (Addr × Obj)} {Post : List (Addr × Obj) → List (Addr × Obj) → Value → Prop}
    (h : ∀ (dp un : Nat) (gd : Option (List Code)) (cn : Str) (cs : Scope) (a : Addr) (ccd : Value) (cl : List (Str × Addr)) (outer : List Env) (A₀ : Around) (base h₀ : Heap) (L : Addr) (m : Str → Option Value) (s : Shared)
      (mean : ExcName → Option Value) (mg mb : Str → Option Value) (Q E : Value → Shared → Prop),
      Below A₀ base outer h₀ → Fr h₀ L s.heap m → (hd.heap_39 w.params).In h₀ → News h₀ L s.heap (Ms ++ Y) → Top hd.view_39 (looseW hd.view_39 [Str.ofString "RowsError"]) mean mg mb h₀ → cs.kind = .function → dp + d < recursionLimit → un + u < cLine →
      (∀ M' messy r h' tk', Fr h₀ L h' m → News h₀ L h' messy → (∀ p ∈ M', p ∈ messy) → (∀ p ∈ Y, p ∈ messy) → (∀ Y₁, SubT messy Y₁ → Post M' Y₁ r) → Q r { s with heap := h', toks := tk' }) →
      wpAny (model PySem.Challenge.rw_pq0689_01.row.prog w) (ktrTop dp un gd cn cs L a ccd cl outer) (call (.ref f) args) Q E s) :
    Con w f args d u Ms Y Post := by
  intro dp un gd cn cs a ccd cl outer A₀ base h₀ L m s mean mg mb Q E B F X N T hk hd hu hret
  exact h dp un gd cn cs a ccd cl outer A₀ base h₀ L m s mean mg mb Q E B F X N T hk hd hu fun M' messy r h' tk' F' N' hM hY hp => con_fin hret F' N' hM hY hp
/-- ways that meet again: what each of them leaves -/
def Joined (h₀ : Heap) (L : Addr) (m : Str → Option Value) (ex Y : List (Addr × Obj)) (Post : List (Addr × Obj) → List (Addr × Obj) → Value → Prop) (s : Shared) (v : Value) (s' : Shared) : Prop :=
  ∃ M' Y₂ h' tk', s' = { s with heap := h', toks := tk' } ∧ GrowT Y Y₂ ∧ Fr h₀ L h' m ∧ News h₀ L h' (M' ++ (ex ++ Y₂)) ∧ Post M' Y₂ v
theorem join_cut {M : Model} {A : Around} {t : Sem Value} {h₀ : Heap} {L : Addr} {m : Str → Option Value} {Ms ex Y news : List (Addr × Obj)} {Post : List (Addr × Obj) → List (Addr × Obj) → Value → Prop} {s : Shared} {Q E : Value → Shared → Prop}
    (F : Fr h₀ L s.heap m) (_N : News h₀ L s.heap news) (_hm : ∀ p ∈ Ms, p ∈ news) (_hc : Cut Ms Y news ex) (h1 : wpAny M A t (Joined h₀ L m ex Y Post s) E s)
    (h2 : ∀ v M' Y₂ h' tk', GrowT Y Y₂ → Fr h₀ L h' m → News h₀ L h' (M' ++ (ex ++ Y₂)) → Post M' Y₂ v → Q v { s with heap := h', toks := tk' }) : wpAny M A t Q E s := by
  have _ := F
  refine wpAny_mono h1 ?_ fun _ _ e => e
  rintro v s' ⟨M', Y₂, h', tk', rfl, g, F', N', hp⟩
  exact h2 v M' Y₂ h' tk' g F' N' hp
theorem joined_end {h₀ : Heap} {L : Addr} {m : Str → Option Value} {ex Y messy : List (Addr × Obj)} {Post : List (Addr × Obj) → List (Addr × Obj) → Value → Prop} {s s' : Shared} {v : Value} (M' : List (Addr × Obj)) {h' : Heap} {tk' : Nat}
    (hs : s' = { s with heap := h', toks := tk' }) (F : Fr h₀ L h' m) (N : News h₀ L h' messy) (hM : ∀ p ∈ M', p ∈ messy) (hx : ∀ p ∈ ex, p ∈ messy) (hY : ∀ p ∈ Y, p ∈ messy) (hp : ∀ Y₁, SubT messy Y₁ → Post M' Y₁ v) :
    Joined h₀ L m ex Y Post s v s' := by
  refine ⟨M', tf messy ++ Y, h', tk', hs, ⟨fun p h => List.mem_append.mpr (.inr h), fun p h => ?_⟩, F, fun p hp => ?_, hp _ fun p h1 h2 => List.mem_append.mpr (.inl (tf_in h1 h2))⟩
  · rcases List.mem_append.mp h with h | h
    · exact .inr (tf_mem h).2
    · exact .inl h
  · rcases List.mem_append.mp hp with h | h
    · exact N p (hM p h)
    · rcases List.mem_append.mp h with h | h
      · exact N p (hx p h)
      · rcases List.mem_append.mp h with h | h
        · exact N p (tf_mem h).1
        · exact N p (hY p h)
theorem offLt {X news : List (Addr × Obj)} {D : Addr} (h : ∀ p ∈ news, p.1 < D) (s : ∀ p ∈ X, p ∈ news) : ∀ p ∈ X, p.1 ≠ D := fun p hp => Nat.ne_of_lt (h p (s p hp))
theorem unrEnd_cut {h₀ : Heap} {L I : Addr} {it : Obj} {rest : (Str → Option Value) → List (Addr × Obj) → Prop} {s₁ : Shared} {h' : Heap} {tk : Nat} {m' : Str → Option Value} {all ex Y : List (Addr × Obj)} (F : Fr h₀ L h' m') (N : News h₀ L h' all)
    (hI : ∀ p ∈ [(I, it)], p ∈ all) (hc : Cut [(I, it)] Y all ex) (hy : ∀ p ∈ Y, p.1 ≠ I) (r : rest m' (ex ++ Y)) : UnrEnd h₀ L s₁ I it rest { s₁ with heap := h', toks := tk } := by
  refine UnrEnd.intro F N (ex ++ Y) (fun p hp => ?_) (fun p hp => ?_) r
  · rcases List.mem_cons.mp hp with rfl | hp
    · exact hI _ (.head _)
    · exact hc.sub p hp
  · rcases List.mem_append.mp hp with h | h
    · exact (hc.off p h _ (.head _)).symm
    · exact hy p h
theorem add_lit {prog : Program} {w : World} {A : Around} {E : Value → Shared → Prop} {s : Shared} {a b c : Int} {t u : Tok} {Q : Value → Shared → Prop} (e : a + b = c) (h : Q (.int c s.toks) { s with toks := s.toks + 1 }) : wpAny (model prog w) A (binaryOp .Add (.int a t) (.int b u)) Q E s := by
  subst e; exact add_int h
end

section
-- Card
theorem reset_Card : True := by
  w_top off
  trivial
local macro_rules | `(tactic| lsm_bools) => `(tactic| first | exact List.Mem.head _ | assumption | (refine' List.Mem.tail _ ?_; lsm_bools) | (refine' GrowT.mem ?g ?h; (case g => assumption); (case h => lsm_bools)) | fail "no entry")
local macro_rules | `(tactic| k_mem) => `(tactic| first | lsm_bools | fail "no entry")
local macro_rules | `(tactic| tb_start) => `(tactic| first
  | exact List.forall_mem_nil _
  | (refine' List.forall_mem_cons.mpr ⟨?a, ?b⟩; (case a => lsm_bools); (case b => tb_start))
  | (intro p hp; repeat (first | exact hp | refine List.mem_cons_of_mem _ ?_ | refine List.Mem.tail _ ?_ | refine GrowT.mem' (by assumption) ?_ | refine GrowT.mem (by assumption) ?_ | fail "no entry"))
  | fail "not within")
local macro_rules | `(tactic| k_all) => `(tactic| first
  | assumption
  | (refine' GrowT.off ?g ?o ?N ?s ?m ?c; (case g => assumption); (case o => k_all); (case N => k_asm); (case s => tb_start); (case m => lsm_bools); (case c => rfl))
  | (refine' offLt ?h ?s; (case h => assumption); (case s => tb_start))
  | fail "not apart")
local macro_rules | `(tactic| k_lt $h:ident) => `(tactic| (have hl9 := $h; replace $h := allLt_of $h; simp only [AllLt, and_true] at $h:ident))
local macro_rules | `(tactic| kqd_sub) => `(tactic| first
  | (refine' Cut.own ?m ?r; (case m => lsm_bools); (case r => kqd_sub))
  | (refine' Cut.oth ?o ?r; (case o => k_all); (case r => kqd_sub))
  | exact Cut.tail
  | fail "no cut")
local macro_rules | `(tactic| ktr_rel) => `(tactic| first
  | exact subT_nil
  | exact subT_of (fun _ hp => hp)
  | assumption
  | (refine' subT_skip ?a ?b; (case a => rfl); (case b => ktr_rel))
  | (refine' subT_cons ?a ?b; (case a => lsm_bools); (case b => ktr_rel))
  | (refine' subT_of ?h; (case h => tb_start))
  | (refine' subT_app ?a ?b; (case a => ktr_rel); (case b => ktr_rel))
  | fail "tuples not within")
local macro_rules | `(tactic| k_room) => `(tactic| ktr_room)
local macro_rules | `(tactic| k_units) => `(tactic| ktr_units)
local macro_rules | `(tactic| tb_rel) => `(tactic| first
  | exact TAll.nil
  | exact TIn.str _ _
  | exact TIn.int _ _
  | exact TIn.bytes _ _
  | assumption
  | (refine' TIn.mono ?s ?h; (case h => assumption); (case s => ktr_rel))
  | (refine' TAll.mono ?s ?h; (case h => assumption); (case s => ktr_rel))
  | (refine' TIn.tuple ?m ?r; (case m => lsm_bools); (case r => tb_rel))
  | (refine' TAll.cons ?h ?t; (case h => tb_rel); (case t => tb_rel))
  | fail "no tree")
local macro_rules | `(tactic| walk_at "compareOp In str ref") => `(tactic| (k_here; k_dflt (refine' in_tupL ?ht ?hi ?_; (case ht => (refine' tupK ?X ?l; (case X => k_in); (case l => k_is))); (case hi => exact rfl))))
local macro_rules | `(tactic| walk_at "compareOp Eq ref ref") => `(tactic| (k_here; k_dflt (first
  | (refine' eq_dat (r := false) ?H ?d1 ?d2 ?hc ?hd ?hu ?_; (case H => exact heldOf (by k_asm)); (case d1 => tb_rel); (case d2 => tb_rel); (case hc => with_unfolding_all rfl); (case hd => exact Nat.le_of_ble_eq_true rfl); (case hu => ktr_units))
  | (refine' eq_dat (r := true) ?H ?d1 ?d2 ?hc ?hd ?hu ?_; (case H => exact heldOf (by k_asm)); (case d1 => tb_rel); (case d2 => tb_rel); (case hc => with_unfolding_all rfl); (case hd => exact Nat.le_of_ble_eq_true rfl); (case hu => ktr_units)))))
local macro_rules | `(tactic| walk_at "compareOp NotEq ref ref") => `(tactic| (k_here; k_dflt (first
  | (refine' ne_dat (r := false) ?H ?d1 ?d2 ?hc ?hd ?hu ?_; (case H => exact heldOf (by k_asm)); (case d1 => tb_rel); (case d2 => tb_rel); (case hc => with_unfolding_all rfl); (case hd => exact Nat.le_of_ble_eq_true rfl); (case hu => ktr_units))
  | (refine' ne_dat (r := true) ?H ?d1 ?d2 ?hc ?hd ?hu ?_; (case H => exact heldOf (by k_asm)); (case d1 => tb_rel); (case d2 => tb_rel); (case hc => with_unfolding_all rfl); (case hd => exact Nat.le_of_ble_eq_true rfl); (case hu => ktr_units)))))
local macro_rules | `(tactic| walk_at "subscriptTail Name Constant ref int") => `(tactic| (k_here; k_dflt (refine' item_tupleT ?t ?a ?b ?c ?d ?_; (case t => exact News.isTup (by k_asm) (by k_mem)); (case a => decide); (case b => decide); (case c => rfl); (case d => rfl); k_whole)))
local macro_rules | `(tactic| walk_at "ite") => `(tactic| (k_closed; k_dflt (first | (refine' ite_pos ?c ?_; (case c => decide)) | (refine' ite_neg ?c ?_; (case c => decide)))))
set_option maxHeartbeats 1000000 in
theorem card_spec (w : World) (l : Nat) (a b many : Int) (ta tb tm : Tok) (n : Nat) (Y : List (Addr × Obj)) (ha : 0 ≤ a) (hb : 0 ≤ b) (hb' : b < 65413) (hm : 0 < many) (hm' : many < 100)
    (f1 : ∀ p ∈ Y, p.1 ≠ l) :
    Spec w 200 [.ref l, .int many tm] 3 40 ((l, listOf #[.int a ta, .int b tb] n) :: Y)
      (fun news' r => ∃ a' b' c ta' tb' tc n', news' = (l, listOf #[.int a' ta', .int b' tb'] n') :: Y ∧ r = .int c tc ∧ 0 ≤ a' ∧ 0 ≤ b' ∧ b' < 65413 ∧ 0 ≤ c ∧ c < many) := by
  unfold Spec
  intro dp un gd cn cs fa ccd cl outer A₀ base h₀ L m s mean mg mb Q E B F X N Tp hk hd hu fin
  refine wpAny_call ?_
  w_strict (
    k_dflt ktr_enter
    k_steps)
  · refine' fin _ _ _ _ (by k_asm) (by k_asm) ?P
    case P =>
      refine ⟨_, _, _, _, _, _, _, rfl, rfl, ?_⟩
      have h1 : Int.fmod a many = a % many := Int.fmod_eq_emod_of_nonneg a (by omega)
      have h2 : Int.fdiv a many = a / many := Int.fdiv_eq_ediv_of_nonneg a (by omega)
      simp only [Int.toNat_zero, List.getD_cons_zero, h1, h2]
      exact ⟨Int.ediv_nonneg ha (by omega), hb, hb', Int.emod_nonneg _ (by omega), Int.emod_lt_of_pos _ hm⟩
  · refine' fin _ _ _ _ (by k_asm) (by k_asm) ?P
    case P =>
      refine ⟨_, _, _, _, _, _, _, rfl, rfl, ?_⟩
      have e1 : Int.toNat 1 = 1 := rfl
      simp only [e1, List.getD_cons_zero, List.getD_cons_succ]
      have h1 : ∀ x : Int, Int.fmod x 65413 = x % 65413 := fun x => Int.fmod_eq_emod_of_nonneg x (by omega)
      have h2 : ∀ x : Int, Int.fdiv x 10 = x / 10 := fun x => Int.fdiv_eq_ediv_of_nonneg x (by omega)
      have h3 : ∀ x : Int, Int.fmod x many = x % many := fun x => Int.fmod_eq_emod_of_nonneg x (by omega)
      simp only [h1, h2, h3]
      exact ⟨ha, Int.emod_nonneg _ (by omega), Int.emod_lt_of_pos _ (by omega), Int.emod_nonneg _ (by omega), Int.emod_lt_of_pos _ hm⟩

section
variable {w : World} {Y news : List (Addr × Obj)} {g : Obj → List (Addr × Obj)}
  {dp un : Nat} {gd : Option (List Code)} {cn : Str} {cs : Scope} {fa : Addr} {ccd : Value} {cl : List (Str × Addr)} {outer : List Env} {A₀ : Around} {base h₀ : Heap} {L : Addr} {m : Str → Option Value} {s : Shared}
  {mean : ExcName → Option Value} {mg mb : Str → Option Value} {Q E : Value → Shared → Prop}
theorem card_use {l : Nat} {a b many : Int} {ta tb tm : Tok} {n : Nat} (B : Below A₀ base outer h₀) (F : Fr h₀ L s.heap m) (X : (hd.heap_39 w.params).In h₀) (N : News h₀ L s.heap news)
    (T : Top hd.view_39 (looseW hd.view_39 [Str.ofString "RowsError"]) mean mg mb h₀) (hk : cs.kind = .function) (U : UpdF l (listOf #[.int a ta, .int b tb] n) news g) (hl : 0 ≤ a ∧ 0 ≤ b ∧ b < 65413) (hm : 0 < many) (hm' : many < 100)
    (hd : dp + 3 < recursionLimit) (hu : un + 40 < cLine)
    (ret : ∀ a' b' c ta' tb' tc n' h' tk', Fr h₀ L h' m → News h₀ L h' (g (listOf #[.int a' ta', .int b' tb'] n')) → 0 ≤ a' ∧ 0 ≤ b' ∧ b' < 65413 → 0 ≤ c → c < many → Q (.int c tc) { s with heap := h', toks := tk' }) :
    wpAny (model PySem.Challenge.rw_pq0689_01.row.prog w) (ktrTop dp un gd cn cs L fa ccd cl outer) (call (.ref 200) [.ref l, .int many tm]) Q E s := by
  obtain ⟨pre, post, rfl, hg, h1, h2⟩ := U.split
  refine card_spec w l a b many ta tb tm n (pre ++ post) hl.1 hl.2.1 hl.2.2 hm hm' (fun p hp => (List.mem_append.mp hp).elim (h1 p) (h2 p)) dp un gd cn cs fa ccd cl outer A₀ base h₀ L m s mean mg mb Q E B F X
    (fun p hp => N p ?_) T hk hd hu ?_
  · simp only [List.mem_cons, List.mem_append] at hp ⊢
    rcases hp with h | h | h
    · exact .inr (.inl h)
    · exact .inl h
    · exact .inr (.inr h)
  · rintro r news' h' tk' F' N' ⟨a', b', c, ta', tb', tc, n', rfl, rfl, p1, p2, p3, p4, p5⟩
    refine ret a' b' c ta' tb' tc n' h' tk' F' ?_ ⟨p1, p2, p3⟩ p4 p5
    rw [hg]
    intro p hp
    refine N' p ?_
    simp only [List.mem_cons, List.mem_append] at hp ⊢
    rcases hp with h | h | h
    · exact .inr (.inl h)
    · exact .inl h
    · exact .inr (.inr h)
end
end

section
-- Tree
abbrev sS (x : String) : Dat := .str (Str.ofString x)
abbrev symD (x : Str) : Dat := .tuple [sS "sym", .str x]
abbrev exD (h : String) (ds : List Dat) : Dat := .tuple [sS "expr", sS h, .tuple ds]
def leafD : Nat → Dat
  | 0 => symD (Str.ofString "a")
  | 1 => symD (Str.ofString "b")
  | 2 => symD (Str.ofString "c")
  | 3 => exD "call" [symD (Str.ofString "g"), symD (Str.ofString "x"), .tuple [sS "int", .int 2]]
  | 4 => exD "ref" [symD (Str.ofString "v"), .tuple [sS "int", .int 1]]
  | 5 => .tuple [sS "int", .int 7]
  | _ => .tuple [sS "text", .bytes #[116]]
inductive Cal where
  | nm (x : Str)
  | own
def opsL : List Str := [Str.ofString "f", Str.ofString "+", Str.ofString "sqrt", Str.ofString "-"]
def Cal.dat : Cal → Dat
  | .nm x => symD x
  | .own => exD "." [symD (Str.ofString "m"), symD (Str.ofString "h")]
def Cal.ok : Cal → Prop
  | .nm x => x ∈ opsL
  | .own => True
inductive Tr where
  | leaf (k : Nat)
  | d1 (c : Cal) (x : Tr)
  | d2 (c : Cal) (x y : Tr)
  | d3 (c : Cal) (x y z : Tr)
def Tr.dat : Tr → Dat
  | .leaf k => leafD k
  | .d1 c x => exD "dotcall" [c.dat, x.dat]
  | .d2 c x y => exD "dotcall" [c.dat, x.dat, y.dat]
  | .d3 c x y z => exD "dotcall" [c.dat, x.dat, y.dat, z.dat]
def Tr.ok : Nat → Tr → Prop
  | _, .leaf k => k < 7
  | 0, _ => False
  | n + 1, .d1 c x => c.ok ∧ x.ok n
  | n + 1, .d2 c x y => c.ok ∧ x.ok n ∧ y.ok n
  | n + 1, .d3 c x y z => c.ok ∧ x.ok n ∧ y.ok n ∧ z.ok n
def Tr.isDots : Tr → Prop
  | .leaf _ => False
  | _ => True
end

section
-- LawLeaf
theorem reset_LawLeaf : True := by
  w_top off
  trivial
local macro_rules | `(tactic| lsm_bools) => `(tactic| first | exact List.Mem.head _ | assumption | (refine' List.Mem.tail _ ?_; lsm_bools) | (refine' GrowT.mem ?g ?h; (case g => assumption); (case h => lsm_bools)) | fail "no entry")
local macro_rules | `(tactic| k_mem) => `(tactic| first | lsm_bools | fail "no entry")
local macro_rules | `(tactic| tb_start) => `(tactic| first
  | exact List.forall_mem_nil _
  | (refine' List.forall_mem_cons.mpr ⟨?a, ?b⟩; (case a => lsm_bools); (case b => tb_start))
  | (intro p hp; repeat (first | exact hp | refine List.mem_cons_of_mem _ ?_ | refine List.Mem.tail _ ?_ | refine GrowT.mem' (by assumption) ?_ | refine GrowT.mem (by assumption) ?_ | fail "no entry"))
  | fail "not within")
local macro_rules | `(tactic| k_all) => `(tactic| first
  | assumption
  | (refine' GrowT.off ?g ?o ?N ?s ?m ?c; (case g => assumption); (case o => k_all); (case N => k_asm); (case s => tb_start); (case m => lsm_bools); (case c => rfl))
  | (refine' offLt ?h ?s; (case h => assumption); (case s => tb_start))
  | fail "not apart")
local macro_rules | `(tactic| k_lt $h:ident) => `(tactic| (have hl9 := $h; replace $h := allLt_of $h; simp only [AllLt, and_true] at $h:ident))
local macro_rules | `(tactic| kqd_sub) => `(tactic| first
  | (refine' Cut.own ?m ?r; (case m => lsm_bools); (case r => kqd_sub))
  | (refine' Cut.oth ?o ?r; (case o => k_all); (case r => kqd_sub))
  | exact Cut.tail
  | fail "no cut")
local macro_rules | `(tactic| ktr_rel) => `(tactic| first
  | exact subT_nil
  | exact subT_of (fun _ hp => hp)
  | assumption
  | (refine' subT_skip ?a ?b; (case a => rfl); (case b => ktr_rel))
  | (refine' subT_cons ?a ?b; (case a => lsm_bools); (case b => ktr_rel))
  | (refine' subT_of ?h; (case h => tb_start))
  | (refine' subT_app ?a ?b; (case a => ktr_rel); (case b => ktr_rel))
  | fail "tuples not within")
local macro_rules | `(tactic| k_room) => `(tactic| ktr_room)
local macro_rules | `(tactic| k_units) => `(tactic| ktr_units)
local macro_rules | `(tactic| tb_rel) => `(tactic| first
  | exact TAll.nil
  | exact TIn.str _ _
  | exact TIn.int _ _
  | exact TIn.bytes _ _
  | assumption
  | (refine' TIn.mono ?s ?h; (case h => assumption); (case s => ktr_rel))
  | (refine' TAll.mono ?s ?h; (case h => assumption); (case s => ktr_rel))
  | (refine' TIn.tuple ?m ?r; (case m => lsm_bools); (case r => tb_rel))
  | (refine' TAll.cons ?h ?t; (case h => tb_rel); (case t => tb_rel))
  | fail "no tree")
local macro_rules | `(tactic| walk_at "compareOp In str ref") => `(tactic| (k_here; k_dflt (refine' in_tupL ?ht ?hi ?_; (case ht => (refine' tupK ?X ?l; (case X => k_in); (case l => k_is))); (case hi => exact rfl))))
local macro_rules | `(tactic| walk_at "compareOp Eq ref ref") => `(tactic| (k_here; k_dflt (first
  | (refine' eq_dat (r := false) ?H ?d1 ?d2 ?hc ?hd ?hu ?_; (case H => exact heldOf (by k_asm)); (case d1 => tb_rel); (case d2 => tb_rel); (case hc => with_unfolding_all rfl); (case hd => exact Nat.le_of_ble_eq_true rfl); (case hu => ktr_units))
  | (refine' eq_dat (r := true) ?H ?d1 ?d2 ?hc ?hd ?hu ?_; (case H => exact heldOf (by k_asm)); (case d1 => tb_rel); (case d2 => tb_rel); (case hc => with_unfolding_all rfl); (case hd => exact Nat.le_of_ble_eq_true rfl); (case hu => ktr_units)))))
local macro_rules | `(tactic| walk_at "compareOp NotEq ref ref") => `(tactic| (k_here; k_dflt (first
  | (refine' ne_dat (r := false) ?H ?d1 ?d2 ?hc ?hd ?hu ?_; (case H => exact heldOf (by k_asm)); (case d1 => tb_rel); (case d2 => tb_rel); (case hc => with_unfolding_all rfl); (case hd => exact Nat.le_of_ble_eq_true rfl); (case hu => ktr_units))
  | (refine' ne_dat (r := true) ?H ?d1 ?d2 ?hc ?hd ?hu ?_; (case H => exact heldOf (by k_asm)); (case d1 => tb_rel); (case d2 => tb_rel); (case hc => with_unfolding_all rfl); (case hd => exact Nat.le_of_ble_eq_true rfl); (case hu => ktr_units)))))
local macro_rules | `(tactic| walk_at "subscriptTail Name Constant ref int") => `(tactic| (k_here; k_dflt (refine' item_tupleT ?t ?a ?b ?c ?d ?_; (case t => exact News.isTup (by k_asm) (by k_mem)); (case a => decide); (case b => decide); (case c => rfl); (case d => rfl); k_whole)))
local macro_rules | `(tactic| walk_at "ite") => `(tactic| (k_closed; k_dflt (first | (refine' ite_pos ?c ?_; (case c => decide)) | (refine' ite_neg ?c ?_; (case c => decide)))))
local macro_rules | `(tactic| walk_at "call ref") => `(tactic| (k_here; (with_reducible show wpAny _ _ (call (Value.ref 200) [Value.ref _, Value.int _ _] _) _ _ _); k_dflt (refine' card_use ?B ?F ?X ?N ?T ?hk ?U ?hl ?hm ?hm' ?hd ?hu ?_; (case B => k_asm); (case F => k_asm); (case X => k_asm); (case N => k_asm); (case T => k_asm); (case hk => first | rfl | assumption); (case U => k_updF); (case hl => exact ⟨by assumption, by assumption, by assumption⟩); (case hm => decide); (case hm' => decide); (case hd => ktr_room); (case hu => ktr_units); k_whole; intro a' b' c' ta' tb' tc' n' h' tk' F' N' hb' hc1 hc2; obtain ⟨hb1, hb2, hb3⟩ := hb'; (try dsimp only at N'); (try k_fold))))
local macro_rules | `(tactic| walk_at "call ref") => `(tactic| (k_here; (with_reducible show wpAny _ _ (call (Value.ref 200) [Value.ref _, Value.int 7 _] _) _ _ _); k_dflt (refine' card_use ?B ?F ?X ?N ?T ?hk ?U ?hl ?hm ?hm' ?hd ?hu ?_; (case B => k_asm); (case F => k_asm); (case X => k_asm); (case N => k_asm); (case T => k_asm); (case hk => first | rfl | assumption); (case U => k_updF); (case hl => exact ⟨by assumption, by assumption, by assumption⟩); (case hm => decide); (case hm' => decide); (case hd => ktr_room); (case hu => ktr_units); k_whole; intro a' b' c' ta' tb' tc' n' h' tk' F' N' hb' hc1 hc2; obtain ⟨hb1, hb2, hb3⟩ := hb'; (rcases (by omega : c' = 0 ∨ c' = 1 ∨ c' = 2 ∨ c' = 3 ∨ c' = 4 ∨ c' = 5 ∨ c' = 6) with e9 | e9 | e9 | e9 | e9 | e9 | e9) <;> (subst e9; (try dsimp only at N'); (try k_fold)))))
set_option maxHeartbeats 8000000 in
theorem lawLeaf_con (w : World) (l : Nat) (a b : Int) (ta tb : Tok) (n : Nat) (Y : List (Addr × Obj)) (ha : 0 ≤ a) (hb : 0 ≤ b) (hb' : b < 65413)
    (ho : ∀ q ∈ [(l, listOf #[Value.int a ta, Value.int b tb] n)], ∀ p ∈ Y, p.1 ≠ q.1) :
    Con w 221 [.ref l] 6 60 [(l, listOf #[.int a ta, .int b tb] n)] Y
      (fun M' Y₁ r => ∃ a' b' ta' tb' n' k, M' = [(l, listOf #[.int a' ta', .int b' tb'] n')] ∧ 0 ≤ a' ∧ 0 ≤ b' ∧ b' < 65413 ∧ k < 7 ∧ TIn Y₁ r (leafD k)) := by
  refine Con.intro ?_
  intro dp un gd cn cs fa ccd cl outer A₀ base h₀ L m s mean mg mb Q E B F X N Tp hk hd hu fin
  have f1 := ho _ (.head _)
  clear ho
  simp only [List.cons_append, List.nil_append] at N f1
  refine wpAny_call ?_
  w_strict (
    k_dflt ktr_enter
    k_steps)
  · refine' fin [(l, listOf #[.int _ _, .int _ _] _)] _ _ _ _ (by k_asm) (by k_asm) ?M ?Y ?P
    case M => tb_start
    case Y => tb_start
    case P => exact fun Y₁ hs => ⟨_, _, _, _, _, 0, rfl, by assumption, by assumption, by assumption, by decide, TIn.mono hs (by tb_rel)⟩
  · refine' fin [(l, listOf #[.int _ _, .int _ _] _)] _ _ _ _ (by k_asm) (by k_asm) ?M ?Y ?P
    case M => tb_start
    case Y => tb_start
    case P => exact fun Y₁ hs => ⟨_, _, _, _, _, 1, rfl, by assumption, by assumption, by assumption, by decide, TIn.mono hs (by tb_rel)⟩
  · refine' fin [(l, listOf #[.int _ _, .int _ _] _)] _ _ _ _ (by k_asm) (by k_asm) ?M ?Y ?P
    case M => tb_start
    case Y => tb_start
    case P => exact fun Y₁ hs => ⟨_, _, _, _, _, 2, rfl, by assumption, by assumption, by assumption, by decide, TIn.mono hs (by tb_rel)⟩
  · refine' fin [(l, listOf #[.int _ _, .int _ _] _)] _ _ _ _ (by k_asm) (by k_asm) ?M ?Y ?P
    case M => tb_start
    case Y => tb_start
    case P => exact fun Y₁ hs => ⟨_, _, _, _, _, 3, rfl, by assumption, by assumption, by assumption, by decide, TIn.mono hs (by tb_rel)⟩
  · refine' fin [(l, listOf #[.int _ _, .int _ _] _)] _ _ _ _ (by k_asm) (by k_asm) ?M ?Y ?P
    case M => tb_start
    case Y => tb_start
    case P => exact fun Y₁ hs => ⟨_, _, _, _, _, 4, rfl, by assumption, by assumption, by assumption, by decide, TIn.mono hs (by tb_rel)⟩
  · refine' fin [(l, listOf #[.int _ _, .int _ _] _)] _ _ _ _ (by k_asm) (by k_asm) ?M ?Y ?P
    case M => tb_start
    case Y => tb_start
    case P => exact fun Y₁ hs => ⟨_, _, _, _, _, 5, rfl, by assumption, by assumption, by assumption, by decide, TIn.mono hs (by tb_rel)⟩
  · refine' fin [(l, listOf #[.int _ _, .int _ _] _)] _ _ _ _ (by k_asm) (by k_asm) ?M ?Y ?P
    case M => tb_start
    case Y => tb_start
    case P => exact fun Y₁ hs => ⟨_, _, _, _, _, 6, rfl, by assumption, by assumption, by assumption, by decide, TIn.mono hs (by tb_rel)⟩
section
variable {w : World} {Y news ex : List (Addr × Obj)}
  {dp un : Nat} {gd : Option (List Code)} {cn : Str} {cs : Scope} {fa : Addr} {ccd : Value} {cl : List (Str × Addr)} {outer : List Env} {A₀ : Around} {base h₀ : Heap} {L : Addr} {m : Str → Option Value} {s : Shared}
  {mean : ExcName → Option Value} {mg mb : Str → Option Value} {Q E : Value → Shared → Prop}
theorem lawLeaf_use {l : Nat} {a b : Int} {ta tb : Tok} {n : Nat} (B : Below A₀ base outer h₀) (F : Fr h₀ L s.heap m) (X : (hd.heap_39 w.params).In h₀) (N : News h₀ L s.heap news)
    (T : Top hd.view_39 (looseW hd.view_39 [Str.ofString "RowsError"]) mean mg mb h₀) (hk : cs.kind = .function) (hm : ∀ p ∈ [(l, listOf #[Value.int a ta, Value.int b tb] n)], p ∈ news) (hc : Cut [(l, listOf #[Value.int a ta, Value.int b tb] n)] Y news ex) (hy : ∀ p ∈ Y, p.1 ≠ l) (hl : 0 ≤ a ∧ 0 ≤ b ∧ b < 65413)
    (hd : dp + 6 < recursionLimit) (hu : un + 60 < cLine)
    (ret : ∀ r a' b' ta' tb' n' k Y₂ h' tk', GrowT Y Y₂ → Fr h₀ L h' m → News h₀ L h' ((l, listOf #[.int a' ta', .int b' tb'] n') :: (ex ++ Y₂)) → 0 ≤ a' ∧ 0 ≤ b' ∧ b' < 65413 → k < 7 → TIn Y₂ r (leafD k) → Q r { s with heap := h', toks := tk' }) :
    wpAny (model PySem.Challenge.rw_pq0689_01.row.prog w) (ktrTop dp un gd cn cs L fa ccd cl outer) (call (.ref 221) [.ref l]) Q E s := by
  refine Con.use (ex := ex) (fun ho => lawLeaf_con w l a b ta tb n (ex ++ Y) hl.1 hl.2.1 hl.2.2 ho) ?_ hc hm (fun q hq => by rw [List.mem_singleton.mp hq]; exact hy) B F X N T hk hd hu ?_
  · rintro M' X Z r hs ⟨a', b', ta', tb', n', k, h1, h2, h3, h4, h5, h6⟩
    exact ⟨a', b', ta', tb', n', k, h1, h2, h3, h4, h5, h6.mono hs⟩
  · rintro r M' Y₂ h' tk' g F' N' ⟨a', b', ta', tb', n', k, rfl, h2, h3, h4, h5, h6⟩
    exact ret r a' b' ta' tb' n' k Y₂ h' tk' g F' N' ⟨h2, h3, h4⟩ h5 h6
end
end

section
-- Loops
open LCg
/-- a stop for the walk -/
def Hold (p : Prop) : Prop := p
theorem Hold.of {p : Prop} (h : Hold p) : p := h
theorem fr_con {h₀ h : Heap} {L : Addr} {m : Str → Option Value} {x : Str} {o : Option Value} (e : m x = o) (F : Fr h₀ L h m) : Fr h₀ L h (fun y => if y = x then o else m y) := by
  have : (fun y => if y = x then o else m y) = m := by
    funext y
    by_cases hy : y = x
    · rw [if_pos hy, hy, e]
    · rw [if_neg hy]
  rw [this]; exact F
section
variable {prog : Program} {w : World} {A : Around} {E : Value → Shared → Prop} {s : Shared} {env : Env} {h₀ : Heap} {x : Str} {body : List Stmt} {Q : Flow → Shared → Prop}
theorem unrPost_mono {L : Addr} {s₁ : Shared} {I : Addr} {it : Obj} {r1 r2 : (Str → Option Value) → List (Addr × Obj) → Prop} (hr : ∀ m' n', (∀ p ∈ n', p.1 ≠ I) → r1 m' n' → r2 m' n') :
    ∀ f s₂, UnrPost h₀ L s₁ I it r1 Q f s₂ → UnrPost h₀ L s₁ I it r2 Q f s₂ := by
  intro f s₂ h
  have step : UnrEnd h₀ L s₁ I it r1 s₂ → UnrEnd h₀ L s₁ I it r2 s₂ := by
    rintro ⟨h', tk, m', n', e, F, N, o, r⟩
    exact ⟨h', tk, m', n', e, F, N, o, hr m' n' o r⟩
  cases f with
  | ret v => exact h
  | brk => exact h
  | next => exact step h
  | cont => exact step h
theorem rangeRest_inv {I : Addr} {a : Int} {n : Nat} (J : Nat → (Str → Option Value) → List (Addr × Obj) → Prop)
    (turn : ∀ i m news t h tk it, i < n → it.cls = .type "range_iterator" → J i m news → (∀ p ∈ news, p.1 ≠ I) → Fr h₀ env.locals h (fun y => if y = x then some (.int (a + (i : Int)) t) else m y) →
      News h₀ env.locals h ((I, it) :: news) → wpAny (model prog w) A (execs body env) (UnrPost h₀ env.locals { s with heap := h, toks := tk } I it (J (i + 1)) Q) E { s with heap := h, toks := tk })
    (fin : ∀ m news h tk, J n m news → Fr h₀ env.locals h m → News h₀ env.locals h news → Q .next { s with heap := h, toks := tk }) :
    ∀ k i m news, i + k = n → J i m news → (∀ p ∈ news, p.1 ≠ I) → RangeRest prog w A E h₀ env x body Q s I a n k i m news := by
  intro k
  induction k with
  | zero =>
    intro i m news hi hJ _
    rw [Nat.add_zero] at hi
    subst hi
    exact RangeRest.zero fun h tk F N => fin m news h tk hJ F N
  | succ k ih =>
    intro i m news hi hJ ho
    refine RangeRest.succ fun t h tk F N => ?_
    exact wpAny_mono (turn i m news t h tk _ (by omega) rfl hJ ho F N) (unrPost_mono fun m' n' o r => ih (i + 1) m' n' (by omega) r o) fun _ _ e => e
theorem for_range_inv {r : Addr} {a b : Int} {t u v : Tok} {n : Nat} {m₀ : Str → Option Value} {news : List (Addr × Obj)} (J : Nat → (Str → Option Value) → List (Addr × Obj) → Prop)
    (hh : A.handled = none) (hr : IsRange s.heap r a b 1 t u v) (hsmall : Builtin.Range.small a b 1 = true) (hn : Builtin.Range.rangeSize a b 1 = (n : Int)) (F : Fr h₀ env.locals s.heap m₀) (N : News h₀ env.locals s.heap news) (j0 : J 0 m₀ news)
    (turn : ∀ I i m news t h tk it, i < n → it.cls = .type "range_iterator" → J i m news → (∀ p ∈ news, p.1 ≠ I) → Fr h₀ env.locals h (fun y => if y = x then some (.int (a + (i : Int)) t) else m y) →
      News h₀ env.locals h ((I, it) :: news) → wpAny (model prog w) A (execs body env) (UnrPost h₀ env.locals { s with heap := h, toks := tk } I it (J (i + 1)) Q) E { s with heap := h, toks := tk })
    (fin : ∀ m news h tk, J n m news → Fr h₀ env.locals h m → News h₀ env.locals h news → Q .next { s with heap := h, toks := tk }) :
    wpAny (model prog w) A (pyIter (.ref r)) (fun it s₂ => LoopAtV prog w A h₀ env x body Q E it s₂) E s :=
  iter_rangeUnr hh hr hsmall hn F N fun I hI => rangeRest_inv J (turn I) fin n 0 m₀ news (Nat.zero_add n) j0 fun p hp => Nat.ne_of_lt (hI p hp)

theorem for_tup_inv {ax : Addr} {vs : List Value} {nn : Nat} {m₀ : Str → Option Value} {news : List (Addr × Obj)} (J : Nat → (Str → Option Value) → List (Addr × Obj) → Prop)
    (hh : A.handled = none) (F : Fr h₀ env.locals s.heap m₀) (N : News h₀ env.locals s.heap news) (hm : ∀ i m n, J i m n → (ax, tupObj vs nn) ∈ n) (j0 : J 0 m₀ news)
    (turn : ∀ I i v it m news h tk, vs[i]? = some v → it.cls = .type "tuple_iterator" → J i m news → (∀ p ∈ news, p.1 ≠ I) → Fr h₀ env.locals h (fun y => if y = x then some v else m y) →
      News h₀ env.locals h ((I, it) :: news) → wpAny (model prog w) A (execs body env) (UnrPost h₀ env.locals { s with heap := h, toks := tk } I it (J (i + 1)) Q) E { s with heap := h, toks := tk })
    (fin : ∀ m news h tk, J vs.length m news → Fr h₀ env.locals h m → News h₀ env.locals h news → Q .next { s with heap := h, toks := tk }) :
    wpAny (model prog w) A (pyIter (.ref ax)) (fun it s₂ => LoopAtV prog w A h₀ env x body Q E it s₂) E s := by
  have hax := N _ (hm _ _ _ j0)
  have ht : s.heap.IsTuple ax vs.toArray := ⟨_, hax.1, rfl, nn, rfl⟩
  have hne : ax ≠ s.heap.objs.size := Nat.ne_of_lt (Heap.lt_size hax.1)
  refine wpAny_pyIter_tuple ht ?_
  have W := Walks.tuple (prog := prog) (w := w) hh s.heap.objs.size ax hne vs.toArray
  have hnew := next_is_new F
  have hlen : vs.toArray.size = vs.length := by simp
  rw [hlen] at W
  refine ⟨_, _, _, vs.length, _, _, m₀, news, J, rfl, W, ?_, ?_, ?_, ⟨⟨_, Heap.get?_push_size _ rfl, rfl, rfl⟩, ht.push _⟩, F.push _, (fun p hp => ⟨Heap.get?_push_of_some _ (N p hp).1, (N p hp).2⟩), j0, ?_, ?_⟩
  · intro hmm
    rcases List.mem_cons.mp hmm with e | hmm
    · exact absurd F.ns.lt (e ▸ Nat.lt_irrefl _)
    · exact hax.2.1 (List.mem_singleton.mp hmm).symm
  · intro b hb
    rw [List.mem_singleton.mp hb]
    exact hnew
  · intro p hp hI
    exact absurd (Heap.lt_size (N p hp).1) ((List.mem_singleton.mp hI) ▸ Nat.lt_irrefl _)
  · rintro i v m₁ news₁ s₁ own ⟨hh', tk', rfl⟩ hin hP hJ hoff hown hget hall hst F₁ N₁
    obtain ⟨it, hit, hic, hid⟩ := hst.1
    have hmemI := hall s.heap.objs.size (List.mem_cons_self ..) hnew _ hit
    have N₂ : News h₀ env.locals hh' ((s.heap.objs.size, it) :: news₁) := fun p hp => by
      rcases List.mem_cons.mp hp with rfl | hp
      · exact N₁ _ (List.mem_append_left _ hmemI)
      · exact N₁ _ (List.mem_append_right _ hp)
    have hv : vs[i]? = some v := by simpa using hP
    refine wpAny_mono (turn s.heap.objs.size i v it m₁ news₁ hh' tk' hv hic hJ (fun p hp e => hoff p hp (List.mem_singleton.mpr e)) F₁ N₂) (fun f s₂ p => ?_) fun _ _ e => e
    have fin' : UnrEnd h₀ env.locals { s with heap := hh', toks := tk' } s.heap.objs.size it (J (i + 1)) s₂ → LoopStepU h₀ env.locals [s.heap.objs.size] own (J (i + 1)) { s with heap := hh', toks := tk' } .next s₂ := by
      rintro ⟨h', tk, m', news', e, F', N', ho, r⟩
      refine ⟨rfl, h', tk, m', news', e, F', fun p hp => ?_, fun p hp hI => ho p hp (List.mem_singleton.mp hI), r⟩
      rcases List.mem_append.mp hp with hp | hp
      · have h2 : hh'.get? p.1 = some p.2 := hget p hp
        rcases List.mem_cons.mp (hown p hp) with h1 | h1
        · have h3 : p = (s.heap.objs.size, it) := by
            rw [h1, hit] at h2
            exact Prod.ext h1 (Option.some.inj h2).symm
          rw [h3]; exact N' _ (List.mem_cons_self ..)
        · have h1' : p.1 = ax := List.mem_singleton.mp h1
          have h3 : p = (ax, tupObj vs nn) := by
            rw [h1', (N₁ _ (List.mem_append_right _ (hm _ _ _ hJ))).1] at h2
            exact Prod.ext h1' (Option.some.inj h2).symm
          rw [h3]; exact N' _ (List.mem_cons_of_mem _ (hm _ _ _ r))
      · exact N' _ (List.mem_cons_of_mem _ hp)
    cases f with
    | ret v => exact .ret p
    | brk => exact .brk p
    | next => exact .next (fin' p)
    | cont => exact .cont (fin' p)
  · rintro h' tk m' news' F' N' _ hJ
    exact fin m' news' h' tk hJ F' N'
end
section
variable {prog : Program} {w : World} {A : Around} {E : Value → Shared → Prop} {s : Shared} {h₀ : Heap} {L : Addr} {m : Str → Option Value} {env : Env}
theorem compRest_inv {elt : Expr} {x : Str} {scope : Scope} {cl : List (Str × Addr)} {S : List (Addr × Obj) → Prop} {P : Nat → Value → Prop} {Fin : List Value → List (Addr × Obj) → Prop} {n : Nat} (J : Nat → List Value → List (Addr × Obj) → Prop)
    (turn : ∀ i ys news v I oI C oC D m₂ h tk (E' : Value → Shared → Prop), i < n → J i ys news → P i v → NsObj oC m₂ → m₂ x = some v → Fr h₀ L h m → News h₀ L h ((I, oI) :: (C, oC) :: (D, lst ys) :: news) → Off3 I C D news → ((@Ne Nat I C) ∧ (@Ne Nat I D) ∧ (@Ne Nat C D)) →
      wpAny (model prog w) A (eval elt (compEnvC scope cl C env)) (CompEnd h₀ L m { s with heap := h, toks := tk } I oI C oC D (lst ys) S (fun y news' => J (i + 1) (ys ++ [y]) news')) E' { s with heap := h, toks := tk })
    (fin : ∀ ys news, J n ys news → Fin ys news) : ∀ k i ys news, i + k = n → J i ys news → CompRest prog w A h₀ L m env elt x scope cl s S P Fin k i ys news := by
  intro k
  induction k with
  | zero =>
    intro i ys news hi hJ
    rw [Nat.add_zero] at hi
    subst hi
    exact CompRest.zero (fin _ _ hJ)
  | succ k ih =>
    intro i ys news hi hJ
    refine CompRest.succ fun v I oI C oC D m₂ h tk E' hP hC hx F N off ne => ?_
    refine wpAny_mono (turn i ys news v I oI C oC D m₂ h tk E' (by omega) hJ hP hC hx F N off ne) ?_ fun _ _ e => e
    rintro y s₂ ⟨h', tk', news', e, F', N', off', hS, r⟩
    exact ⟨h', tk', news', e, F', N', off', hS, ih (i + 1) _ _ (by omega) r⟩
end
end

section
-- Tree2
/-- a tree of the program's -/
inductive T where
  | sym (x : Str)
  | int (i : Int)
  | text (b : Array UInt8)
  | ex (h : Str) (ps : List T)
mutual
def T.dat : T → Dat
  | .sym x => .tuple [sS "sym", .str x]
  | .int i => .tuple [sS "int", .int i]
  | .text b => .tuple [sS "text", .bytes b]
  | .ex h ps => .tuple [sS "expr", .str h, .tuple (T.dats ps)]
def T.dats : List T → List Dat
  | [] => []
  | t :: r => t.dat :: T.dats r
end
theorem dats_append (xs ys : List T) : T.dats (xs ++ ys) = T.dats xs ++ T.dats ys := by
  induction xs with
  | nil => rfl
  | cons x xs ih => simp only [List.cons_append, T.dats, ih]
theorem dats_len (xs : List T) : (T.dats xs).length = xs.length := by
  induction xs with
  | nil => rfl
  | cons x xs ih => simp only [T.dats, List.length_cons, ih]
abbrev tS (x : String) : T := .sym (Str.ofString x)
abbrev tE (h : String) (ps : List T) : T := .ex (Str.ofString h) ps
def leafT : Nat → T
  | 0 => tS "a"
  | 1 => tS "b"
  | 2 => tS "c"
  | 3 => tE "call" [tS "g", tS "x", .int 2]
  | 4 => tE "ref" [tS "v", .int 1]
  | 5 => .int 7
  | _ => .text #[116]
theorem leafD_eq (k : Nat) : leafD k = (leafT k).dat := by
  match k with
  | 0 | 1 | 2 | 3 | 4 | 5 => rfl
  | k + 6 => rfl
def LeafOk (t : T) : Prop := ∃ k, k < 7 ∧ t = leafT k
def CalOk (t : T) : Prop := (∃ x, x ∈ opsL ∧ t = .sym x) ∨ t = tE "." [tS "m", tS "h"]
def DotT : Nat → T → Prop
  | 0, _ => False
  | n + 1, t => ∃ c ps, t = .ex (Str.ofString "dotcall") (c :: ps) ∧ CalOk c ∧ 1 ≤ ps.length ∧ ps.length ≤ 3 ∧ ∀ p ∈ ps, LeafOk p ∨ DotT n p
theorem TAll.append {Y : List (Addr × Obj)} {vs us : List Value} {ds es : List Dat} (h : TAll Y vs ds) (h' : TAll Y us es) : TAll Y (vs ++ us) (ds ++ es) := by
  induction vs generalizing ds with
  | nil => cases h; exact h'
  | cons v vs ih =>
    cases h with
    | cons a b => exact .cons a (ih b)
theorem TAll.snoc {Y : List (Addr × Obj)} {vs : List Value} {v : Value} {ts : List T} {t : T} (h : TAll Y vs (T.dats ts)) (h' : TIn Y v t.dat) : TAll Y (vs ++ [v]) (T.dats (ts ++ [t])) := by
  rw [dats_append]; exact h.append (.cons h' .nil)
theorem TAll.length {Y : List (Addr × Obj)} {vs : List Value} {ds : List Dat} (h : TAll Y vs ds) : vs.length = ds.length := by
  induction vs generalizing ds with
  | nil => cases h; rfl
  | cons v vs ih =>
    cases h with
    | cons a b => simp only [List.length_cons, ih b]
/-- ways that meet at a statement -/
def JFlow (h₀ : Heap) (L : Addr) (Y : List (Addr × Obj)) (Post : (Str → Option Value) → List (Addr × Obj) → List (Addr × Obj) → Prop) (s : Shared) (f : Flow) (s' : Shared) : Prop :=
  f = .next ∧ ∃ m' M' Y₂ h' tk', s' = { s with heap := h', toks := tk' } ∧ GrowT Y Y₂ ∧ Fr h₀ L h' m' ∧ News h₀ L h' (M' ++ Y₂) ∧ Post m' M' Y₂
section
variable {M : Model} {A : Around} {h₀ : Heap} {L : Addr} {s : Shared} {E : Value → Shared → Prop} {Y : List (Addr × Obj)}
theorem joinF {t : Sem Flow} {m : Str → Option Value} {Q : Flow → Shared → Prop} (_F : Fr h₀ L s.heap m) (Post : (Str → Option Value) → List (Addr × Obj) → List (Addr × Obj) → Prop) (h1 : wpAny M A t (JFlow h₀ L Y Post s) E s)
    (h2 : ∀ m' M' Y₂ h' tk', GrowT Y Y₂ → Fr h₀ L h' m' → News h₀ L h' (M' ++ Y₂) → Post m' M' Y₂ → Q .next { s with heap := h', toks := tk' }) : wpAny M A t Q E s := by
  refine wpAny_mono h1 ?_ fun _ _ e => e
  rintro f s' ⟨rfl, m', M', Y₂, h', tk', rfl, g, F', N', hp⟩
  exact h2 m' M' Y₂ h' tk' g F' N' hp
theorem joinF_end {Post : (Str → Option Value) → List (Addr × Obj) → List (Addr × Obj) → Prop} {s' : Shared} {messy : List (Addr × Obj)} {m' : Str → Option Value} (M' : List (Addr × Obj)) {h' : Heap} {tk' : Nat}
    (hs : s' = { s with heap := h', toks := tk' }) (F : Fr h₀ L h' m') (N : News h₀ L h' messy) (hM : ∀ p ∈ M', p ∈ messy) (hY : ∀ p ∈ Y, p ∈ messy) (hp : ∀ Y₁, SubT messy Y₁ → Post m' M' Y₁) : JFlow h₀ L Y Post s .next s' := by
  refine ⟨rfl, m', M', tf messy ++ Y, h', tk', hs, ⟨fun p h => List.mem_append.mpr (.inr h), fun p h => ?_⟩, F, fun p hp => ?_, hp _ fun p h1 h2 => List.mem_append.mpr (.inl (tf_in h1 h2))⟩
  · rcases List.mem_append.mp h with h | h
    · exact .inr (tf_mem h).2
    · exact .inl h
  · rcases List.mem_append.mp hp with h | h
    · exact N p (hM p h)
    · rcases List.mem_append.mp h with h | h
      · exact N p (tf_mem h).1
      · exact N p (hY p h)
/-- the same at an expression -/
def JVal (h₀ : Heap) (L : Addr) (m : Str → Option Value) (Y : List (Addr × Obj)) (Post : Value → List (Addr × Obj) → List (Addr × Obj) → Prop) (s : Shared) (v : Value) (s' : Shared) : Prop :=
  ∃ M' Y₂ h' tk', s' = { s with heap := h', toks := tk' } ∧ GrowT Y Y₂ ∧ Fr h₀ L h' m ∧ News h₀ L h' (M' ++ Y₂) ∧ Post v M' Y₂
theorem joinV {t : Sem Value} {m : Str → Option Value} {Q : Value → Shared → Prop} (_F : Fr h₀ L s.heap m) (Post : Value → List (Addr × Obj) → List (Addr × Obj) → Prop) (h1 : wpAny M A t (JVal h₀ L m Y Post s) E s)
    (h2 : ∀ v M' Y₂ h' tk', GrowT Y Y₂ → Fr h₀ L h' m → News h₀ L h' (M' ++ Y₂) → Post v M' Y₂ → Q v { s with heap := h', toks := tk' }) : wpAny M A t Q E s := by
  refine wpAny_mono h1 ?_ fun _ _ e => e
  rintro v s' ⟨M', Y₂, h', tk', rfl, g, F', N', hp⟩
  exact h2 v M' Y₂ h' tk' g F' N' hp
theorem joinV_end {Post : Value → List (Addr × Obj) → List (Addr × Obj) → Prop} {v : Value} {s' : Shared} {messy : List (Addr × Obj)} {m : Str → Option Value} (M' : List (Addr × Obj)) {h' : Heap} {tk' : Nat}
    (hs : s' = { s with heap := h', toks := tk' }) (F : Fr h₀ L h' m) (N : News h₀ L h' messy) (hM : ∀ p ∈ M', p ∈ messy) (hY : ∀ p ∈ Y, p ∈ messy) (hp : ∀ Y₁, SubT messy Y₁ → Post v M' Y₁) : JVal h₀ L m Y Post s v s' := by
  refine ⟨M', tf messy ++ Y, h', tk', hs, ⟨fun p h => List.mem_append.mpr (.inr h), fun p h => ?_⟩, F, fun p hp => ?_, hp _ fun p h1 h2 => List.mem_append.mpr (.inl (tf_in h1 h2))⟩
  · rcases List.mem_append.mp h with h | h
    · exact .inr (tf_mem h).2
    · exact .inl h
  · rcases List.mem_append.mp hp with h | h
    · exact N p (hM p h)
    · rcases List.mem_append.mp h with h | h
      · exact N p (tf_mem h).1
      · exact N p (hY p h)
end
section
variable {w : World} {Y news ex : List (Addr × Obj)}
  {dp un : Nat} {gd : Option (List Code)} {cn : Str} {cs : Scope} {fa : Addr} {ccd : Value} {cl : List (Str × Addr)} {outer : List Env} {A₀ : Around} {base h₀ : Heap} {L : Addr} {m : Str → Option Value} {s : Shared}
  {mean : ExcName → Option Value} {mg mb : Str → Option Value} {Q E : Value → Shared → Prop}
theorem lawLeaf_useT {l : Nat} {a b : Int} {ta tb : Tok} {n : Nat} (B : Below A₀ base outer h₀) (F : Fr h₀ L s.heap m) (X : (hd.heap_39 w.params).In h₀) (N : News h₀ L s.heap news)
    (T : Top hd.view_39 (looseW hd.view_39 [Str.ofString "RowsError"]) mean mg mb h₀) (hk : cs.kind = .function) (hm : ∀ p ∈ [(l, listOf #[Value.int a ta, Value.int b tb] n)], p ∈ news) (hc : Cut [(l, listOf #[Value.int a ta, Value.int b tb] n)] Y news ex) (hy : ∀ p ∈ Y, p.1 ≠ l) (hl : 0 ≤ a ∧ 0 ≤ b ∧ b < 65413)
    (hd : dp + 6 < recursionLimit) (hu : un + 60 < cLine)
    (ret : ∀ r a' b' ta' tb' n' t Y₂ h' tk', GrowT Y Y₂ → Fr h₀ L h' m → News h₀ L h' ((l, listOf #[.int a' ta', .int b' tb'] n') :: (ex ++ Y₂)) → 0 ≤ a' ∧ 0 ≤ b' ∧ b' < 65413 → LeafOk t → TIn Y₂ r t.dat → Q r { s with heap := h', toks := tk' }) :
    wpAny (model PySem.Challenge.rw_pq0689_01.row.prog w) (ktrTop dp un gd cn cs L fa ccd cl outer) (call (.ref 221) [.ref l]) Q E s :=
  lawLeaf_use B F X N T hk hm hc hy hl hd hu fun r a' b' ta' tb' n' k Y₂ h' tk' g F' N' hb hk7 hr => ret r a' b' ta' tb' n' (leafT k) Y₂ h' tk' g F' N' hb ⟨k, hk7, rfl⟩ (leafD_eq k ▸ hr)
end
theorem GrowT.trans {X Y Z : List (Addr × Obj)} (g : GrowT X Y) (h : GrowT Y Z) : GrowT X Z := ⟨fun p q => h.1 p (g.1 p q), fun p q => (h.2 p q).elim (fun r => g.2 p r) .inr⟩
end

section
-- DotsLoop
abbrev kS (x : String) : Str := Str.ofString x
def DotsJ (l pz cv : Addr) (hh : Int) (th : Tok) (nn : Nat) (Y₂ : List (Addr × Obj)) (i : Nat) (m : Str → Option Value) (news : List (Addr × Obj)) : Prop :=
  ∃ a b ta tb n vs pn ts Y₃, news = (l, listOf #[.int a ta, .int b tb] n) :: (pz, listOf (List.toArray vs) pn) :: Y₃ ∧ GrowT Y₂ Y₃ ∧ (0 ≤ a ∧ 0 ≤ b ∧ b < 65413) ∧ TAll Y₃ vs (T.dats ts) ∧ ts.length = i ∧ (∀ p ∈ ts, LeafOk p ∨ DotT nn p) ∧
    (∀ p ∈ Y₃, p.1 ≠ l) ∧ (∀ p ∈ Y₃, p.1 ≠ pz) ∧ m (kS "lot") = some (.ref l) ∧ m (kS "high") = some (.int hh th) ∧ m (kS "callee") = some (.ref cv) ∧ m (kS "parts") = some (.ref pz)
section
variable {prog : Program} {w : World} {A : Around} {E : Value → Shared → Prop} {s : Shared} {env : Env} {h₀ : Heap} {x : Str} {body : List Stmt} {Q : Flow → Shared → Prop}
theorem dots_loop {l pz cv r : Addr} {c a b : Int} {t u v ta tb th : Tok} {n : Nat} {hh : Int} {Y₂ : List (Addr × Obj)} {m₀ : Str → Option Value} (nn : Nat)
    (hA : A.handled = none) (hr : IsRange s.heap r 0 (1 + c) 1 t u v) (hc0 : 0 ≤ c) (hc3 : c < 3) (F : Fr h₀ env.locals s.heap m₀) (N : News h₀ env.locals s.heap ((pz, listOf #[] 0) :: (l, listOf #[.int a ta, .int b tb] n) :: Y₂))
    (hl1 : 0 ≤ a) (hl2 : 0 ≤ b) (hl3 : b < 65413) (o1 : ∀ p ∈ Y₂, p.1 ≠ l) (o2 : ∀ p ∈ Y₂, p.1 ≠ pz) (o3 : @Ne Nat l pz)
    (e1 : m₀ (kS "lot") = some (.ref l)) (e2 : m₀ (kS "high") = some (.int hh th)) (e3 : m₀ (kS "callee") = some (.ref cv)) (e4 : m₀ (kS "parts") = some (.ref pz))
    (turn : ∀ (pz' : Addr) (_ : pz' = pz) (I : Addr) (i : Nat) (m : Str → Option Value) (h : Heap) (tk : Nat) (it : Obj) (a b : Int) (ta tb : Tok) (n : Nat) (vs : List Value) (pn : Nat) (ts : List T) (Y₃ : List (Addr × Obj)) (t : Tok), it.cls = .type "range_iterator" → ts.length = i → (∀ p ∈ ts, LeafOk p ∨ DotT nn p) → (∀ p ∈ Y₃, p.1 ≠ I) → (@Ne Nat l I) → (@Ne Nat pz I) → (∀ p ∈ Y₃, p.1 ≠ l) → (∀ p ∈ Y₃, p.1 ≠ pz) → GrowT Y₂ Y₃ → 0 ≤ a → 0 ≤ b → b < 65413 → TAll Y₃ vs (T.dats ts) → vs.length ≤ 2 →
      Fr h₀ env.locals h (fun y => if y = x then some (.int (0 + (i : Int)) t) else if y = kS "lot" then some (.ref l) else if y = kS "high" then some (.int hh th) else if y = kS "callee" then some (.ref cv) else if y = kS "parts" then some (.ref pz) else m y) →
      News h₀ env.locals h ((I, it) :: (l, listOf #[.int a ta, .int b tb] n) :: (pz, listOf (List.toArray vs) pn) :: Y₃) →
      wpAny (model prog w) A (execs body env) (UnrPost h₀ env.locals { s with heap := h, toks := tk } I it (DotsJ l pz cv hh th nn Y₂ (i + 1)) Q) E { s with heap := h, toks := tk })
    (fin : ∀ (m : Str → Option Value) (h : Heap) (tk : Nat) (a b : Int) (ta tb : Tok) (n : Nat) (vs : List Value) (pn : Nat) (ts : List T) (Y₃ : List (Addr × Obj)), 1 ≤ ts.length → ts.length ≤ 3 → (∀ p ∈ ts, LeafOk p ∨ DotT nn p) → (∀ p ∈ Y₃, p.1 ≠ l) → (∀ p ∈ Y₃, p.1 ≠ pz) → GrowT Y₂ Y₃ → 0 ≤ a → 0 ≤ b → b < 65413 → TAll Y₃ vs (T.dats ts) → vs.length ≤ 3 →
      Fr h₀ env.locals h (fun y => if y = kS "lot" then some (.ref l) else if y = kS "high" then some (.int hh th) else if y = kS "callee" then some (.ref cv) else if y = kS "parts" then some (.ref pz) else m y) →
      News h₀ env.locals h ((l, listOf #[.int a ta, .int b tb] n) :: (pz, listOf (List.toArray vs) pn) :: Y₃) → Q .next { s with heap := h, toks := tk }) :
    wpAny (model prog w) A (pyIter (.ref r)) (fun it s₂ => LoopAtV prog w A h₀ env x body Q E it s₂) E s := by
  have con : ∀ {h : Heap} {m : Str → Option Value}, m (kS "lot") = some (.ref l) → m (kS "high") = some (.int hh th) → m (kS "callee") = some (.ref cv) → m (kS "parts") = some (.ref pz) →
      m = (fun y => if y = kS "lot" then some (.ref l) else if y = kS "high" then some (.int hh th) else if y = kS "callee" then some (.ref cv) else if y = kS "parts" then some (.ref pz) else m y) := by
    intro h m q1 q2 q3 q4
    funext y
    by_cases h1 : y = kS "lot"
    · rw [if_pos h1, h1, q1]
    · rw [if_neg h1]
      by_cases h2 : y = kS "high"
      · rw [if_pos h2, h2, q2]
      · rw [if_neg h2]
        by_cases h3 : y = kS "callee"
        · rw [if_pos h3, h3, q3]
        · rw [if_neg h3]
          by_cases h4 : y = kS "parts"
          · rw [if_pos h4, h4, q4]
          · rw [if_neg h4]
  refine for_range_inv (n := (1 + c - 0).toNat) (DotsJ l pz cv hh th nn Y₂) hA hr (small_one (by omega) (by omega) (by omega) (by omega)) (rangeSize_nat _ _) F (news := (l, listOf #[.int a ta, .int b tb] n) :: (pz, listOf (List.toArray []) 0) :: Y₂)
    (fun p hp => N p ?_) ⟨a, b, ta, tb, n, [], 0, [], Y₂, rfl, GrowT.refl _, ⟨hl1, hl2, hl3⟩, .nil, rfl, (fun p (h : p ∈ []) => nomatch h), o1, o2, e1, e2, e3, e4⟩ ?_ ?_
  · rcases List.mem_cons.mp hp with rfl | hp
    · exact .tail _ (.head _)
    · rcases List.mem_cons.mp hp with rfl | hp
      · exact .head _
      · exact .tail _ (.tail _ hp)
  · rintro I i m news t h tk it hi hit ⟨a, b, ta, tb, n, vs, pn, ts, Y₃, rfl, g, ⟨q1, q2, q3⟩, hT, hlen, hok, p1, p2, m1, m2, m3, m4⟩ off F' N'
    have hvl : vs.length ≤ 2 := by
      have := hT.length
      rw [dats_len] at this
      omega
    rw [con (h := h) m1 m2 m3 m4] at F'
    exact turn pz rfl I i m h tk it a b ta tb n vs pn ts Y₃ t hit hlen hok (fun p hp => off p (.tail _ (.tail _ hp))) (off _ (.head _)) (off _ (.tail _ (.head _))) p1 p2 g q1 q2 q3 hT hvl F' N'
  · rintro m news h tk ⟨a, b, ta, tb, n, vs, pn, ts, Y₃, rfl, g, ⟨q1, q2, q3⟩, hT, hlen, hok, p1, p2, m1, m2, m3, m4⟩ F' N'
    rw [con (h := h) m1 m2 m3 m4] at F'
    have hvl : vs.length ≤ 3 := by
      have := hT.length
      rw [dats_len] at this
      omega
    exact fin m h tk a b ta tb n vs pn ts Y₃ (by omega) (by omega) hok p1 p2 g q1 q2 q3 hT hvl F' N'
theorem dots_end {L l pz cv I : Addr} {it : Obj} {hh : Int} {th : Tok} {nn i : Nat} {Y₂ Y₃ messy : List (Addr × Obj)} {s₁ : Shared} {h' : Heap} {tk' : Nat} {m' : Str → Option Value} {a b : Int} {ta tb : Tok} {n pn : Nat} {vs : List Value} {v : Value} {ts : List T} {t : T} {xs : Array Value}
    (F : Fr h₀ L h' m') (N : News h₀ L h' messy) (hI : (I, it) ∈ messy) (hl : (l, listOf #[.int a ta, .int b tb] n) ∈ messy) (hp : (pz, listOf xs pn) ∈ messy) (hxs : xs = (vs ++ [v]).toArray) (hY : ∀ p ∈ Y₃, p ∈ messy) (g : GrowT Y₂ Y₃)
    (hq : 0 ≤ a ∧ 0 ≤ b ∧ b < 65413) (hT : TAll Y₃ vs (T.dats ts)) (hv : TIn messy v t.dat) (hlen : ts.length = i) (hok : ∀ p ∈ ts, LeafOk p ∨ DotT nn p) (ht : LeafOk t ∨ DotT nn t) (hit : it.cls = .type "range_iterator")
    (o1 : ∀ p ∈ Y₃, p.1 ≠ l) (o2 : ∀ p ∈ Y₃, p.1 ≠ pz) (o3 : ∀ p ∈ Y₃, p.1 ≠ I) (n1 : @Ne Nat l I) (n2 : @Ne Nat pz I)
    (e1 : m' (kS "lot") = some (.ref l)) (e2 : m' (kS "high") = some (.int hh th)) (e3 : m' (kS "callee") = some (.ref cv)) (e4 : m' (kS "parts") = some (.ref pz)) :
    UnrEnd h₀ L s₁ I it (DotsJ l pz cv hh th nn Y₂ (i + 1)) { s₁ with heap := h', toks := tk' } := by
  have apart : ∀ {p : Addr × Obj} {q : Addr × Obj}, p ∈ tf messy → q ∈ messy → isTupB q.2 = false → p.1 ≠ q.1 := by
    intro p q h1 h2 hc e
    have z1 := (N p (tf_mem h1).1).1
    have z2 := (N q h2).1
    rw [e] at z1
    rw [z1] at z2
    have z3 := (tf_mem h1).2
    rw [Option.some.inj z2, hc] at z3
    cases z3
  subst hxs
  refine UnrEnd.intro F N ((l, listOf #[.int a ta, .int b tb] n) :: (pz, listOf (List.toArray (vs ++ [v])) pn) :: (tf messy ++ Y₃)) ?_ ?_
    ⟨a, b, ta, tb, n, vs ++ [v], pn, ts ++ [t], tf messy ++ Y₃, rfl, ⟨fun p h => List.mem_append.mpr (.inr (g.1 p h)), fun p h => ?_⟩, hq, TAll.snoc (TAll.mono (fun p h _ => List.mem_append.mpr (.inr h)) hT) (TIn.mono (fun p h1 h2 => List.mem_append.mpr (.inl (tf_in h1 h2))) hv),
      by rw [List.length_append, hlen]; rfl, fun p h => ?_, fun p h => ?_, fun p h => ?_, e1, e2, e3, e4⟩
  · intro p h
    simp only [List.mem_cons, List.mem_append] at h
    rcases h with rfl | rfl | rfl | h | h
    · exact hI
    · exact hl
    · exact hp
    · exact (tf_mem h).1
    · exact hY p h
  · intro p h
    simp only [List.mem_cons, List.mem_append] at h
    rcases h with rfl | rfl | h | h
    · exact n1
    · exact n2
    · exact apart h hI (isTupB_not (by rw [hit]; decide))
    · exact o3 p h
  · rcases List.mem_append.mp h with h | h
    · exact .inr (tf_mem h).2
    · exact g.2 p h
  · rcases List.mem_append.mp h with h | h
    · exact hok p h
    · rw [List.mem_singleton.mp h]; exact ht
  · rcases List.mem_append.mp h with h | h
    · exact apart h hl rfl
    · exact o1 p h
  · rcases List.mem_append.mp h with h | h
    · exact apart h hp rfl
    · exact o2 p h
end

theorem add_cat {prog : Program} {w : World} {A : Around} {E : Value → Shared → Prop} {s : Shared} {h₀ : Heap} {L a b : Addr} {m : Str → Option Value} {news : List (Addr × Obj)} {vs us : List Value} {n1 n2 : Nat} {Q : Value → Shared → Prop}
    (F : Fr h₀ L s.heap m) (N : News h₀ L s.heap news) (ma : (a, listOf (List.toArray vs) n1) ∈ news) (mb : (b, listOf (List.toArray us) n2) ∈ news) (hz : vs.length + us.length ≤ sizeLine)
    (h : ∀ D h', Fr h₀ L h' m → News h₀ L h' ((D, listOf (List.toArray (vs ++ us)) 0) :: news) → (∀ p ∈ news, p.1 < D) → Q (.ref D) { s with heap := h' }) : wpAny (model prog w) A (binaryOp .Add (.ref a) (.ref b)) Q E s := by
  refine kmk_add_lit F N (News.isList N ma) (News.isList N mb) (zs := vs ++ us) (by simp) h (by simpa using hz)
def DotsC (w : World) (hh : Int) (nn : Nat) : Prop := ∀ (l : Nat) (a b : Int) (ta tb th : Tok) (n : Nat) (Y : List (Addr × Obj)), 0 ≤ a → 0 ≤ b → b < 65413 → (∀ q ∈ [(l, listOf #[Value.int a ta, Value.int b tb] n)], ∀ p ∈ Y, p.1 ≠ q.1) →
  Con w 228 [.ref l, .int hh th] (14 + 5 * nn) (100 + 40 * nn) [(l, listOf #[.int a ta, .int b tb] n)] Y
      (fun M' Y₁ r => ∃ a' b' ta' tb' n' t, M' = [(l, listOf #[.int a' ta', .int b' tb'] n')] ∧ 0 ≤ a' ∧ 0 ≤ b' ∧ b' < 65413 ∧ DotT (nn + 1) t ∧ TIn Y₁ r t.dat)
section
variable {w : World} {Y news ex : List (Addr × Obj)}
  {dp un : Nat} {gd : Option (List Code)} {cn : Str} {cs : Scope} {fa : Addr} {ccd : Value} {cl : List (Str × Addr)} {outer : List Env} {A₀ : Around} {base h₀ : Heap} {L : Addr} {m : Str → Option Value} {s : Shared}
  {mean : ExcName → Option Value} {mg mb : Str → Option Value} {Q E : Value → Shared → Prop}
theorem dots_use {hh : Int} {nn : Nat} (C : DotsC w hh nn) {l : Nat} {a b : Int} {ta tb th : Tok} {n : Nat} (B : Below A₀ base outer h₀) (F : Fr h₀ L s.heap m) (X : (hd.heap_39 w.params).In h₀) (N : News h₀ L s.heap news)
    (T : Top hd.view_39 (looseW hd.view_39 [Str.ofString "RowsError"]) mean mg mb h₀) (hk : cs.kind = .function) (hm : ∀ p ∈ [(l, listOf #[Value.int a ta, Value.int b tb] n)], p ∈ news) (hc : Cut [(l, listOf #[Value.int a ta, Value.int b tb] n)] Y news ex) (hy : ∀ p ∈ Y, p.1 ≠ l) (hl : 0 ≤ a ∧ 0 ≤ b ∧ b < 65413)
    (hd : dp + (14 + 5 * nn) < recursionLimit) (hu : un + (100 + 40 * nn) < cLine)
    (ret : ∀ r a' b' ta' tb' n' t Y₂ h' tk', GrowT Y Y₂ → Fr h₀ L h' m → News h₀ L h' ((l, listOf #[.int a' ta', .int b' tb'] n') :: (ex ++ Y₂)) → 0 ≤ a' ∧ 0 ≤ b' ∧ b' < 65413 → DotT (nn + 1) t → TIn Y₂ r t.dat → Q r { s with heap := h', toks := tk' }) :
    wpAny (model PySem.Challenge.rw_pq0689_01.row.prog w) (ktrTop dp un gd cn cs L fa ccd cl outer) (call (.ref 228) [.ref l, .int hh th]) Q E s := by
  refine Con.use (ex := ex) (fun ho => C l a b ta tb th n (ex ++ Y) hl.1 hl.2.1 hl.2.2 ho) ?_ hc hm (fun q hq => by rw [List.mem_singleton.mp hq]; exact hy) B F X N T hk hd hu ?_
  · rintro M' X Z r hs ⟨a', b', ta', tb', n', k, h1, h2, h3, h4, h5, h6⟩
    exact ⟨a', b', ta', tb', n', k, h1, h2, h3, h4, h5, h6.mono hs⟩
  · rintro r M' Y₂ h' tk' g F' N' ⟨a', b', ta', tb', n', k, rfl, h2, h3, h4, h5, h6⟩
    exact ret r a' b' ta' tb' n' k Y₂ h' tk' g F' N' ⟨h2, h3, h4⟩ h5 h6
end
end

section
-- Dots
theorem reset_Dots : True := by
  w_top off
  trivial
local macro_rules | `(tactic| lsm_bools) => `(tactic| first | exact List.Mem.head _ | assumption | (refine' List.Mem.tail _ ?_; lsm_bools) | (refine' GrowT.mem ?g ?h; (case g => assumption); (case h => lsm_bools)) | fail "no entry")
local macro_rules | `(tactic| k_mem) => `(tactic| first | lsm_bools | fail "no entry")
local macro_rules | `(tactic| tb_start) => `(tactic| first
  | exact List.forall_mem_nil _
  | (refine' List.forall_mem_cons.mpr ⟨?a, ?b⟩; (case a => lsm_bools); (case b => tb_start))
  | (intro p hp; repeat (first | exact hp | refine List.mem_cons_of_mem _ ?_ | refine List.Mem.tail _ ?_ | refine GrowT.mem' (by assumption) ?_ | refine GrowT.mem (by assumption) ?_ | fail "no entry"))
  | fail "not within")
local macro_rules | `(tactic| k_all) => `(tactic| first
  | assumption
  | (refine' GrowT.off ?g ?o ?N ?s ?m ?c; (case g => assumption); (case o => k_all); (case N => k_asm); (case s => tb_start); (case m => lsm_bools); (case c => rfl))
  | (refine' offLt ?h ?s; (case h => assumption); (case s => tb_start))
  | fail "not apart")
local macro_rules | `(tactic| k_lt $h:ident) => `(tactic| (have hl9 := $h; replace $h := allLt_of $h; simp only [AllLt, and_true] at $h:ident))
local macro_rules | `(tactic| kqd_sub) => `(tactic| first
  | (refine' Cut.own ?m ?r; (case m => lsm_bools); (case r => kqd_sub))
  | (refine' Cut.oth ?o ?r; (case o => k_all); (case r => kqd_sub))
  | exact Cut.tail
  | fail "no cut")
local macro_rules | `(tactic| ktr_rel) => `(tactic| first
  | exact subT_nil
  | exact subT_of (fun _ hp => hp)
  | assumption
  | (refine' subT_skip ?a ?b; (case a => rfl); (case b => ktr_rel))
  | (refine' subT_cons ?a ?b; (case a => lsm_bools); (case b => ktr_rel))
  | (refine' subT_of ?h; (case h => tb_start))
  | (refine' subT_app ?a ?b; (case a => ktr_rel); (case b => ktr_rel))
  | fail "tuples not within")
local macro_rules | `(tactic| k_room) => `(tactic| ktr_room)
local macro_rules | `(tactic| k_units) => `(tactic| ktr_units)
local macro_rules | `(tactic| tb_rel) => `(tactic| first
  | exact TAll.nil
  | exact TIn.str _ _
  | exact TIn.int _ _
  | exact TIn.bytes _ _
  | assumption
  | (refine' TIn.mono ?s ?h; (case h => assumption); (case s => ktr_rel))
  | (refine' TAll.mono ?s ?h; (case h => assumption); (case s => ktr_rel))
  | (refine' TIn.tuple ?m ?r; (case m => lsm_bools); (case r => tb_rel))
  | (refine' TAll.cons ?h ?t; (case h => tb_rel); (case t => tb_rel))
  | fail "no tree")
local macro_rules | `(tactic| walk_at "compareOp In str ref") => `(tactic| (k_here; k_dflt (refine' in_tupL ?ht ?hi ?_; (case ht => (refine' tupK ?X ?l; (case X => k_in); (case l => k_is))); (case hi => exact rfl))))
local macro_rules | `(tactic| walk_at "compareOp Eq ref ref") => `(tactic| (k_here; k_dflt (first
  | (refine' eq_dat (r := false) ?H ?d1 ?d2 ?hc ?hd ?hu ?_; (case H => exact heldOf (by k_asm)); (case d1 => tb_rel); (case d2 => tb_rel); (case hc => with_unfolding_all rfl); (case hd => exact Nat.le_of_ble_eq_true rfl); (case hu => ktr_units))
  | (refine' eq_dat (r := true) ?H ?d1 ?d2 ?hc ?hd ?hu ?_; (case H => exact heldOf (by k_asm)); (case d1 => tb_rel); (case d2 => tb_rel); (case hc => with_unfolding_all rfl); (case hd => exact Nat.le_of_ble_eq_true rfl); (case hu => ktr_units)))))
local macro_rules | `(tactic| walk_at "compareOp NotEq ref ref") => `(tactic| (k_here; k_dflt (first
  | (refine' ne_dat (r := false) ?H ?d1 ?d2 ?hc ?hd ?hu ?_; (case H => exact heldOf (by k_asm)); (case d1 => tb_rel); (case d2 => tb_rel); (case hc => with_unfolding_all rfl); (case hd => exact Nat.le_of_ble_eq_true rfl); (case hu => ktr_units))
  | (refine' ne_dat (r := true) ?H ?d1 ?d2 ?hc ?hd ?hu ?_; (case H => exact heldOf (by k_asm)); (case d1 => tb_rel); (case d2 => tb_rel); (case hc => with_unfolding_all rfl); (case hd => exact Nat.le_of_ble_eq_true rfl); (case hu => ktr_units)))))
local macro_rules | `(tactic| walk_at "subscriptTail Name Constant ref int") => `(tactic| (k_here; k_dflt (refine' item_tupleT ?t ?a ?b ?c ?d ?_; (case t => exact News.isTup (by k_asm) (by k_mem)); (case a => decide); (case b => decide); (case c => rfl); (case d => rfl); k_whole)))
local macro_rules | `(tactic| walk_at "ite") => `(tactic| (k_closed; k_dflt (first | (refine' ite_pos ?c ?_; (case c => decide)) | (refine' ite_neg ?c ?_; (case c => decide)))))
theorem item_ops {prog : Program} {w : World} {A : Around} {E : Value → Shared → Prop} {s : Shared} {h₀ : Heap} {L D : Addr} {news : List (Addr × Obj)} {c : Int} {t t1 t2 t3 t4 : Tok} {n : Nat} {value slice : Expr} {Q : Value → Shared → Prop}
    (N : News h₀ L s.heap news) (hm : (D, listOf #[.str (Str.ofString "f") t1, .str (Str.ofString "+") t2, .str (Str.ofString "sqrt") t3, .str (Str.ofString "-") t4] n) ∈ news) (h0 : 0 ≤ c) (h4 : c < 4) (h : ∀ x tx, x ∈ opsL → Q (.str x tx) s)
    (hs : subscripted slice false (.ref D) (.int c t) = operate [.ref D, .int c t] (getItem (.ref D) (.int c t)) := by with_unfolding_all rfl) :
    wpAny (model prog w) A (subscriptTail value slice (.ref D) (.int c t)) Q E s := by
  have hL : s.heap.IsList D #[.str (Str.ofString "f") t1, .str (Str.ofString "+") t2, .str (Str.ofString "sqrt") t3, .str (Str.ofString "-") t4] := News.isList N hm
  have key : ∃ x tx, (#[Value.str (Str.ofString "f") t1, .str (Str.ofString "+") t2, .str (Str.ofString "sqrt") t3, .str (Str.ofString "-") t4] : Array Value)[c.toNat]? = some (.str x tx) ∧ x ∈ opsL := by
    rcases (by omega : c = 0 ∨ c = 1 ∨ c = 2 ∨ c = 3) with rfl | rfl | rfl | rfl
    · exact ⟨_, _, rfl, by simp [opsL]⟩
    · exact ⟨_, _, rfl, by simp [opsL]⟩
    · exact ⟨_, _, rfl, by simp [opsL]⟩
    · exact ⟨_, _, rfl, by simp [opsL]⟩
  obtain ⟨x, tx, hx, ho⟩ := key
  exact tail_any hL.typeIs slot_list_getitem.lookup (wpAny_getItem_list hL h0 (by omega) hx (h x tx ho)) hs
local macro_rules | `(tactic| walk_at "call ref") => `(tactic| (k_here; (with_reducible show wpAny _ _ (call (Value.ref 200) [Value.ref _, Value.int _ _] _) _ _ _); k_dflt (refine' card_use ?B ?F ?X ?N ?T ?hk ?U ?hl ?hm ?hm' ?hd ?hu ?_; (case B => k_asm); (case F => k_asm); (case X => k_asm); (case N => k_asm); (case T => k_asm); (case hk => first | rfl | assumption); (case U => k_updF); (case hl => exact ⟨by assumption, by assumption, by assumption⟩); (case hm => decide); (case hm' => decide); (case hd => ktr_room); (case hu => ktr_units); k_whole; intro a' b' c' ta' tb' tc' n' h' tk' F' N' hb' hc1 hc2; obtain ⟨hb1, hb2, hb3⟩ := hb'; (try dsimp only at N'); (try k_fold))))
local macro_rules | `(tactic| walk_at "call ref") => `(tactic| (k_here; (with_reducible show wpAny _ _ (call (Value.ref 221) [Value.ref _] _) _ _ _); k_dflt (refine' lawLeaf_useT ?B ?F ?X ?N ?T ?hk ?hm ?hc ?hy ?hl ?hd ?hu ?_; (case B => k_asm); (case F => k_asm); (case X => k_asm); (case N => k_asm); (case T => k_asm); (case hk => first | rfl | assumption); (case hm => tb_start); (case hc => kqd_sub); (case hy => k_all); (case hl => exact ⟨by assumption, by assumption, by assumption⟩); (case hd => ktr_room); (case hu => ktr_units); k_whole; intro r' a' b' ta' tb' n' k' Y' h' tk' g' F' N' hb' hk7 hr'; obtain ⟨hb1, hb2, hb3⟩ := hb'; (try simp only [List.cons_append, List.nil_append] at N'); (try k_fold))))
local macro_rules | `(tactic| walk_at "call type:range cons nil") => `(tactic| (k_here; k_dflt (refine' range1_rows ?F ?N ?_; (case F => k_asm); (case N => k_asm); k_whole; intro h' tk' t1' u1' v1' hR' F' N' hst'; (try k_fold))))
local macro_rules | `(tactic| walk_at "pyIter ref") => `(tactic| (k_here; (with_reducible show wpAny _ _ (pyIter (Value.ref _)) (fun it s₂ => LoopAtV _ _ _ _ _ _ _ _ _ it s₂) _ _); refine' Hold.of ?_))
local macro_rules | `(tactic| walk_at "binaryOp Add ref ref") => `(tactic| (k_here; k_dflt (refine' add_cat ?F ?N ?a ?b ?z ?_; (case F => k_asm); (case N => k_asm); (case a => lsm_bools); (case b => lsm_bools); (case z => (simp only [sizeLine_eq, List.length_cons, List.length_nil]; omega)); k_whole; intro D' h' F' N' l1; (try k_lt l1); (try k_sweep))))
local macro_rules | `(tactic| walk_at "exec If") => `(tactic| (k_here; refine' Hold.of ?_))
local macro_rules | `(tactic| walk_at "eval IfExp") => `(tactic| (k_here; refine' Hold.of ?_))
local macro_rules | `(tactic| walk_at "subscriptTail List") => `(tactic| (k_here; (with_reducible show wpAny _ _ (subscriptTail _ _ (Value.ref _) (Value.int _ _)) _ _ _); k_dflt (refine' item_ops ?N ?m ?a ?b ?_; (case N => k_asm); (case m => k_mem); (case a => assumption); (case b => assumption); k_whole; intro x' t' hx')))
set_option maxHeartbeats 8000000 in
theorem dots0 (w : World) : DotsC w 0 0 := by
  intro l a b ta tb th n Y ha hb hb' ho
  refine Con.intro ?_
  intro dp un gd cn cs fa ccd cl outer A₀ base h₀ L m s mean mg mb Q E B F X N Tp hk hd hu fin
  have f1 := ho _ (.head _)
  clear ho
  simp only [List.cons_append, List.nil_append] at N f1
  refine wpAny_call ?_
  w_strict (
    k_dflt ktr_enter
    k_steps)
  unfold Hold
  rename Fr _ _ _ _ => F1
  rename News _ _ _ _ => N1
  refine joinF (Y := Y) F1 (fun m' M' Y₂ => ∃ a b ta tb n cv c, M' = [(l, listOf #[.int a ta, .int b tb] n)] ∧ (0 ≤ a ∧ 0 ≤ b ∧ b < 65413) ∧ CalOk c ∧ TIn Y₂ (.ref cv) c.dat ∧ m' (Str.ofString "lot") = some (.ref l) ∧ m' (Str.ofString "high") = some (.int 0 th) ∧ m' (Str.ofString "callee") = some (.ref cv)) ?h1 ?h2
  case h1 =>
    refine wpAny_If ?_
    w_strict (
      k_steps)
    · refine' joinF_end [(l, listOf #[.int _ _, .int _ _] _)] rfl (by k_asm) (by k_asm) (by tb_start) (by tb_start) (fun Y₁ hs => ⟨_, _, _, _, _, _, tE "." [tS "m", tS "h"], rfl, ⟨by assumption, by assumption, by assumption⟩, .inr rfl, TIn.mono hs ?_, by rfl, by rfl, by rfl⟩)
      show TIn _ _ (exD "." [symD _, symD _])
      tb_rel
    · refine' joinF_end [(l, listOf #[.int _ _, .int _ _] _)] rfl (by k_asm) (by k_asm) (by tb_start) (by tb_start) (fun Y₁ hs => ⟨_, _, _, _, _, _, .sym _, rfl, ⟨by assumption, by assumption, by assumption⟩, .inl ⟨_, by assumption, rfl⟩, TIn.mono hs ?_, by rfl, by rfl, by rfl⟩)
      show TIn _ _ (symD _)
      tb_rel
  case h2 =>
    clear F1 N1
    intro m' M' Y₂ h' tk' g' F' N' hp
    obtain ⟨a, b, ta, tb, n, cv, c, rfl, hl, hcal, hcv, hm1, hm2, hm3⟩ := hp
    replace F' := fr_con hm3 F'
    replace F' := fr_con (x := Str.ofString "high") (o := some (.int 0 th)) (by exact hm2) F'
    replace F' := fr_con (x := Str.ofString "lot") (o := some (.ref l)) (by exact hm1) F'
    obtain ⟨hl1, hl2, hl3⟩ := hl
    simp only [List.cons_append, List.nil_append] at N'
    have f2 : ∀ p ∈ Y₂, p.1 ≠ l := GrowT.off g' f1 N' (fun p hp => .tail _ hp) (.head _) rfl
    w_strict (
      k_steps)
    unfold Hold
    refine' dots_loop (hh := 0) (th := th) (cv := cv) (r := _) (Y₂ := Y₂) 0 ?hA ?hr ?c0 ?c3 ?F ?N ?l1 ?l2 ?l3 ?o1 ?o2 ?o3 ?e1 ?e2 ?e3 ?e4 ?turn ?fin
    case hA => rfl
    case hr => assumption
    case c0 => assumption
    case c3 => assumption
    case F => k_asm
    case N => k_asm
    case l1 => assumption
    case l2 => assumption
    case l3 => assumption
    case o1 => assumption
    case o2 => exact offLt (by assumption) (by tb_start)
    case o3 => k_ne
    case e1 => rfl
    case e2 => rfl
    case e3 => rfl
    case e4 => rfl
    case turn =>
      intro pz hpz
      subst hpz
      intro I i m h tk it a b ta tb n vs pn ts Y₃ t hit hlen hok q1 q2 q3 q4 q5 g3 p1 p2 p3 hT hvl F' N'
      k_sweep
      w_strict (k_steps)
      unfold Hold
      refine IfExp_ ?_
      w_strict (
        k_steps)
      refine' dots_end (F := ?F) (N := ?N) ?hI ?hl ?hp ?hxs ?hY g3 ?hq hT ?hv hlen hok ?ht hit ?o1 ?o2 q1 q2 q3 ?e1 ?e2 ?e3 ?e4
      case F => k_asm
      case N => k_asm
      case hI => lsm_bools
      case hl => lsm_bools
      case hp => lsm_bools
      case hY => tb_start
      case hq => exact ⟨by assumption, by assumption, by assumption⟩
      case hv => (refine' TIn.mono ?s ?h; (case h => assumption); (case s => exact subT_of (by tb_start)))
      case hxs => simp
      case ht => exact .inl (by assumption)
      case o1 => assumption
      case o2 => assumption
      case e1 => rfl
      case e2 => rfl
      case e3 => rfl
      case e4 => rfl
    case fin =>
      intro m h tk a b ta tb n vs pn ts Y₃ hlen1 hlen3 hok q4 q5 g3 p1 p2 p3 hT hvl F' N'
      k_sweep
      w_strict (
        k_steps)
      refine' fin [(l, listOf #[.int _ _, .int _ _] _)] _ _ _ _ (by k_asm) (by k_asm) ?M ?Y ?P
      case M => tb_start
      case Y =>
        refine fun p hp => (?_ : ∀ p ∈ Y₃, p ∈ _) p (g3.1 p (g'.1 p hp))
        tb_start
      case P => exact fun Y₁ hs => ⟨_, _, _, _, _, tE "dotcall" (c :: ts), rfl, p1, p2, p3, ⟨c, ts, rfl, hcal, hlen1, hlen3, hok⟩, TIn.mono hs (by
        show TIn _ _ (.tuple [sS "expr", sS "dotcall", .tuple (c.dat :: T.dats ts)])
        tb_rel)⟩
end

section
-- DotsS
theorem reset_DotsS : True := by
  w_top off
  trivial
local macro_rules | `(tactic| lsm_bools) => `(tactic| first | exact List.Mem.head _ | assumption | (refine' List.Mem.tail _ ?_; lsm_bools) | (refine' GrowT.mem ?g ?h; (case g => assumption); (case h => lsm_bools)) | fail "no entry")
local macro_rules | `(tactic| k_mem) => `(tactic| first | lsm_bools | fail "no entry")
local macro_rules | `(tactic| tb_start) => `(tactic| first
  | exact List.forall_mem_nil _
  | (refine' List.forall_mem_cons.mpr ⟨?a, ?b⟩; (case a => lsm_bools); (case b => tb_start))
  | (intro p hp; repeat (first | exact hp | refine List.mem_cons_of_mem _ ?_ | refine List.Mem.tail _ ?_ | refine GrowT.mem' (by assumption) ?_ | refine GrowT.mem (by assumption) ?_ | fail "no entry"))
  | fail "not within")
local macro_rules | `(tactic| k_all) => `(tactic| first
  | assumption
  | (refine' GrowT.off ?g ?o ?N ?s ?m ?c; (case g => assumption); (case o => k_all); (case N => k_asm); (case s => tb_start); (case m => lsm_bools); (case c => rfl))
  | (refine' offLt ?h ?s; (case h => assumption); (case s => tb_start))
  | fail "not apart")
local macro_rules | `(tactic| k_lt $h:ident) => `(tactic| (have hl9 := $h; replace $h := allLt_of $h; simp only [AllLt, and_true] at $h:ident))
local macro_rules | `(tactic| kqd_sub) => `(tactic| first
  | (refine' Cut.own ?m ?r; (case m => lsm_bools); (case r => kqd_sub))
  | (refine' Cut.oth ?o ?r; (case o => k_all); (case r => kqd_sub))
  | exact Cut.tail
  | fail "no cut")
local macro_rules | `(tactic| ktr_rel) => `(tactic| first
  | exact subT_nil
  | exact subT_of (fun _ hp => hp)
  | assumption
  | (refine' subT_skip ?a ?b; (case a => rfl); (case b => ktr_rel))
  | (refine' subT_cons ?a ?b; (case a => lsm_bools); (case b => ktr_rel))
  | (refine' subT_of ?h; (case h => tb_start))
  | (refine' subT_app ?a ?b; (case a => ktr_rel); (case b => ktr_rel))
  | fail "tuples not within")
local macro_rules | `(tactic| k_room) => `(tactic| ktr_room)
local macro_rules | `(tactic| k_units) => `(tactic| ktr_units)
local macro_rules | `(tactic| tb_rel) => `(tactic| first
  | exact TAll.nil
  | exact TIn.str _ _
  | exact TIn.int _ _
  | exact TIn.bytes _ _
  | assumption
  | (refine' TIn.mono ?s ?h; (case h => assumption); (case s => ktr_rel))
  | (refine' TAll.mono ?s ?h; (case h => assumption); (case s => ktr_rel))
  | (refine' TIn.tuple ?m ?r; (case m => lsm_bools); (case r => tb_rel))
  | (refine' TAll.cons ?h ?t; (case h => tb_rel); (case t => tb_rel))
  | fail "no tree")
local macro_rules | `(tactic| walk_at "compareOp In str ref") => `(tactic| (k_here; k_dflt (refine' in_tupL ?ht ?hi ?_; (case ht => (refine' tupK ?X ?l; (case X => k_in); (case l => k_is))); (case hi => exact rfl))))
local macro_rules | `(tactic| walk_at "compareOp Eq ref ref") => `(tactic| (k_here; k_dflt (first
  | (refine' eq_dat (r := false) ?H ?d1 ?d2 ?hc ?hd ?hu ?_; (case H => exact heldOf (by k_asm)); (case d1 => tb_rel); (case d2 => tb_rel); (case hc => with_unfolding_all rfl); (case hd => exact Nat.le_of_ble_eq_true rfl); (case hu => ktr_units))
  | (refine' eq_dat (r := true) ?H ?d1 ?d2 ?hc ?hd ?hu ?_; (case H => exact heldOf (by k_asm)); (case d1 => tb_rel); (case d2 => tb_rel); (case hc => with_unfolding_all rfl); (case hd => exact Nat.le_of_ble_eq_true rfl); (case hu => ktr_units)))))
local macro_rules | `(tactic| walk_at "compareOp NotEq ref ref") => `(tactic| (k_here; k_dflt (first
  | (refine' ne_dat (r := false) ?H ?d1 ?d2 ?hc ?hd ?hu ?_; (case H => exact heldOf (by k_asm)); (case d1 => tb_rel); (case d2 => tb_rel); (case hc => with_unfolding_all rfl); (case hd => exact Nat.le_of_ble_eq_true rfl); (case hu => ktr_units))
  | (refine' ne_dat (r := true) ?H ?d1 ?d2 ?hc ?hd ?hu ?_; (case H => exact heldOf (by k_asm)); (case d1 => tb_rel); (case d2 => tb_rel); (case hc => with_unfolding_all rfl); (case hd => exact Nat.le_of_ble_eq_true rfl); (case hu => ktr_units)))))
local macro_rules | `(tactic| walk_at "subscriptTail Name Constant ref int") => `(tactic| (k_here; k_dflt (refine' item_tupleT ?t ?a ?b ?c ?d ?_; (case t => exact News.isTup (by k_asm) (by k_mem)); (case a => decide); (case b => decide); (case c => rfl); (case d => rfl); k_whole)))
local macro_rules | `(tactic| walk_at "ite") => `(tactic| (k_closed; k_dflt (first | (refine' ite_pos ?c ?_; (case c => decide)) | (refine' ite_neg ?c ?_; (case c => decide)))))
local macro_rules | `(tactic| walk_at "call ref") => `(tactic| (k_here; (with_reducible show wpAny _ _ (call (Value.ref 200) [Value.ref _, Value.int _ _] _) _ _ _); k_dflt (refine' card_use ?B ?F ?X ?N ?T ?hk ?U ?hl ?hm ?hm' ?hd ?hu ?_; (case B => k_asm); (case F => k_asm); (case X => k_asm); (case N => k_asm); (case T => k_asm); (case hk => first | rfl | assumption); (case U => k_updF); (case hl => exact ⟨by assumption, by assumption, by assumption⟩); (case hm => decide); (case hm' => decide); (case hd => ktr_room); (case hu => ktr_units); k_whole; intro a' b' c' ta' tb' tc' n' h' tk' F' N' hb' hc1 hc2; obtain ⟨hb1, hb2, hb3⟩ := hb'; (try dsimp only at N'); (try k_fold))))
local macro_rules | `(tactic| walk_at "call ref") => `(tactic| (k_here; (with_reducible show wpAny _ _ (call (Value.ref 221) [Value.ref _] _) _ _ _); k_dflt (refine' lawLeaf_useT ?B ?F ?X ?N ?T ?hk ?hm ?hc ?hy ?hl ?hd ?hu ?_; (case B => k_asm); (case F => k_asm); (case X => k_asm); (case N => k_asm); (case T => k_asm); (case hk => first | rfl | assumption); (case hm => tb_start); (case hc => kqd_sub); (case hy => k_all); (case hl => exact ⟨by assumption, by assumption, by assumption⟩); (case hd => ktr_room); (case hu => ktr_units); k_whole; intro r' a' b' ta' tb' n' k' Y' h' tk' g' F' N' hb' hk7 hr'; obtain ⟨hb1, hb2, hb3⟩ := hb'; (try simp only [List.cons_append, List.nil_append] at N'); (try k_fold))))
local macro_rules | `(tactic| walk_at "call ref") => `(tactic| (k_here; (with_reducible show wpAny _ _ (call (Value.ref 228) [Value.ref _, Value.int _ _] _) _ _ _); k_dflt (refine' dots_use ?C ?B ?F ?X ?N ?T ?hk ?hm ?hc ?hy ?hl ?hd ?hu ?_; (case C => assumption); (case B => k_asm); (case F => k_asm); (case X => k_asm); (case N => k_asm); (case T => k_asm); (case hk => first | rfl | assumption); (case hm => tb_start); (case hc => kqd_sub); (case hy => k_all); (case hl => exact ⟨by assumption, by assumption, by assumption⟩); (case hd => ktr_room); (case hu => ktr_units); k_whole; intro r' a' b' ta' tb' n' k' Y' h' tk' g' F' N' hb' hk7 hr'; obtain ⟨hb1, hb2, hb3⟩ := hb'; (try simp only [List.cons_append, List.nil_append] at N'); (try k_fold))))
local macro_rules | `(tactic| walk_at "call type:range cons nil") => `(tactic| (k_here; k_dflt (refine' range1_rows ?F ?N ?_; (case F => k_asm); (case N => k_asm); k_whole; intro h' tk' t1' u1' v1' hR' F' N' hst'; (try k_fold))))
local macro_rules | `(tactic| walk_at "pyIter ref") => `(tactic| (k_here; (with_reducible show wpAny _ _ (pyIter (Value.ref _)) (fun it s₂ => LoopAtV _ _ _ _ _ _ _ _ _ it s₂) _ _); refine' Hold.of ?_))
local macro_rules | `(tactic| walk_at "binaryOp Add ref ref") => `(tactic| (k_here; k_dflt (refine' add_cat ?F ?N ?a ?b ?z ?_; (case F => k_asm); (case N => k_asm); (case a => lsm_bools); (case b => lsm_bools); (case z => (simp only [sizeLine_eq, List.length_cons, List.length_nil]; omega)); k_whole; intro D' h' F' N' l1; (try k_lt l1); (try k_sweep))))
local macro_rules | `(tactic| walk_at "exec If") => `(tactic| (k_here; refine' Hold.of ?_))
local macro_rules | `(tactic| walk_at "eval IfExp") => `(tactic| (k_here; refine' Hold.of ?_))
local macro_rules | `(tactic| walk_at "subscriptTail List") => `(tactic| (k_here; (with_reducible show wpAny _ _ (subscriptTail _ _ (Value.ref _) (Value.int _ _)) _ _ _); k_dflt (refine' item_ops ?N ?m ?a ?b ?_; (case N => k_asm); (case m => k_mem); (case a => assumption); (case b => assumption); k_whole; intro x' t' hx')))
set_option maxHeartbeats 8000000 in
theorem dotsS (w : World) (hh : Int) (nn : Nat) (hpos : 0 < hh) (IH : DotsC w (hh - 1) nn) : DotsC w hh (nn + 1) := by
  intro l a b ta tb th n Y ha hb hb' ho
  refine Con.intro ?_
  intro dp un gd cn cs fa ccd cl outer A₀ base h₀ L m s mean mg mb Q E B F X N Tp hk hd hu fin
  have f1 := ho _ (.head _)
  clear ho
  simp only [List.cons_append, List.nil_append] at N f1
  refine wpAny_call ?_
  w_strict (
    k_dflt ktr_enter
    k_steps)
  unfold Hold
  rename Fr _ _ _ _ => F1
  rename News _ _ _ _ => N1
  refine joinF (Y := Y) F1 (fun m' M' Y₂ => ∃ a b ta tb n cv c, M' = [(l, listOf #[.int a ta, .int b tb] n)] ∧ (0 ≤ a ∧ 0 ≤ b ∧ b < 65413) ∧ CalOk c ∧ TIn Y₂ (.ref cv) c.dat ∧ m' (Str.ofString "lot") = some (.ref l) ∧ m' (Str.ofString "high") = some (.int hh th) ∧ m' (Str.ofString "callee") = some (.ref cv)) ?h1 ?h2
  case h1 =>
    refine wpAny_If ?_
    w_strict (
      k_steps)
    · refine' joinF_end [(l, listOf #[.int _ _, .int _ _] _)] rfl (by k_asm) (by k_asm) (by tb_start) (by tb_start) (fun Y₁ hs => ⟨_, _, _, _, _, _, tE "." [tS "m", tS "h"], rfl, ⟨by assumption, by assumption, by assumption⟩, .inr rfl, TIn.mono hs ?_, by rfl, by rfl, by rfl⟩)
      show TIn _ _ (exD "." [symD _, symD _])
      tb_rel
    · refine' joinF_end [(l, listOf #[.int _ _, .int _ _] _)] rfl (by k_asm) (by k_asm) (by tb_start) (by tb_start) (fun Y₁ hs => ⟨_, _, _, _, _, _, .sym _, rfl, ⟨by assumption, by assumption, by assumption⟩, .inl ⟨_, by assumption, rfl⟩, TIn.mono hs ?_, by rfl, by rfl, by rfl⟩)
      show TIn _ _ (symD _)
      tb_rel
  case h2 =>
    clear F1 N1
    intro m' M' Y₂ h' tk' g' F' N' hp
    obtain ⟨a, b, ta, tb, n, cv, c, rfl, hl, hcal, hcv, hm1, hm2, hm3⟩ := hp
    replace F' := fr_con hm3 F'
    replace F' := fr_con (x := Str.ofString "high") (o := some (.int hh th)) (by exact hm2) F'
    replace F' := fr_con (x := Str.ofString "lot") (o := some (.ref l)) (by exact hm1) F'
    obtain ⟨hl1, hl2, hl3⟩ := hl
    simp only [List.cons_append, List.nil_append] at N'
    have f2 : ∀ p ∈ Y₂, p.1 ≠ l := GrowT.off g' f1 N' (fun p hp => .tail _ hp) (.head _) rfl
    w_strict (
      k_steps)
    unfold Hold
    refine' dots_loop (hh := hh) (th := th) (cv := cv) (r := _) (Y₂ := Y₂) (nn + 1) ?hA ?hr ?c0 ?c3 ?F ?N ?l1 ?l2 ?l3 ?o1 ?o2 ?o3 ?e1 ?e2 ?e3 ?e4 ?turn ?fin
    case hA => rfl
    case hr => assumption
    case c0 => assumption
    case c3 => assumption
    case F => k_asm
    case N => k_asm
    case l1 => assumption
    case l2 => assumption
    case l3 => assumption
    case o1 => assumption
    case o2 => exact offLt (by assumption) (by tb_start)
    case o3 => k_ne
    case e1 => rfl
    case e2 => rfl
    case e3 => rfl
    case e4 => rfl
    case turn =>
      intro pz hpz
      subst hpz
      intro I i m h tk it a b ta tb n vs pn ts Y₃ t hit hlen hok q1 q2 q3 q4 q5 g3 p1 p2 p3 hT hvl F' N'
      k_sweep
      w_strict (k_steps)
      unfold Hold
      rename Fr _ _ _ _ => F1
      rename News _ _ _ _ => N1
      refine' joinV (Y := Y₃) F1 (fun v M' Y₄ => ∃ a b ta tb n t, M' = [(l, listOf #[.int a ta, .int b tb] n), (I, it), (pz, listOf (List.toArray vs) pn)] ∧ (0 ≤ a ∧ 0 ≤ b ∧ b < 65413) ∧ (LeafOk t ∨ DotT (nn + 1) t) ∧ TIn Y₄ v t.dat) ?h1 ?h2
      case h1 =>
        refine IfExp_ ?_
        w_strict (
          k_steps)
        all_goals (refine' joinV_end [(l, listOf #[.int _ _, .int _ _] _), (I, it), (pz, listOf (List.toArray vs) pn)] rfl ?F ?N ?M ?Y ?P; (case F => k_asm); (case N => k_asm); (case M => tb_start); (case Y => tb_start); (case P => (intro Y₁ hs; refine' ⟨_, _, _, _, _, _, rfl, ⟨by assumption, by assumption, by assumption⟩, ?t, TIn.mono hs ?v⟩; (case v => (refine' TIn.mono ?s ?h; (case h => assumption); (case s => exact subT_of (by tb_start)))); (case t => first | exact .inr (by assumption) | exact .inl (by assumption)))))
      case h2 =>
        clear F1 N1
        intro v M' Y₄ h' tk' g4 F' N' hp
        obtain ⟨a, b, ta, tb, n, t, rfl, hq, ht, hv⟩ := hp
        simp only [List.cons_append, List.nil_append] at N'
        have wo1 : ∀ p ∈ Y₄, p.1 ≠ l := GrowT.off g4 q4 N' (fun p hp => .tail _ (.tail _ (.tail _ hp))) (.head _) rfl
        have wo2 : ∀ p ∈ Y₄, p.1 ≠ pz := GrowT.off g4 q5 N' (fun p hp => .tail _ (.tail _ (.tail _ hp))) (.tail _ (.tail _ (.head _))) rfl
        have wo3 : ∀ p ∈ Y₄, p.1 ≠ I := GrowT.off g4 q1 N' (fun p hp => .tail _ (.tail _ (.tail _ hp))) (.tail _ (.head _)) (isTupB_not (by rw [hit]; decide))
        w_strict (k_steps)
        refine' dots_end (F := ?F) (N := ?N) ?hI ?hl ?hp ?hxs ?hY (g3.trans g4) ?hq (TAll.mono (subT_of g4.1) hT) ?hv hlen hok ht hit ?o1 ?o2 ?o3 q2 q3 ?e1 ?e2 ?e3 ?e4
        case F => k_asm
        case N => k_asm
        case hI => lsm_bools
        case hl => lsm_bools
        case hp => lsm_bools
        case hY => tb_start
        case hq => exact hq
        case hv => exact TIn.mono (subT_of (by tb_start)) hv
        case hxs => simp
        case o1 => exact wo1
        case o2 => exact wo2
        case o3 => exact wo3
        case e1 => rfl
        case e2 => rfl
        case e3 => rfl
        case e4 => rfl
    case fin =>

      intro m h tk a b ta tb n vs pn ts Y₃ hlen1 hlen3 hok q4 q5 g3 p1 p2 p3 hT hvl F' N'
      k_sweep
      w_strict (
        k_steps)
      refine' fin [(l, listOf #[.int _ _, .int _ _] _)] _ _ _ _ (by k_asm) (by k_asm) ?M ?Y ?P
      case M => tb_start
      case Y =>
        refine fun p hp => (?_ : ∀ p ∈ Y₃, p ∈ _) p (g3.1 p (g'.1 p hp))
        tb_start
      case P => exact fun Y₁ hs => ⟨_, _, _, _, _, tE "dotcall" (c :: ts), rfl, p1, p2, p3, ⟨c, ts, rfl, hcal, hlen1, hlen3, hok⟩, TIn.mono hs (by
        show TIn _ _ (.tuple [sS "expr", sS "dotcall", .tuple (c.dat :: T.dats ts)])
        tb_rel)⟩
end

section
-- Comp
open LCg
theorem nsObj_not {o : Obj} {m : Str → Option Value} (h : NsObj o m) : isTupB o = false := by
  obtain ⟨es, ep, hd, _⟩ := h
  unfold isTupB
  rw [hd, Bool.and_false]
/-- what stands between the turns of a comprehension over a tuple: its iterator I, its names C, its list D -/
structure CSt (h₀ : Heap) (L : Addr) (m : Str → Option Value) (I C D ax : Addr) (vs : List Value) (i : Nat) (ys : List Value) (news : List (Addr × Obj)) (h : Heap) : Prop where
  it : h.IsTupleIter I ax i
  ns : ∃ m', h.Ns C m'
  out : h.get? D = some (lst ys)
  fr : Fr h₀ L h m
  led : News h₀ L h news
  off : Off3 I C D news
/-- three addresses apart, none known to the frame's ground -/
structure Three (h₀ : Heap) (L I C D : Addr) : Prop where
  ic : I ≠ C
  id : I ≠ D
  cd : C ≠ D
  li : I ≠ L
  lc : C ≠ L
  ld : D ≠ L
  ni : h₀.get? I = none
  nc : h₀.get? C = none
  nd : h₀.get? D = none
section
variable {h₀ : Heap} {L I C D ax : Addr} {m : Str → Option Value} {vs ys : List Value} {i : Nat} {news : List (Addr × Obj)} {h h' : Heap}
theorem CSt.but (X : CSt h₀ L m I C D ax vs i ys news h) (t : Three h₀ L I C D) (b : Addr) (hb : b = I ∨ b = C ∨ b = D) (hk : ∀ a o, a ≠ b → h.get? a = some o → h'.get? a = some o) : Fr h₀ L h' m ∧ News h₀ L h' news := by
  have hbL : L ≠ b := by rcases hb with rfl | rfl | rfl; exact t.li.symm; exact t.lc.symm; exact t.ld.symm
  have hbn : h₀.get? b = none := by rcases hb with rfl | rfl | rfl; exact t.ni; exact t.nc; exact t.nd
  refine ⟨⟨X.fr.ns.at' fun o e => hk L o hbL e, fun a o e => hk a o (fun q => by rw [q, hbn] at e; cases e) (X.fr.keep a o e), X.fr.above⟩, fun p hp => ⟨hk _ _ (fun q => ?_) (X.led p hp).1, (X.led p hp).2⟩⟩
  have z := X.off.mem p hp
  rcases hb with rfl | rfl | rfl
  · exact z.1 q
  · exact z.2.1 q
  · exact z.2.2 q
end
section
variable {prog : Program} {w : World} {A : Around} {E : Value → Shared → Prop} {s : Shared} {h₀ : Heap} {L : Addr} {m : Str → Option Value} {env : Env}
/-- where a raise of the element goes -/
def CErr (prog : Program) (w : World) (A : Around) (E : Value → Shared → Prop) (Q : Value → Shared → Prop) (scope : Scope) (cl : List (Str × Addr)) (env : Env) (C D : Addr) : Value → Shared → Prop :=
  notedBy (model prog w) A (compEnvC scope cl C env) fun e s' => compPost (model prog w) A E none Q (.ref D) C (.error e) s'
def SrcK (ax : Addr) (vs : List Value) (k : Nat) (news : List (Addr × Obj)) : Prop := (ax, tupObj vs k) ∈ news
def CTurn (prog : Program) (w : World) (A : Around) (h₀ : Heap) (L : Addr) (m : Str → Option Value) (env : Env) (elt : Expr) (x : Str) (scope : Scope) (cl : List (Str × Addr)) (s : Shared) (ax : Addr) (vs : List Value) (k : Nat) (J : Nat → List Value → List (Addr × Obj) → Prop) (E Q : Value → Shared → Prop) : Prop :=
  ∀ i ys news v I oI C oC D m₂ h tk, J i ys news → SrcK ax vs k news → vs[i]? = some v → isTupB oI = false → NsObj oC m₂ → m₂ x = some v → Fr h₀ L h m → News h₀ L h ((I, oI) :: (C, oC) :: (D, lst ys) :: news) → Off3 I C D news → ((@Ne Nat I C) ∧ (@Ne Nat I D) ∧ (@Ne Nat C D)) →
    wpAny (model prog w) A (eval elt (compEnvC scope cl C env)) (CompEnd h₀ L m { s with heap := h, toks := tk } I oI C oC D (lst ys) (SrcK ax vs k) (fun y news' => J (i + 1) (ys ++ [y]) news')) (CErr prog w A E Q scope cl env C D) { s with heap := h, toks := tk }
def CFin (h₀ : Heap) (L : Addr) (m : Str → Option Value) (s : Shared) (vs : List Value) (J : Nat → List Value → List (Addr × Obj) → Prop) (Q : Value → Shared → Prop) : Prop :=
  ∀ ys news D h tk, J vs.length ys news → Fr h₀ L h m → News h₀ L h ((D, lst ys) :: news) → Off1 D news → Q (.ref D) { s with heap := h, toks := tk }
def CSrcT (prog : Program) (w : World) (A : Around) (h₀ : Heap) (L : Addr) (m : Str → Option Value) (env : Env) (elt : Expr) (x : Str) (scope : Scope) (cl : List (Str × Addr)) (E Q : Value → Shared → Prop) (xv : Value) (s₁ : Shared) : Prop :=
  ∃ ax vs k news, ∃ J : Nat → List Value → List (Addr × Obj) → Prop, xv = .ref ax ∧ Fr h₀ L s₁.heap m ∧ News h₀ L s₁.heap news ∧ (ax, tupObj vs k) ∈ news ∧ vs.length ≤ sizeLine ∧ J 0 [] news ∧
    CTurn prog w A h₀ L m env elt x scope cl s₁ ax vs k J E Q ∧ CFin h₀ L m s₁ vs J Q
theorem comp_tup {elt iter : Expr} {x : Str} {px : Pos} {scope : Scope} {cl : List (Str × Addr)} {pos : Pos} {Q : Value → Shared → Prop}
    (_F₀ : Fr h₀ L s.heap m) (hh : A.handled = none) (hclos : closureFor scope env = pure cl) (hcell : ∀ y ∈ scope.names, y.2 ≠ .cell) (hkind : scope.kind = .function)
    (hnames : ∀ y ∈ scope.names, y.2 = .local → scope.names.lookup y.1 = some .local) (hx : scope.names.lookup x = some .local)
    (h : wpAny (model prog w) A (eval iter env) (CSrcT prog w A h₀ L m env elt x scope cl E Q) E s)
    (hs : ∀ x, foldedSetIterable iter env x = pure x := by intro _; rfl) :
    wpAny (model prog w) A (eval (.ListComp elt [⟨.Name x px, iter, [], 0⟩] scope pos) env) Q E s := by
  rw [eval_ListComp]
  refine wpAny_comprehension_free (use := none) rfl hs hclos hkind hnames (wpAny_mono h (fun xv s₁ h₁ => ?_) fun _ _ e => e)
  obtain ⟨ax, vs, k, news, J, rfl, F, N, hm, hsz, j0, turn, fin⟩ := h₁
  have hax : ax < s₁.heap.objs.size := Heap.lt_size (N _ hm).1
  have hLs : L < s₁.heap.objs.size := F.ns.lt
  have none₀ : ∀ b, s₁.heap.objs.size ≤ b → h₀.get? b = none := fun b hb => Heap.get?_none_of_le (Nat.le_trans (Nat.le_of_lt (Nat.lt_of_le_of_lt F.above hLs)) hb)
  refine wpAny_pyIter_tuple ⟨_, (N _ hm).1, rfl, k, rfl⟩ ?_
  generalize hI : s₁.heap.objs.size = I at hax hLs none₀ ⊢
  generalize hg1 : s₁.heap.push _ = g1
  have k1 : ∀ b o, s₁.heap.get? b = some o → g1.get? b = some o := fun b o e => hg1 ▸ Heap.get?_push_of_some _ e
  have z1 : g1.objs.size = I + 1 := by rw [← hg1, Heap.size_push, hI]
  have i1 : g1.IsTupleIter I ax 0 := ⟨_, by rw [← hg1, ← hI]; exact Heap.get?_push_size _ rfl, rfl, rfl⟩
  refine wpAny_newObj_type (wpAny_newFunctionEnv hcell (by intro y hy; simp at hy) (fun g3 ns3 sb3 => ?_) hkind)
  dsimp only at ns3 sb3 ⊢
  generalize hg2 : g1.push { cls := .type "list", dict := none, data := .seq ([] : List Value).toArray } = g2 at ns3 sb3 ⊢
  rw [z1]
  generalize hD : I + 1 = D
  have z2 : g2.objs.size = D + 1 := by rw [← hg2, Heap.size_push, z1, hD]
  rw [z2] at ns3 sb3 ⊢
  generalize hC : D + 1 = C at ns3 sb3 ⊢
  have hID : @LT.lt Nat _ I D := hD ▸ Nat.lt_succ_self I
  have hDC : @LT.lt Nat _ D C := hC ▸ Nat.lt_succ_self D
  have hIC : @LT.lt Nat _ I C := Nat.lt_trans hID hDC
  have t : Three h₀ L I C D := ⟨Nat.ne_of_lt hIC, Nat.ne_of_lt hID, Nat.ne_of_gt hDC, Nat.ne_of_gt hLs, Nat.ne_of_gt (Nat.lt_trans hLs hIC), Nat.ne_of_gt (Nat.lt_trans hLs hID), none₀ _ (Nat.le_refl _), none₀ _ (Nat.le_of_lt hIC), none₀ _ (Nat.le_of_lt hID)⟩
  have k3 : ∀ b o, b < C → g2.get? b = some o → g3.get? b = some o := fun b o hb e => sb3.extBut b o (Nat.ne_of_lt hb) (Heap.get?_push_of_some _ e)
  have k13 : ∀ b o, b < D → g1.get? b = some o → g3.get? b = some o := fun b o hb e => k3 b o (Nat.lt_trans hb hDC) (hg2 ▸ Heap.get?_push_of_some _ e)
  have lt₁ : ∀ {b o}, s₁.heap.get? b = some o → b < I := fun e => hI ▸ Heap.lt_size e
  have k03 : ∀ b o, s₁.heap.get? b = some o → g3.get? b = some o := fun b o e => k13 b o (Nat.lt_trans (lt₁ e) hID) (k1 b o e)
  have start : CSt h₀ L m I C D ax vs 0 [] news g3 := by
    refine ⟨?_, ⟨_, ns3⟩, k3 D _ hDC ?_, F.keeps k03, N.grown k03, Off3.of fun p hp => ?_⟩
    · obtain ⟨o, e, r⟩ := i1
      exact ⟨o, k13 _ _ hID e, r⟩
    · rw [← hg2, ← hD, ← z1]; exact Heap.get?_push_size _ rfl
    · have := lt₁ (N p hp).1
      exact ⟨Nat.ne_of_lt this, Nat.ne_of_lt (Nat.lt_trans this hIC), Nat.ne_of_lt (Nat.lt_trans this hID)⟩
  have loop : ∀ s₃ : Shared, (∃ tk, s₃ = { s₁ with heap := g3, toks := tk }) → codeAny (model prog w) A (.compLoop (.ListComp elt [⟨.Name x px, iter, [], 0⟩] scope pos) 0 (.ref I) (.ref D) (compEnvC scope cl C env)) (compPost (model prog w) A E none Q (.ref D) C) s₃ := by
    rintro s₃ ⟨tk₃, rfl⟩
    refine codeAny_compLoop_tests (fun c s' => ∃ g tk i ys nw, s' = { s₁ with heap := g, toks := tk } ∧ c + i = vs.length + 1 ∧ ys.length = i ∧ i ≤ vs.length ∧ CSt h₀ L m I C D ax vs i ys nw g ∧ SrcK ax vs k nw ∧ J i ys nw) ?_ (vs.length + 1)
      ⟨g3, tk₃, 0, [], news, rfl, rfl, rfl, Nat.zero_le _, start, hm, j0⟩
    rintro c s' ⟨g, tk, i, ys, nw, rfl, hc, hyl, hi, X, hmx, hJ⟩
    have hsrc : g.IsTuple ax vs.toArray := ⟨_, (X.led _ hmx).1, rfl, k, rfl⟩
    have axI : ax ≠ I := Nat.ne_of_lt hax
    by_cases hlt : i < vs.length
    · obtain ⟨v, hv⟩ : ∃ v, vs[i]? = some v := ⟨vs[i], List.getElem?_eq_getElem hlt⟩
      refine wpAny_pyNext_tuple_item X.it hsrc (x := v) (by simpa using hv) fun g4 it4 sb4 => ?_
      obtain ⟨F4, N4⟩ := X.but t I (.inl rfl) (h' := g4) fun a o ha e => sb4.extBut a o ha e
      obtain ⟨mC, nC⟩ := X.ns
      have nC4 : g4.Ns C mC := nC.at' fun o e => sb4.extBut _ o t.ic.symm e
      have D4 : g4.get? D = some (lst ys) := sb4.extBut _ _ t.id.symm X.out
      refine wpAny_assign_Name (wpAny_storeName_local (lookup_relabel_local hx) nC4 (fun g5 n5 sb5 => ?_) (by simp [compEnvC, relabel, hkind]))
      refine wpAny_tests_nil ?_
      rw [if_pos rfl]
      have X4 : CSt h₀ L m I C D ax vs (i + 1) ys nw g4 := ⟨it4, ⟨_, nC4⟩, D4, F4, N4, X.off⟩
      obtain ⟨F5, N5⟩ := X4.but t C (.inr (.inl rfl)) (h' := g5) fun a o ha e => sb5.extBut a o ha e
      have it5 : g5.IsTupleIter I ax (i + 1) := it4.extBut sb5.extBut t.ic
      have D5 : g5.get? D = some (lst ys) := sb5.extBut _ _ t.cd.symm D4
      obtain ⟨oI, eI, cI, dI⟩ := it5
      obtain ⟨oC, eC, hoC⟩ := ns_obj n5
      have L5 : News h₀ L g5 ((I, oI) :: (C, oC) :: (D, lst ys) :: nw) := fun p hp => by
        simp only [List.mem_cons] at hp
        rcases hp with rfl | rfl | rfl | hp
        · exact ⟨eI, t.li, t.ni⟩
        · exact ⟨eC, t.lc, t.nc⟩
        · exact ⟨D5, t.ld, t.nd⟩
        · exact N5 p hp
      refine wpAny_mono (turn i ys nw v I oI C oC D _ g5 _ hJ hmx hv (isTupB_not (by rw [cI]; decide)) hoC (by simp) F5 L5 X.off ⟨t.ic, t.id, t.cd⟩) ?_ fun _ _ e => e
      rintro y s₄ ⟨g6, tk6, nw6, rfl, F6, N6, off6, hm6, J6⟩
      have e6I := (N6 (I, oI) (.head _)).1
      have e6C := (N6 (C, oC) (.tail _ (.head _))).1
      have e6D := (N6 (D, lst ys) (.tail _ (.tail _ (.head _)))).1
      have X6 : CSt h₀ L m I C D ax vs (i + 1) ys nw6 g6 := ⟨⟨oI, e6I, cI, dI⟩, ⟨_, hoC.ns e6C⟩, e6D, F6, fun p hp => N6 p (.tail _ (.tail _ (.tail _ hp))), off6⟩
      refine append_at (hsz := by show ys.toArray.size ≤ sizeLine; rw [List.size_toArray, hyl]; exact Nat.le_trans hi hsz) e6D fun g7 sb7 D7 => ?_
      obtain ⟨F7, N7⟩ := X6.but t D (.inr (.inr rfl)) (h' := g7) fun a o ha e => sb7.extBut a o ha e
      refine ⟨c - 1, by omega, g7, tk6, i + 1, ys ++ [y], nw6, rfl, by omega, by rw [List.length_append, List.length_singleton, hyl], hlt, ⟨X6.it.extBut sb7.extBut t.id, ⟨_, (hoC.ns e6C).sameBut sb7 t.cd⟩, D7.trans (congrArg some (lst_snoc ys y)), F7, N7, off6⟩, hm6, J6⟩
    · obtain rfl : i = vs.length := Nat.le_antisymm hi (Nat.not_lt.mp hlt)
      refine wpAny_pyNext_tuple_end hh X.it hsrc (by simp) fun g4 sb4 => ?_
      obtain ⟨F4, N4⟩ := X.but t I (.inl rfl) (h' := g4) fun a o ha e => sb4 a o ha e
      obtain ⟨mC, nC⟩ := X.ns
      have D4 : g4.get? D = some (lst ys) := sb4 _ _ t.id.symm X.out
      refine ⟨mC, nC.at' fun o e => sb4 _ o t.ic.symm e, fun g5 sb5 => ?_⟩
      refine fin ys nw D g5 _ hJ (F4.change sb5 t.lc t.nc) (fun p hp => ?_) X.off.one
      rcases List.mem_cons.mp hp with rfl | hp
      · exact ⟨sb5.extBut _ _ t.cd.symm D4, t.ld, t.nd⟩
      · exact ⟨sb5.extBut _ _ (X.off.mem p hp).2.1 (N4 p hp).1, (N4 p hp).2⟩
  exact codeAny_compStart_list (loop _ ⟨_, rfl⟩) (wpAny_pyIter_tupleiter start.it (loop _ ⟨_, rfl⟩))
theorem csrc {elt : Expr} {x : Str} {scope : Scope} {cl : List (Str × Addr)} {Q : Value → Shared → Prop} {ax : Addr} {vs : List Value} {k : Nat} {news : List (Addr × Obj)} {s₁ : Shared} (J : Nat → List Value → List (Addr × Obj) → Prop)
    (F : Fr h₀ L s₁.heap m) (N : News h₀ L s₁.heap news) (hm : (ax, tupObj vs k) ∈ news) (hz : vs.length ≤ sizeLine) (j0 : J 0 [] news) (turn : CTurn prog w A h₀ L m env elt x scope cl s₁ ax vs k J E Q) (fin : CFin h₀ L m s₁ vs J Q) :
    CSrcT prog w A h₀ L m env elt x scope cl E Q (.ref ax) s₁ := ⟨ax, vs, k, news, J, rfl, F, N, hm, hz, j0, turn, fin⟩
end
end

section
-- Rules
theorem adjust_upto (b n : Nat) : Builtin.Slice.sliceAdjust none (some (b : Int)) 1 (n : Int) = (0, ((min b n : Nat) : Int)) := by
  unfold Builtin.Slice.sliceAdjust
  simp only [show ¬ ((1 : Int) < 0) by omega, show ¬ ((b : Int) < 0) by omega, if_false]
  congr 1
  omega
theorem places_upto (k : Nat) : Builtin.Slice.slicePlaces 0 (k : Int) 1 = k := by
  unfold Builtin.Slice.slicePlaces
  simp only [show (1 : Int) > 0 by omega, if_true, Int.ediv_one]
  split <;> omega
section
variable {prog : Program} {w : World} {A : Around} {E : Value → Shared → Prop} {s : Shared} {h₀ : Heap} {L : Addr} {m : Str → Option Value} {news : List (Addr × Obj)}
theorem sliceApplied_upto {sl : Addr} {b n : Nat} {u : Tok} {Q : Int × Int × Nat → Shared → Prop} (hs : s.heap.IsSliceOf sl .none (.int b u) .none) (h : Q (0, 1, min b n) s) :
    wpAny (model prog w) A (Builtin.Slice.sliceApplied (.ref sl) (pure (n : Int))) Q E s := by
  obtain ⟨os, hos, hcs, hds⟩ := id hs
  unfold Builtin.Slice.sliceApplied Builtin.Slice.sliceFields
  refine wpAny_bind (wpAny_bind (wpAny_field hos hds (x := .none) rfl (wpAny_bind (wpAny_field hos hds (x := .int b u) rfl (wpAny_bind (wpAny_field hos hds (x := .none) rfl (wpAny_pure ?_)))))))
  refine wpAny_bind (slicePart_none ?_)
  show wpAny _ _ (if ((1 : Int) == 0) = true then _ else _) _ _ s
  rw [if_neg (by decide)]
  refine wpAny_bind (slicePart_none (wpAny_bind (slicePart_int (wpAny_bind (wpAny_pure ?_)))))
  show wpAny _ _ (match Builtin.Slice.sliceAdjust none (some (b : Int)) 1 (n : Int) with | (lo, hi) => pure (lo, (1 : Int), Builtin.Slice.slicePlaces lo hi 1)) _ _ s
  rw [adjust_upto b n]
  show wpAny _ _ (pure ((0 : Int), (1 : Int), Builtin.Slice.slicePlaces 0 ((min b n : Nat) : Int) 1)) _ _ s
  rw [places_upto]
  exact wpAny_pure h
theorem pick_upto (xs : Array Value) (k : Nat) : ((List.range k).filterMap fun (j : Nat) => xs[((0 : Int) + (j : Int) * 1).toNat]?).toArray = (xs.toList.take k).toArray := by
  have e : (fun (j : Nat) => xs[((0 : Int) + (j : Int) * 1).toNat]?) = (fun x => xs[x]?) ∘ fun j => 0 + j := by
    funext j
    have : ((0 : Int) + (j : Int) * 1).toNat = 0 + j := by omega
    show xs[((0 : Int) + (j : Int) * 1).toNat]? = xs[0 + j]?
    rw [this]
  rw [e, ← List.filterMap_map, pick_run xs 0 k, List.drop_zero]
theorem getItem_tuple_upto {t sl : Addr} {items : Array Value} {b : Nat} {u : Tok} {Q : Value → Shared → Prop} (ht : IsTup s.heap t items) (hs : s.heap.IsSliceOf sl .none (.int b u) .none)
    (h1 : b < items.size → Q (.ref s.heap.objs.size) { s with heap := s.heap.push { cls := .type "tuple", data := .seq (items.toList.take b).toArray } }) (h2 : items.size ≤ b → Q (.ref t) s)
    (hsz : items.size ≤ sizeLine) : wpAny (model prog w) A (getItem (.ref t) (.ref sl)) Q E s := by
  have htake : sizeOk (.seq (items.toList.take b).toArray) := by
    show (items.toList.take b).toArray.size ≤ sizeLine
    rw [List.size_toArray, List.length_take, Array.length_toList]
    omega
  obtain ⟨os, hos, hcs, hds⟩ := id hs
  have hTs : s.TypeIs (.ref sl) "slice" := ⟨os, hos, hcs⟩
  unfold getItem
  try with_reducible refine wpAny_holding ?_
  refine wpAny_bind (wpAny_sequenceKey ht.typeIs (by decide) ?_)
  refine wpAny_bind (wpAny_callSpecial?_slot (name := Str.ofString "__getitem__") ht.typeIs slot_tuple_getitem
    (wpAny_call_entry slot_tuple_getitem ht.typeIs entry_tuple_getitem ?_ (args_tuple_getitem _ _)))
  show wpAny _ _ (Builtin.Tuple.tupleItemsOf (.ref t) >>= _) _ _ s
  refine wpAny_bind (tupleItemsOf_ ht ?_)
  refine wpAny_bind (wpAny_typeOf hTs ?_)
  rw [if_pos (by decide)]
  refine wpAny_bind (sliceApplied_upto (n := items.size) hs ?_)
  by_cases hb : b < items.size
  · have hno : ¬ (((0 : Int) == 0 && (1 : Int) == 1 && (min b items.size) == items.size) = true) := by
      have : ((min b items.size) == items.size) = false := by rw [beq_eq_false_iff_ne]; omega
      rw [this]; simp
    show wpAny _ _ (if ((0 : Int) == 0 && (1 : Int) == 1 && (min b items.size) == items.size) = true then _ else _) _ _ s
    rw [if_neg hno, pick_upto items, Nat.min_eq_left (Nat.le_of_lt hb)]
    first
      | exact wpAny_bind (m := Builtin.Tuple.tupleExact _) (wpAny_newObj_type (wpAny_pure ⟨_, rfl, wpAny_pure (h1 hb)⟩) htake)
      | exact wpAny_bind (m := Builtin.Tuple.tupleExact _) (wpAny_newObj_type (wpAny_bind (wpAny_pure (wpAny_pure ⟨_, rfl, wpAny_pure (h1 hb)⟩))) htake)
      | exact wpAny_bind (wpAny_bind (m := Builtin.Tuple.tupleExact _) (wpAny_newObj_type (wpAny_pure (wpAny_pure ⟨_, rfl, wpAny_pure (h1 hb)⟩)) htake))
  · have hyes : ((0 : Int) == 0 && (1 : Int) == 1 && (min b items.size) == items.size) = true := by
      have : min b items.size = items.size := by omega
      rw [this]; simp
    show wpAny _ _ (if ((0 : Int) == 0 && (1 : Int) == 1 && (min b items.size) == items.size) = true then _ else _) _ _ s
    rw [if_pos hyes]
    obtain ⟨o, ho, hc, hd⟩ := ht
    have hT : s.TypeIs (.ref t) "tuple" := ⟨o, ho, hc⟩
    refine wpAny_bind ?_
    unfold Builtin.Tuple.tupleIsExact
    refine wpAny_bind (wpAny_typeOf hT (wpAny_pure ?_))
    rw [if_pos (by decide)]
    first
      | exact wpAny_bind (wpAny_rule (wpAny_bind (wpAny_pure (wpAny_pure ⟨_, rfl, wpAny_pure (h2 (Nat.not_lt.mp hb))⟩))))
      | exact wpAny_bind (wpAny_rule (wpAny_pure ⟨_, rfl, wpAny_pure (h2 (Nat.not_lt.mp hb))⟩))
      | exact wpAny_bind (wpAny_rule (wpAny_bind (wpAny_pure ⟨_, rfl, wpAny_pure (h2 (Nat.not_lt.mp hb))⟩)))
/-- t[:b] of a tuple of the ledger -/
theorem slice_upto {value slice : Expr} {t : Addr} {vs : List Value} {k b : Nat} {u : Tok} {Q : Value → Shared → Prop} (F : Fr h₀ L s.heap m) (N : News h₀ L s.heap news) (ht : (t, tupObj vs k) ∈ news) (hlt : b < vs.length) (hsz : vs.length ≤ sizeLine)
    (h : ∀ D h', Fr h₀ L h' m → News h₀ L h' ((D, tupObj (vs.take b) 0) :: news) → (∀ p ∈ news, p.1 < D) → Q (.ref D) { s with heap := h' })
    (hs : subscripted slice false (.ref t) (.ref s.heap.objs.size) = operate [.ref s.heap.objs.size, .ref t] (getItem (.ref t) (.ref s.heap.objs.size)))
    (hg : ∀ r, letTemporaryGo value (.ref t) r = pure ()) :
    wpAny (model prog w) A (subscriptTail value slice (.ref t) (.ref s.heap.objs.size)) Q E { s with heap := s.heap.push { cls := .type "slice", data := .fields #[.none, .int b u, .none] } } := by
  have ht0 : IsTup s.heap t vs.toArray := News.isTup N ht
  have ht' : IsTup (s.heap.push { cls := .type "slice", data := .fields #[.none, .int b u, .none] }) t vs.toArray := ht0.keeps fun _ _ e => Heap.get?_push_of_some _ e
  refine subscriptTail_ops (s := { s with heap := s.heap.push { cls := .type "slice", data := .fields #[.none, .int b u, .none] } }) ht'.typeIs slot_tuple_getitem.lookup
    (getItem_tuple_upto ht' (Heap.IsSliceOf.new ..) (fun _ => ?_) (fun h9 => ?_) (by simpa using hsz)) hs hg
  · have N1 := News.push (F.push { cls := .type "slice", data := .fields #[.none, .int b u, .none] }) (N.grown fun _ _ e => Heap.get?_push_of_some _ e) (tupObj (vs.take b) 0)
    refine h _ _ ((F.push _).push _) N1 fun p hp => ?_
    show p.1 < (s.heap.push _).objs.size
    rw [Heap.size_push]
    exact Nat.lt_succ_of_lt (Heap.lt_size (N p hp).1)
  · rw [List.size_toArray] at h9
    omega
theorem slice_whole {value slice : Expr} {t : Addr} {vs : List Value} {k b : Nat} {u : Tok} {Q : Value → Shared → Prop} (F : Fr h₀ L s.heap m) (N : News h₀ L s.heap news) (ht : (t, tupObj vs k) ∈ news) (hlt : vs.length ≤ b) (hsz : vs.length ≤ sizeLine)
    (h : ∀ h', Fr h₀ L h' m → News h₀ L h' news → Q (.ref t) { s with heap := h' })
    (hs : subscripted slice false (.ref t) (.ref s.heap.objs.size) = operate [.ref s.heap.objs.size, .ref t] (getItem (.ref t) (.ref s.heap.objs.size)))
    (hg : ∀ r, letTemporaryGo value (.ref t) r = pure ()) :
    wpAny (model prog w) A (subscriptTail value slice (.ref t) (.ref s.heap.objs.size)) Q E { s with heap := s.heap.push { cls := .type "slice", data := .fields #[.none, .int b u, .none] } } := by
  have ht0 : IsTup s.heap t vs.toArray := News.isTup N ht
  have ht' : IsTup (s.heap.push { cls := .type "slice", data := .fields #[.none, .int b u, .none] }) t vs.toArray := ht0.keeps fun _ _ e => Heap.get?_push_of_some _ e
  refine subscriptTail_ops (s := { s with heap := s.heap.push { cls := .type "slice", data := .fields #[.none, .int b u, .none] } }) ht'.typeIs slot_tuple_getitem.lookup
    (getItem_tuple_upto ht' (Heap.IsSliceOf.new ..) (fun h9 => ?_) (fun _ => ?_) (by simpa using hsz)) hs hg
  · rw [List.size_toArray] at h9
    omega
  · exact h _ (F.push _) (N.grown fun _ _ e => Heap.get?_push_of_some _ e)
/-- t[a:] of a tuple of the ledger -/
theorem slice_from {value slice : Expr} {t : Addr} {vs : List Value} {k a : Nat} {u : Tok} {Q : Value → Shared → Prop} (F : Fr h₀ L s.heap m) (N : News h₀ L s.heap news) (ht : (t, tupObj vs k) ∈ news) (h1 : 1 ≤ a) (ha : a ≤ vs.length) (hsz : vs.length ≤ sizeLine)
    (h : ∀ D h', Fr h₀ L h' m → News h₀ L h' ((D, tupObj (vs.drop a) 0) :: news) → (∀ p ∈ news, p.1 < D) → Q (.ref D) { s with heap := h' })
    (hs : subscripted slice false (.ref t) (.ref s.heap.objs.size) = operate [.ref s.heap.objs.size, .ref t] (getItem (.ref t) (.ref s.heap.objs.size)))
    (hg : ∀ r, letTemporaryGo value (.ref t) r = pure ()) :
    wpAny (model prog w) A (subscriptTail value slice (.ref t) (.ref s.heap.objs.size)) Q E { s with heap := s.heap.push { cls := .type "slice", data := .fields #[.int a u, .none, .none] } } :=
  slice_tuple_from F N (News.isTup N ht) h1 (by simpa using ha) (fun h' F' N' => h _ h' F' N' fun p hp => Nat.lt_succ_of_lt (Heap.lt_size (N p hp).1)) hs hg (by simpa using hsz)
end
section
variable {prog : Program} {w : World} {A : Around} {E : Value → Shared → Prop} {s : Shared} {h₀ : Heap} {L : Addr} {m : Str → Option Value} {news : List (Addr × Obj)}
theorem tuple_of {l : Addr} {vs : List Value} {n : Nat} {Q : Value → Shared → Prop} (F : Fr h₀ L s.heap m) (N : News h₀ L s.heap news) (hm : (l, listOf (List.toArray vs) n) ∈ news) (hz : vs.length ≤ sizeLine)
    (h : ∀ D h', Fr h₀ L h' m → News h₀ L h' ((D, tupObj vs 0) :: news) → (∀ p ∈ news, p.1 < D) → Q (.ref D) { s with heap := h' }) : wpAny (model prog w) A (call (.type "tuple") [.ref l]) Q E s := by
  refine call_tuple_list (News.isList N hm) (fun h' hk => ?_) (by simpa using hz)
  have F' : Fr h₀ L h' m := F.keeps hk
  have N' : News h₀ L h' news := fun p hp => ⟨hk _ _ (N p hp).1, (N p hp).2⟩
  exact h _ _ (F'.push _) (N'.push F' _) fun p hp => Heap.lt_size (N' p hp).1
end
section
variable {prog : Program} {w : World} {A : Around} {E : Value → Shared → Prop} {s : Shared} {h₀ : Heap} {L : Addr} {m : Str → Option Value} {news : List (Addr × Obj)}
theorem item_tupI {value slice : Expr} {t : Addr} {vs : List Value} {n : Nat} {k : Int} {u : Tok} {x : Value} {Q : Value → Shared → Prop} (N : News h₀ L s.heap news) (hm : (t, tupObj vs n) ∈ news) (h0 : 0 ≤ k) (hhi : k < 2 ^ 63) (hx : vs[k.toNat]? = some x) (h : Q x s)
    (hs : subscripted slice false (.ref t) (.int k u) = operate [.ref t, .int k u] (getItem (.ref t) (.int k u)) := by with_unfolding_all rfl) :
    wpAny (model prog w) A (subscriptTail value slice (.ref t) (.int k u)) Q E s := by
  refine item_tupleT (News.isTup N hm) (by omega) hhi (j := k.toNat) ?_ hx h hs
  have hlt : k.toNat < vs.length := (List.getElem?_eq_some_iff.mp hx).1
  unfold seqIndex?
  simp
  omega
end
theorem eq_str_no {prog : Program} {w : World} {A : Around} {E : Value → Shared → Prop} {s : Shared} {x y : Str} {t u : Tok} {Q : Value → Shared → Prop} (h : x ≠ y) (hQ : Q (.bool false) s) : wpAny (model prog w) A (compareOp .Eq (.str x t) (.str y u)) Q E s := by
  refine eq_str ?_
  rw [show (x == y) = false from beq_eq_false_iff_ne.mpr h]
  exact hQ

section
variable {prog : Program} {w : World} {A : Around} {E : Value → Shared → Prop} {s : Shared} {h₀ : Heap} {L : Addr} {m : Str → Option Value} {news : List (Addr × Obj)}
theorem add_tupC {t b : Addr} {vs us : List Value} {n1 n2 : Nat} {Q : Value → Shared → Prop} (F : Fr h₀ L s.heap m) (N : News h₀ L s.heap news) (ht : (t, tupObj vs n1) ∈ news) (hb : (b, tupObj us n2) ∈ news) (h1 : 0 < vs.length) (h2 : 0 < us.length) (hz : vs.length + us.length ≤ sizeLine)
    (h : ∀ D h', Fr h₀ L h' m → News h₀ L h' ((D, tupObj (vs ++ us) 0) :: news) → (∀ p ∈ news, p.1 < D) → Q (.ref D) { s with heap := h' }) : wpAny (model prog w) A (binaryOp .Add (.ref t) (.ref b)) Q E s := by
  refine add_tuples F N (News.isTup N ht) (News.isTup N hb) (fun e => ?_) (fun _ e => ?_) (fun _ _ h' F' N' => h _ h' F' N' fun p hp => Heap.lt_size (N p hp).1) hz
  · rw [e] at h1; cases h1
  · rw [e] at h2; cases h2
theorem tuple_same {t : Addr} {vs : List Value} {n : Nat} {Q : Value → Shared → Prop} (N : News h₀ L s.heap news) (ht : (t, tupObj vs n) ∈ news) (h : Q (.ref t) s) : wpAny (model prog w) A (call (.type "tuple") [.ref t]) Q E s :=
  call_tuple_same ⟨_, (N _ ht).1, rfl, _, rfl⟩ h
theorem len_tupK {t : Addr} {vs : List Value} {n : Nat} {Q : Value → Shared → Prop} (N : News h₀ L s.heap news) (ht : (t, tupObj vs n) ∈ news) (hz : vs.length ≤ sizeLine) (h : ∀ tk tk', Q (.int (vs.length : Int) tk) { s with toks := tk' }) : wpAny (model prog w) A (call (.builtin "len") [.ref t]) Q E s := by
  refine len_tuple (News.isTup N ht) ?_ ?_
  · rw [List.size_toArray]
    rw [sizeLine_eq] at hz
    omega
  · rw [List.size_toArray]; exact h _ _
end
end

section
-- Pure
mutual
def T.dep : T → Nat
  | .sym _ => 0
  | .int _ => 0
  | .text _ => 0
  | .ex _ ps => T.deps ps + 1
def T.deps : List T → Nat
  | [] => 0
  | t :: r => max t.dep (T.deps r)
end
theorem dep_mem : ∀ {ps : List T} {p : T}, p ∈ ps → p.dep ≤ T.deps ps
  | _ :: _, _, .head _ => by simp only [T.deps]; omega
  | _ :: ps, _, .tail _ h => by have := dep_mem h; simp only [T.deps]; omega
mutual
def T.ok : T → Prop
  | .sym _ => True
  | .int _ => True
  | .text _ => True
  | .ex _ ps => ps.length ≤ 60 ∧ T.oks ps
def T.oks : List T → Prop
  | [] => True
  | t :: r => t.ok ∧ T.oks r
end
theorem ok_mem : ∀ {ps : List T} {p : T}, T.oks ps → p ∈ ps → p.ok
  | _ :: _, _, h, .head _ => h.1
  | _ :: _, _, h, .tail _ q => ok_mem h.2 q
mutual
def plainT : T → T
  | .sym x => .sym x
  | .int i => .int i
  | .text b => .text b
  | .ex h ps => if h = kS "dotcall" then .ex (kS "call") (plainTs ps) else .ex h ps
def plainTs : List T → List T
  | [] => []
  | t :: r => plainT t :: plainTs r
end
theorem plainTs_append (xs ys : List T) : plainTs (xs ++ ys) = plainTs xs ++ plainTs ys := by
  induction xs with
  | nil => rfl
  | cons x xs ih => simp only [List.cons_append, plainTs, ih]
theorem plainTs_len (xs : List T) : (plainTs xs).length = xs.length := by
  induction xs with
  | nil => rfl
  | cons x xs ih => simp only [plainTs, List.length_cons, ih]
theorem sym_inv {Y : List (Addr × Obj)} {v : Value} {x : Str} (h : TIn Y v (T.sym x).dat) : ∃ a n t1 t2, v = .ref a ∧ (a, tupObj [.str (kS "sym") t1, .str x t2] n) ∈ Y := by
  cases h with
  | tuple m r =>
    cases r with
    | cons a r =>
      cases a
      cases r with
      | cons b r =>
        cases b
        cases r
        exact ⟨_, _, _, _, rfl, m⟩
theorem int_inv {Y : List (Addr × Obj)} {v : Value} {x : Int} (h : TIn Y v (T.int x).dat) : ∃ a n t1 t2, v = .ref a ∧ (a, tupObj [.str (kS "int") t1, .int x t2] n) ∈ Y := by
  cases h with
  | tuple m r =>
    cases r with
    | cons a r =>
      cases a
      cases r with
      | cons b r =>
        cases b
        cases r
        exact ⟨_, _, _, _, rfl, m⟩
theorem text_inv {Y : List (Addr × Obj)} {v : Value} {x : Array UInt8} (h : TIn Y v (T.text x).dat) : ∃ a n t1 t2, v = .ref a ∧ (a, tupObj [.str (kS "text") t1, .bytes x t2] n) ∈ Y := by
  cases h with
  | tuple m r =>
    cases r with
    | cons a r =>
      cases a
      cases r with
      | cons b r =>
        cases b
        cases r
        exact ⟨_, _, _, _, rfl, m⟩
theorem tup_inv {Y : List (Addr × Obj)} {v : Value} {ds : List Dat} (h : TIn Y v (.tuple ds)) : ∃ a n vs, v = .ref a ∧ (a, tupObj vs n) ∈ Y ∧ TAll Y vs ds := by
  cases h with
  | tuple m r => exact ⟨_, _, _, rfl, m, r⟩
theorem ex_inv {Y : List (Addr × Obj)} {v : Value} {h : Str} {ps : List T} (q : TIn Y v (T.ex h ps).dat) :
    ∃ a n t1 t2 b vs k, v = .ref a ∧ (a, tupObj [.str (kS "expr") t1, .str h t2, .ref b] n) ∈ Y ∧ (b, tupObj vs k) ∈ Y ∧ TAll Y vs (T.dats ps) := by
  cases q with
  | tuple m r =>
    cases r with
    | cons a r =>
      cases a
      cases r with
      | cons b r =>
        cases b
        cases r with
        | cons c r =>
          cases r
          obtain ⟨a, n, vs, rfl, h1, h2⟩ := tup_inv c
          exact ⟨_, _, _, _, _, _, _, rfl, m, h1, h2⟩
def PlainC (w : World) (t : T) : Prop := ∀ (v : Value) (Y : List (Addr × Obj)), t.ok → TIn Y v t.dat →
  Con w 233 [v] (8 + 6 * t.dep) (60 + 40 * t.dep) [] Y (fun M' Y₁ r => M' = [] ∧ TIn Y₁ r (plainT t).dat)
section
variable {w : World} {Y news ex : List (Addr × Obj)}
  {dp un : Nat} {gd : Option (List Code)} {cn : Str} {cs : Scope} {fa : Addr} {ccd : Value} {cl : List (Str × Addr)} {outer : List Env} {A₀ : Around} {base h₀ : Heap} {L : Addr} {m : Str → Option Value} {s : Shared}
  {mean : ExcName → Option Value} {mg mb : Str → Option Value} {Q E : Value → Shared → Prop}
theorem plain_use {t : T} {v : Value} (C : PlainC w t) (ho : t.ok) (hv : TIn Y v t.dat) (B : Below A₀ base outer h₀) (F : Fr h₀ L s.heap m) (X : (hd.heap_39 w.params).In h₀) (N : News h₀ L s.heap news)
    (T : Top hd.view_39 (looseW hd.view_39 [Str.ofString "RowsError"]) mean mg mb h₀) (hk : cs.kind = .function) (hc : Cut [] Y news ex)
    (hd : dp + (8 + 6 * t.dep) < recursionLimit) (hu : un + (60 + 40 * t.dep) < cLine)
    (ret : ∀ r Y₂ h' tk', GrowT Y Y₂ → Fr h₀ L h' m → News h₀ L h' (ex ++ Y₂) → TIn Y₂ r (plainT t).dat → Q r { s with heap := h', toks := tk' }) :
    wpAny (model PySem.Challenge.rw_pq0689_01.row.prog w) (ktrTop dp un gd cn cs L fa ccd cl outer) (call (.ref 233) [v]) Q E s := by
  refine Con.use (ex := ex) (fun _ => C v (ex ++ Y) ho (TIn.mono (fun p h _ => List.mem_append.mpr (.inr h)) hv)) ?_ hc (fun _ h => nomatch h) (fun _ h => nomatch h) B F X N T hk hd hu ?_
  · rintro M' X Z r hs ⟨h1, h2⟩
    exact ⟨h1, h2.mono hs⟩
  · rintro r M' Y₂ h' tk' g F' N' ⟨rfl, h2⟩
    exact ret r Y₂ h' tk' g F' N' h2
end
theorem cmp_head {h k : Str} (hne : h ≠ k) (e : String) : cmpDs [sS e, .str h] [sS e, .str k] = some false := by
  have h1 : (h == k) = false := beq_eq_false_iff_ne.mpr hne
  have h2 : (Str.ofString e == Str.ofString e) = true := beq_self_eq_true _
  simp only [cmpDs, cmpD, h1, h2]
theorem TAll.get {Y : List (Addr × Obj)} : ∀ {vs : List Value} {ts : List T} {i : Nat} {v : Value}, TAll Y vs (T.dats ts) → vs[i]? = some v → ∃ t, ts[i]? = some t ∧ TIn Y v t.dat
  | _, [], i, v, .nil, h => by simp at h
  | _, t :: ts, 0, v, .cons a r, h => by
    simp only [List.getElem?_cons_zero, Option.some.injEq] at h
    subst h
    exact ⟨t, rfl, a⟩
  | _, t :: ts, i + 1, v, .cons a r, h => by
    simp only [List.getElem?_cons_succ] at h ⊢
    exact TAll.get r h
theorem take_snoc {α : Type} {ts : List α} {i : Nat} {t : α} (h : ts[i]? = some t) : ts.take (i + 1) = ts.take i ++ [t] := by
  rw [List.take_add_one, h]; rfl
open LCg in
theorem comp_end {h₀ h' : Heap} {L I C D ax : Addr} {m : Str → Option Value} {s₁ : Shared} {oI oC : Obj} {ys vs : List Value} {k tk' : Nat} {rest : Value → List (Addr × Obj) → Prop} {y : Value} {messy news Y₂ : List (Addr × Obj)}
    (F : Fr h₀ L h' m) (N : News h₀ L h' messy) (hI : (I, oI) ∈ messy) (hC : (C, oC) ∈ messy) (hD : (D, lst ys) ∈ messy) (hY : ∀ p ∈ Y₂, p ∈ messy) (g : GrowT news Y₂) (off : Off3 I C D news) (hoI : isTupB oI = false) (hoC : isTupB oC = false)
    (hS : SrcK ax vs k news) (r : rest y Y₂) : CompEnd h₀ L m s₁ I oI C oC D (lst ys) (SrcK ax vs k) rest y { s₁ with heap := h', toks := tk' } := by
  have o3 := off.mem
  refine CompEnd.intro F N Y₂ (fun p hp => ?_) (Off3.of fun p hp => ⟨GrowT.off g (fun p q => (o3 p q).1) N hY hI hoI p hp, GrowT.off g (fun p q => (o3 p q).2.1) N hY hC hoC p hp, GrowT.off g (fun p q => (o3 p q).2.2) N hY hD rfl p hp⟩) (g.1 _ hS) r
  simp only [List.mem_cons] at hp
  rcases hp with rfl | rfl | rfl | hp
  · exact hI
  · exact hC
  · exact hD
  · exact hY p hp
theorem plain_step {nw Y' : List (Addr × Obj)} {ys : List Value} {r : Value} {ps : List T} {i : Nat} {p : T} (g : GrowT nw Y') (hT : TAll nw ys (T.dats (plainTs (ps.take i)))) (hp : ps[i]? = some p) (hr : TIn Y' r (plainT p).dat) :
    TAll Y' (ys ++ [r]) (T.dats (plainTs (ps.take (i + 1)))) := by
  rw [take_snoc hp, plainTs_append]
  exact TAll.snoc (TAll.mono (subT_of g.1) hT) hr
theorem take_full {Y : List (Addr × Obj)} {vs : List Value} {ps : List T} (h : TAll Y vs (T.dats ps)) : ps.take vs.length = ps := by
  have := h.length
  rw [dats_len] at this
  exact List.take_of_length_le (by omega)
end

section
-- Plain
theorem reset_Plain : True := by
  w_top off
  trivial
local macro_rules | `(tactic| lsm_bools) => `(tactic| first | exact List.Mem.head _ | assumption | (refine' List.Mem.tail _ ?_; lsm_bools) | (refine' GrowT.mem ?g ?h; (case g => assumption); (case h => lsm_bools)) | fail "no entry")
local macro_rules | `(tactic| k_mem) => `(tactic| first | lsm_bools | fail "no entry")
local macro_rules | `(tactic| tb_start) => `(tactic| first
  | exact List.forall_mem_nil _
  | (refine' List.forall_mem_cons.mpr ⟨?a, ?b⟩; (case a => lsm_bools); (case b => tb_start))
  | (intro p hp; repeat (first | exact hp | refine List.mem_cons_of_mem _ ?_ | refine List.Mem.tail _ ?_ | refine GrowT.mem' (by assumption) ?_ | refine GrowT.mem (by assumption) ?_ | fail "no entry"))
  | fail "not within")
local macro_rules | `(tactic| k_all) => `(tactic| first
  | assumption
  | (refine' GrowT.off ?g ?o ?N ?s ?m ?c; (case g => assumption); (case o => k_all); (case N => k_asm); (case s => tb_start); (case m => lsm_bools); (case c => rfl))
  | (refine' offLt ?h ?s; (case h => assumption); (case s => tb_start))
  | fail "not apart")
local macro_rules | `(tactic| k_lt $h:ident) => `(tactic| (have hl9 := $h; replace $h := allLt_of $h; simp only [AllLt, and_true] at $h:ident))
local macro_rules | `(tactic| kqd_sub) => `(tactic| first
  | (refine' Cut.own ?m ?r; (case m => lsm_bools); (case r => kqd_sub))
  | (refine' Cut.oth ?o ?r; (case o => k_all); (case r => kqd_sub))
  | exact Cut.tail
  | fail "no cut")
local macro_rules | `(tactic| ktr_rel) => `(tactic| first
  | exact subT_nil
  | exact subT_of (fun _ hp => hp)
  | assumption
  | (refine' subT_skip ?a ?b; (case a => rfl); (case b => ktr_rel))
  | (refine' subT_cons ?a ?b; (case a => lsm_bools); (case b => ktr_rel))
  | (refine' subT_of ?h; (case h => tb_start))
  | (refine' subT_app ?a ?b; (case a => ktr_rel); (case b => ktr_rel))
  | fail "tuples not within")
local macro_rules | `(tactic| k_room) => `(tactic| ktr_room)
local macro_rules | `(tactic| k_units) => `(tactic| ktr_units)
local macro_rules | `(tactic| tb_rel) => `(tactic| first
  | exact TAll.nil
  | exact TIn.str _ _
  | exact TIn.int _ _
  | exact TIn.bytes _ _
  | assumption
  | (refine' TIn.mono ?s ?h; (case h => assumption); (case s => ktr_rel))
  | (refine' TAll.mono ?s ?h; (case h => assumption); (case s => ktr_rel))
  | (refine' TIn.tuple ?m ?r; (case m => lsm_bools); (case r => tb_rel))
  | (refine' TAll.cons ?h ?t; (case h => tb_rel); (case t => tb_rel))
  | fail "no tree")
local macro_rules | `(tactic| walk_at "compareOp In str ref") => `(tactic| (k_here; k_dflt (refine' in_tupL ?ht ?hi ?_; (case ht => (refine' tupK ?X ?l; (case X => k_in); (case l => k_is))); (case hi => exact rfl))))
local macro_rules | `(tactic| walk_at "compareOp Eq ref ref") => `(tactic| (k_here; k_dflt (first
  | (refine' eq_dat (r := false) ?H ?d1 ?d2 ?hc ?hd ?hu ?_; (case H => exact heldOf (by k_asm)); (case d1 => tb_rel); (case d2 => tb_rel); (case hc => with_unfolding_all rfl); (case hd => exact Nat.le_of_ble_eq_true rfl); (case hu => ktr_units))
  | (refine' eq_dat (r := true) ?H ?d1 ?d2 ?hc ?hd ?hu ?_; (case H => exact heldOf (by k_asm)); (case d1 => tb_rel); (case d2 => tb_rel); (case hc => with_unfolding_all rfl); (case hd => exact Nat.le_of_ble_eq_true rfl); (case hu => ktr_units)))))
local macro_rules | `(tactic| walk_at "compareOp NotEq ref ref") => `(tactic| (k_here; k_dflt (first
  | (refine' ne_dat (r := false) ?H ?d1 ?d2 ?hc ?hd ?hu ?_; (case H => exact heldOf (by k_asm)); (case d1 => tb_rel); (case d2 => tb_rel); (case hc => with_unfolding_all rfl); (case hd => exact Nat.le_of_ble_eq_true rfl); (case hu => ktr_units))
  | (refine' ne_dat (r := true) ?H ?d1 ?d2 ?hc ?hd ?hu ?_; (case H => exact heldOf (by k_asm)); (case d1 => tb_rel); (case d2 => tb_rel); (case hc => with_unfolding_all rfl); (case hd => exact Nat.le_of_ble_eq_true rfl); (case hu => ktr_units)))))
local macro_rules | `(tactic| walk_at "subscriptTail Name Constant ref int") => `(tactic| (k_here; k_dflt (refine' item_tupleT ?t ?a ?b ?c ?d ?_; (case t => exact News.isTup (by k_asm) (by k_mem)); (case a => decide); (case b => decide); (case c => rfl); (case d => rfl); k_whole)))
local macro_rules | `(tactic| walk_at "ite") => `(tactic| (k_closed; k_dflt (first | (refine' ite_pos ?c ?_; (case c => decide)) | (refine' ite_neg ?c ?_; (case c => decide)))))
local macro_rules | `(tactic| walk_at "call type:range cons nil") => `(tactic| (k_here; k_dflt (refine' range1_rows ?F ?N ?_; (case F => k_asm); (case N => k_asm); k_whole; intro h' tk' t1' u1' v1' hR' F' N' hst'; (try k_fold))))
local macro_rules | `(tactic| walk_at "pyIter ref") => `(tactic| (k_here; (with_reducible show wpAny _ _ (pyIter (Value.ref _)) (fun it s₂ => LoopAtV _ _ _ _ _ _ _ _ _ it s₂) _ _); refine' Hold.of ?_))
local macro_rules | `(tactic| walk_at "binaryOp Add ref ref") => `(tactic| (k_here; k_dflt (refine' add_cat ?F ?N ?a ?b ?z ?_; (case F => k_asm); (case N => k_asm); (case a => lsm_bools); (case b => lsm_bools); (case z => (simp only [sizeLine_eq, List.length_cons, List.length_nil]; omega)); k_whole; intro D' h' F' N' l1; (try k_lt l1); (try k_sweep))))
local macro_rules | `(tactic| walk_at "subscriptTail Name Slice ref ref") => `(tactic| (k_here; k_dflt (first
  | (refine' slice_whole ?F ?N ?t ?l ?z ?_ ?hs ?hg; (case F => k_asm); (case N => k_asm); (case t => lsm_bools); (case l => exact Nat.le_of_ble_eq_true rfl); (case z => exact Nat.le_of_ble_eq_true rfl); (case hs => with_unfolding_all rfl); (case hg => (intro _; with_unfolding_all rfl)); k_whole; intro h' F' N'; (try k_sweep))
  | (refine' slice_upto ?F ?N ?t ?l ?z ?_ ?hs ?hg; (case F => k_asm); (case N => k_asm); (case t => lsm_bools); (case l => exact Nat.le_of_ble_eq_true rfl); (case z => exact Nat.le_of_ble_eq_true rfl); (case hs => with_unfolding_all rfl); (case hg => (intro _; with_unfolding_all rfl)); k_whole; intro D' h' F' N' l1; (try k_lt l1); (try k_sweep)))))
local macro_rules | `(tactic| walk_at "subscriptTail Name Slice ref ref") => `(tactic| (k_here; k_dflt
  (refine' slice_from ?F ?N ?t ?o ?l ?z ?_ ?hs ?hg; (case F => k_asm); (case N => k_asm); (case t => lsm_bools); (case o => exact Nat.le_of_ble_eq_true rfl); (case l => (simp only [List.length_cons]; omega)); (case z => (simp only [sizeLine_eq, List.length_cons]; omega)); (case hs => with_unfolding_all rfl); (case hg => (intro _; with_unfolding_all rfl)); k_whole; intro D' h' F' N' l1; (try k_lt l1); (try k_sweep))))
local macro_rules | `(tactic| walk_at "subscriptTail Subscript Name Constant Slice ref ref") => `(tactic| (k_here; k_dflt
  (refine' slice_from ?F ?N ?t ?o ?l ?z ?_ ?hs ?hg; (case F => k_asm); (case N => k_asm); (case t => lsm_bools); (case o => exact Nat.le_of_ble_eq_true rfl); (case l => (simp only [List.length_cons]; omega)); (case z => (simp only [sizeLine_eq, List.length_cons]; omega)); (case hs => with_unfolding_all rfl); (case hg => (intro _; with_unfolding_all rfl)); k_whole; intro D' h' F' N' l1; (try k_lt l1); (try k_sweep))))
local macro_rules | `(tactic| walk_at "call type:tuple cons nil") => `(tactic| (k_here; k_dflt (refine' tuple_of ?F ?N ?t ?z ?_; (case F => k_asm); (case N => k_asm); (case t => lsm_bools); (case z => first | exact Nat.le_of_ble_eq_true rfl | (simp only [sizeLine_eq, List.length_append, List.length_cons, List.length_nil]; omega)); k_whole; intro D' h' F' N' l1; (try k_lt l1); (try k_sweep))))
local macro_rules | `(tactic| walk_at "subscriptTail Name Constant ref int") => `(tactic| (k_here; k_dflt (refine' item_tupI ?N ?m ?a ?b ?c ?_; (case N => k_asm); (case m => lsm_bools); (case a => decide); (case b => decide); (case c => exact rfl); k_whole)))
local macro_rules | `(tactic| walk_at "subscriptTail Subscript Name Constant Constant ref int") => `(tactic| (k_here; k_dflt (refine' item_tupI ?N ?m ?a ?b ?c ?_; (case N => k_asm); (case m => lsm_bools); (case a => decide); (case b => decide); (case c => exact rfl); k_whole)))
local macro_rules | `(tactic| walk_at "subscriptTail Subscript Subscript Constant Constant ref int") => `(tactic| (k_here; k_dflt (refine' item_tupI ?N ?m ?a ?b ?c ?_; (case N => k_asm); (case m => lsm_bools); (case a => decide); (case b => decide); (case c => exact rfl); k_whole)))
local macro_rules | `(tactic| walk_at "subscriptTail Call Name cons nil Constant ref int") => `(tactic| (k_here; k_dflt (refine' item_tupI ?N ?m ?a ?b ?c ?_; (case N => k_asm); (case m => lsm_bools); (case a => decide); (case b => decide); (case c => exact rfl); k_whole)))
local macro_rules | `(tactic| walk_at "binaryOp Add ref ref") => `(tactic| (k_here; k_dflt (refine' add_tupC ?F ?N ?a ?b ?l1 ?l2 ?z ?_; (case F => k_asm); (case N => k_asm); (case a => lsm_bools); (case b => lsm_bools); (case l1 => (simp only [List.length_cons, List.length_nil]; omega)); (case l2 => omega); (case z => (simp only [sizeLine_eq, List.length_cons, List.length_nil]; omega)); k_whole; intro D' h' F' N' l1; (try k_lt l1); (try k_sweep))))
local macro_rules | `(tactic| walk_at "call type:tuple cons nil") => `(tactic| (k_here; k_dflt (refine' tuple_same ?N ?t ?_; (case N => k_asm); (case t => lsm_bools); k_whole)))
local macro_rules | `(tactic| walk_at "call builtin:len cons nil") => `(tactic| (k_here; k_dflt (refine' len_tupK ?N ?t ?z ?_; (case N => k_asm); (case t => lsm_bools); (case z => (simp only [sizeLine_eq, List.length_cons, List.length_nil]; omega)); k_whole; intro tk1' tk2')))
local macro_rules | `(tactic| walk_at "eval ListComp") => `(tactic| (k_here; refine' Hold.of ?_))
local macro_rules | `(tactic| walk_at "compareOp NotEq ref ref") => `(tactic| (k_here; k_dflt (refine' ne_dat (r := false) ?H ?d1 ?d2 ?hc ?hd ?hu ?_; (case H => exact heldOf (by k_asm)); (case d1 => tb_rel); (case d2 => tb_rel); (case hc => exact cmp_head (by assumption) _); (case hd => exact Nat.le_of_ble_eq_true rfl); (case hu => ktr_units))))
local macro_rules | `(tactic| walk_at "call ref") => `(tactic| (k_here; (with_reducible show wpAny _ _ (call (Value.ref 233) [_] _) _ _ _); k_dflt (refine' plain_use ?C ?ho ?hv ?B ?F ?X ?N ?T ?hk ?hc ?hd ?hu ?_; (case C => assumption); (case ho => assumption); (case hv => assumption); (case B => k_asm); (case F => k_asm); (case X => k_asm); (case N => k_asm); (case T => k_asm); (case hk => first | rfl | assumption); (case hc => kqd_sub); (case hd => ktr_room); (case hu => ktr_units); k_whole; intro r' Y' h' tk' g' F' N' hr'; (try simp only [List.cons_append, List.nil_append] at N'); (try k_fold))))
local macro_rules | `(tactic| walk_at "call ref") => `(tactic| (k_here; (with_reducible show wpAny _ _ (call (Value.ref 240) [_] _) _ _ _); k_dflt (refine' things_use ?C ?ho ?hv ?B ?F ?X ?N ?T ?hk ?hc ?hd ?hu ?_; (case C => assumption); (case ho => assumption); (case hv => assumption); (case B => k_asm); (case F => k_asm); (case X => k_asm); (case N => k_asm); (case T => k_asm); (case hk => first | rfl | assumption); (case hc => kqd_sub); (case hd => ktr_room); (case hu => ktr_units); k_whole; intro a' vs' k' Y' h' tk' g' F' N' hr' hrl'; (try simp only [List.cons_append, List.nil_append] at N'); (try k_fold))))
local macro_rules | `(tactic| walk_at "exec For Name Subscript") => `(tactic| (k_here; (rename Fr _ _ _ _ => lF'); (with_unfolding_all refine' For_invVF lF' ?k1 ?k2 ?_; (case k1 => exact rfl); (case k2 => exact rfl); k_whole)))
local macro_rules | `(tactic| walk_at "compareOp Eq ref ref") => `(tactic| (k_here; k_dflt (refine' eq_dat (r := false) ?H ?d1 ?d2 ?hc ?hd ?hu ?_; (case H => exact heldOf (by k_asm)); (case d1 => tb_rel); (case d2 => tb_rel); (case hc => exact cmp_head (by assumption) _); (case hd => exact Nat.le_of_ble_eq_true rfl); (case hu => ktr_units))))
local macro_rules | `(tactic| walk_at "compareOp Eq str str") => `(tactic| (k_here; k_dflt (refine' eq_str_no ?h ?_; (case h => assumption); k_whole)))
set_option maxHeartbeats 8000000 in
theorem plain_con (w : World) : ∀ (n : Nat) (t : T), t.dep < n → PlainC w t := by
  intro n
  induction n with
  | zero => exact fun t h => absurd h (Nat.not_lt_zero _)
  | succ n ih =>
  intro t hn v Y hok hv
  refine Con.intro ?_
  intro dp un gd cn cs fa ccd cl outer A₀ base h₀ L m s mean mg mb Q E B F X N Tp hk hd hu fin
  simp only [List.nil_append] at N
  refine wpAny_call ?_
  cases t with
  | sym x =>
    obtain ⟨a, n, t1, t2, rfl, hm⟩ := sym_inv hv
    simp only [T.dep] at hd hu
    w_strict (
      k_dflt ktr_enter
      k_steps)
    exact fin [] _ _ _ _ (by k_asm) (by k_asm) (List.forall_mem_nil _) (by tb_start) (fun Y₁ hs => ⟨rfl, TIn.mono hs (TIn.mono (subT_of (by tb_start)) hv)⟩)
  | int x =>
    obtain ⟨a, n, t1, t2, rfl, hm⟩ := int_inv hv
    simp only [T.dep] at hd hu
    w_strict (
      k_dflt ktr_enter
      k_steps)
    exact fin [] _ _ _ _ (by k_asm) (by k_asm) (List.forall_mem_nil _) (by tb_start) (fun Y₁ hs => ⟨rfl, TIn.mono hs (TIn.mono (subT_of (by tb_start)) hv)⟩)
  | text x =>
    obtain ⟨a, n, t1, t2, rfl, hm⟩ := text_inv hv
    simp only [T.dep] at hd hu
    w_strict (
      k_dflt ktr_enter
      k_steps)
    exact fin [] _ _ _ _ (by k_asm) (by k_asm) (List.forall_mem_nil _) (by tb_start) (fun Y₁ hs => ⟨rfl, TIn.mono hs (TIn.mono (subT_of (by tb_start)) hv)⟩)
  | ex h ps =>
    obtain ⟨a, n, t1, t2, b, vs, k, rfl, hm, hm2, hT⟩ := ex_inv hv
    simp only [T.dep] at hd hu
    by_cases hh : h = kS "dotcall"
    · subst hh
      w_strict (
        k_dflt ktr_enter
        k_steps)
      unfold Hold
      rename Fr _ _ _ _ => F1
      rename News _ _ _ _ => N1
      refine' comp_tup F1 ?hh ?hclos ?hcell ?hkind ?hnames ?hx ?h ?hs
      case hh => rfl
      case hclos => with_unfolding_all rfl
      case hcell => decide
      case hkind => rfl
      case hnames => decide
      case hx => rfl
      case hs => (intro _; with_unfolding_all rfl)
      case h =>
        w_strict (
          k_steps)
        have hz : vs.length ≤ sizeLine := by
          have := hT.length
          rw [dats_len] at this
          have := hok.1
          rw [sizeLine_eq]
          omega
        refine' csrc (vs := vs) (k := k) (fun i ys nw => (∀ p ∈ Y, p ∈ nw) ∧ TAll nw ys (T.dats (plainTs (ps.take i)))) ?F ?N ?hm hz ?j0 ?turn ?fin
        case F => k_asm
        case N => k_asm
        case hm => lsm_bools
        case j0 => exact ⟨by tb_start, .nil⟩
        case turn =>
          rintro i ys nw v I oI C oC D m₂ h tk ⟨g, hT'⟩ hS hv' hoI hoC hx F' N' off ne
          obtain ⟨p, hp, hpv⟩ := TAll.get hT hv'
          have hpm := List.mem_of_getElem? hp
          have IH : PlainC w p := ih p (by have := dep_mem hpm; simp only [T.dep] at hn; omega)
          have hpd := dep_mem hpm
          have hpo := ok_mem hok.2 hpm
          have hpn : TIn nw v p.dat := TIn.mono (subT_of g) hpv
          k_sweep
          w_strict (
            k_steps)
          refine' comp_end ?F ?N ?I ?C ?D ?hY ?g off hoI (nsObj_not hoC) hS ?r
          case g => assumption
          case F => k_asm
          case N => k_asm
          case I => lsm_bools
          case C => lsm_bools
          case D => lsm_bools
          case hY => tb_start
          case r => exact ⟨fun p hp => GrowT.mem' (by assumption) (g p hp), plain_step (by assumption) hT' hp (by assumption)⟩
        case fin =>
          rintro ys nw D h tk ⟨g, hT'⟩ F' N' o1
          rw [take_full hT] at hT'
          have hyl : ys.length ≤ 60 := by
            have := hT'.length
            rw [dats_len, plainTs_len] at this
            have := hok.1
            omega
          k_sweep
          w_strict (
            k_steps)
          refine' fin [] _ _ _ _ (by k_asm) (by k_asm) (List.forall_mem_nil _) ?Y (fun Y₁ hs => ⟨rfl, TIn.mono hs ?r⟩)
          case Y => exact fun p hp => (show ∀ p ∈ nw, p ∈ _ by tb_start) p (g p hp)
          case r =>
            show TIn _ _ (.tuple [sS "expr", sS "call", .tuple (T.dats (plainTs ps))])
            tb_rel
    · have e : plainT (.ex h ps) = .ex h ps := by simp only [plainT, if_neg hh]
      w_strict (
        k_dflt ktr_enter
        k_steps)
      exact fin [] _ _ _ _ (by k_asm) (by k_asm) (List.forall_mem_nil _) (by tb_start) (fun Y₁ hs => ⟨rfl, by rw [e]; exact TIn.mono hs (TIn.mono (subT_of (by tb_start)) hv)⟩)
end

section
-- ThingsDef
def TreeOk (n : Nat) (t : T) : Prop := LeafOk t ∨ DotT n t
def isSymT : T → Bool
  | .sym _ => true
  | _ => false
mutual
def thingsT : T → List T
  | .sym x => [.sym x]
  | .int _ => []
  | .text _ => []
  | .ex h ps => if h = kS "dotcall" then (match ps with | [] => [] | c :: r => (if isSymT c then [] else [c]) ++ thingsTs r) else [.ex h ps]
def thingsTs : List T → List T
  | [] => []
  | t :: r => thingsT t ++ thingsTs r
end
theorem thingsTs_append (xs ys : List T) : thingsTs (xs ++ ys) = thingsTs xs ++ thingsTs ys := by
  induction xs with
  | nil => rfl
  | cons x xs ih => simp only [List.cons_append, thingsTs, ih, List.append_assoc]
/-- the kinds of a leaf -/
inductive LeafK : T → Prop
  | sym (x : Str) : x ≠ kS "end" → LeafK (.sym x)
  | int (i : Int) : LeafK (.int i)
  | text (b : Array UInt8) : LeafK (.text b)
  | ex (h : Str) (ps : List T) : h ≠ kS "dotcall" → h ≠ kS "..." → h ≠ kS "parameters" → (T.ex h ps).ok → (T.ex h ps).dep ≤ 3 → LeafK (.ex h ps)
theorem leaf_kind {t : T} (h : LeafOk t) : LeafK t := by
  obtain ⟨k, hk, rfl⟩ := h
  match k with
  | 0 => exact .sym _ (by decide)
  | 1 => exact .sym _ (by decide)
  | 2 => exact .sym _ (by decide)
  | 3 => exact .ex _ _ (by decide) (by decide) (by decide) ⟨by decide, trivial, trivial, trivial, trivial⟩ (by decide)
  | 4 => exact .ex _ _ (by decide) (by decide) (by decide) ⟨by decide, trivial, trivial, trivial⟩ (by decide)
  | 5 => exact .int _
  | 6 => exact .text _
  | k + 7 => omega
theorem cal_kind {t : T} (h : CalOk t) : LeafK t := by
  rcases h with ⟨x, hx, rfl⟩ | rfl
  · refine .sym _ fun e => ?_
    subst e
    exact absurd hx (by decide)
  · exact .ex _ _ (by decide) (by decide) (by decide) ⟨by decide, trivial, trivial, trivial⟩ (by decide)
theorem things_leaf {h : Str} {ps : List T} (e : h ≠ kS "dotcall") : thingsT (.ex h ps) = [.ex h ps] := by
  unfold thingsT
  rw [if_neg e]
/-- a list of trees of the ledger -/
def LIn (M Y : List (Addr × Obj)) (r : Value) (ts : List T) : Prop := ∃ a vs n, r = .ref a ∧ M = [(a, listOf (List.toArray vs) n)] ∧ TAll Y vs (T.dats ts)
def ThingsC (w : World) (nn : Nat) : Prop := ∀ (t : T) (v : Value) (Y : List (Addr × Obj)), TreeOk nn t → TIn Y v t.dat →
  Con w 240 [v] (8 + 6 * nn) (60 + 40 * nn) [] Y (fun M' Y₁ r => LIn M' Y₁ r (thingsT t))
section
variable {w : World} {Y news ex : List (Addr × Obj)}
  {dp un : Nat} {gd : Option (List Code)} {cn : Str} {cs : Scope} {fa : Addr} {ccd : Value} {cl : List (Str × Addr)} {outer : List Env} {A₀ : Around} {base h₀ : Heap} {L : Addr} {m : Str → Option Value} {s : Shared}
  {mean : ExcName → Option Value} {mg mb : Str → Option Value} {Q E : Value → Shared → Prop}
theorem things_use {nn : Nat} {t : T} {v : Value} (C : ThingsC w nn) (ho : TreeOk nn t) (hv : TIn Y v t.dat) (B : Below A₀ base outer h₀) (F : Fr h₀ L s.heap m) (X : (hd.heap_39 w.params).In h₀) (N : News h₀ L s.heap news)
    (Tp : Top hd.view_39 (looseW hd.view_39 [Str.ofString "RowsError"]) mean mg mb h₀) (hk : cs.kind = .function) (hc : Cut [] Y news ex)
    (hd : dp + (8 + 6 * nn) < recursionLimit) (hu : un + (60 + 40 * nn) < cLine)
    (ret : ∀ a vs k Y₂ h' tk', GrowT Y Y₂ → Fr h₀ L h' m → News h₀ L h' ((a, listOf (List.toArray vs) k) :: (ex ++ Y₂)) → TAll Y₂ vs (T.dats (thingsT t)) → vs.length = (thingsT t).length → Q (.ref a) { s with heap := h', toks := tk' }) :
    wpAny (model PySem.Challenge.rw_pq0689_01.row.prog w) (ktrTop dp un gd cn cs L fa ccd cl outer) (call (.ref 240) [v]) Q E s := by
  refine Con.use (ex := ex) (fun _ => C t v (ex ++ Y) ho (TIn.mono (fun p h _ => List.mem_append.mpr (.inr h)) hv)) ?_ hc (fun _ h => nomatch h) (fun _ h => nomatch h) B F X N Tp hk hd hu ?_
  · rintro M' X Z r hs ⟨a, vs, n, h1, h2, h3⟩
    exact ⟨a, vs, n, h1, h2, h3.mono hs⟩
  · rintro r M' Y₂ h' tk' g F' N' ⟨a, vs, n, rfl, rfl, h3⟩
    exact ret a vs n Y₂ h' tk' g F' N' h3 (by have := h3.length; rwa [dats_len] at this)
end
def cntB : Nat → Nat
  | 0 => 1
  | n + 1 => 1 + 3 * cntB n
theorem cntB_le {n : Nat} (h : n ≤ 3) : cntB n ≤ 40 := by
  match n, h with
  | 0, _ => decide
  | 1, _ => decide
  | 2, _ => decide
  | 3, _ => decide
theorem cntB_pos (n : Nat) : 1 ≤ cntB n := by
  cases n with
  | zero => exact Nat.le_refl _
  | succ n => simp only [cntB]; omega
theorem things_len_leaf {t : T} (h : LeafK t) : (thingsT t).length ≤ 1 := by
  cases h with
  | sym => exact Nat.le_refl _
  | int => exact Nat.zero_le _
  | text => exact Nat.zero_le _
  | ex h ps h1 => rw [things_leaf h1]; exact Nat.le_refl _
theorem thingsTs_len {B : Nat} : ∀ {ps : List T}, (∀ p ∈ ps, (thingsT p).length ≤ B) → (thingsTs ps).length ≤ ps.length * B
  | [], _ => Nat.zero_le _
  | p :: ps, h => by
    have h1 := h p (.head _)
    have h2 := thingsTs_len (ps := ps) fun q hq => h q (.tail _ hq)
    simp only [thingsTs, List.length_append, List.length_cons, Nat.add_mul, Nat.one_mul]
    omega
theorem things_len : ∀ (n : Nat) (t : T), TreeOk n t → (thingsT t).length ≤ cntB n
  | 0, t, h => h.elim (fun h => things_len_leaf (leaf_kind h)) fun h => h.elim
  | n + 1, t, h => by
    rcases h with h | ⟨c, ps, rfl, hc, h1, h3, hp⟩
    · exact Nat.le_trans (things_len_leaf (leaf_kind h)) (cntB_pos _)
    · have h2 := thingsTs_len (B := cntB n) fun p q => things_len n p (hp p q)
      have h4 : (if isSymT c then ([] : List T) else [c]).length ≤ 1 := by split <;> simp
      unfold thingsT
      rw [if_pos rfl]
      simp only [List.length_append, cntB]
      have : ps.length * cntB n ≤ 3 * cntB n := Nat.mul_le_mul_right _ h3
      omega
def ThingsJ (Y : List (Addr × Obj)) (ax : Addr) (vs : List Value) (k : Nat) (f0 ps : List T) (i : Nat) (m : Str → Option Value) (nw : List (Addr × Obj)) : Prop :=
  ∃ a us n, (∀ p ∈ Y, p ∈ nw) ∧ (ax, tupObj vs k) ∈ nw ∧ (a, listOf (List.toArray us) n) ∈ nw ∧ m (kS "found") = some (.ref a) ∧ TAll nw us (T.dats (f0 ++ thingsTs (ps.take i)))
section
variable {prog : Program} {w : World} {A : Around} {E : Value → Shared → Prop} {s : Shared} {env : Env} {h₀ : Heap} {x : Str} {body : List Stmt} {Q : Flow → Shared → Prop}
theorem things_loop {Y news : List (Addr × Obj)} {ax fa : Addr} {vs us : List Value} {k n : Nat} {f0 : List T} {ps : List T} {m₀ : Str → Option Value}
    (hA : A.handled = none) (F : Fr h₀ env.locals s.heap m₀) (N : News h₀ env.locals s.heap news) (hm : (ax, tupObj vs k) ∈ news) (hf : (fa, listOf (List.toArray us) n) ∈ news) (e1 : m₀ (kS "found") = some (.ref fa)) (hY : ∀ p ∈ Y, p ∈ news)
    (hT : TAll Y vs (T.dats ps)) (hU : TAll news us (T.dats f0)) (hl1 : f0.length ≤ 1) (hl2 : ps.length ≤ 3) (hl3 : ∀ p ∈ ps, (thingsT p).length ≤ 40)
    (turn : ∀ (I : Addr) (i : Nat) (v : Value) (it : Obj) (m : Str → Option Value) (nw : List (Addr × Obj)) (h : Heap) (tk : Nat) (a : Addr) (us : List Value) (n : Nat) (p : T), ps[i]? = some p → TIn nw v p.dat → TAll nw us (T.dats (f0 ++ thingsTs (ps.take i))) → it.cls = .type "tuple_iterator" → (∀ p ∈ nw, p.1 ≠ I) →
      (∀ p ∈ Y, p ∈ nw) → (ax, tupObj vs k) ∈ nw → (a, listOf (List.toArray us) n) ∈ nw → us.length ≤ 200 → Fr h₀ env.locals h (fun y => if y = x then some v else if y = kS "found" then some (.ref a) else m y) → News h₀ env.locals h ((I, it) :: nw) →
      wpAny (model prog w) A (execs body env) (UnrPost h₀ env.locals { s with heap := h, toks := tk } I it (ThingsJ Y ax vs k f0 ps (i + 1)) Q) E { s with heap := h, toks := tk })
    (fin : ∀ (m : Str → Option Value) (nw : List (Addr × Obj)) (h : Heap) (tk : Nat) (a : Addr) (us : List Value) (n : Nat), (∀ p ∈ Y, p ∈ nw) → (a, listOf (List.toArray us) n) ∈ nw → TAll nw us (T.dats (f0 ++ thingsTs ps)) → Fr h₀ env.locals h (fun y => if y = kS "found" then some (.ref a) else m y) →
      News h₀ env.locals h nw → Q .next { s with heap := h, toks := tk }) :
    wpAny (model prog w) A (pyIter (.ref ax)) (fun it s₂ => LoopAtV prog w A h₀ env x body Q E it s₂) E s := by
  have bound : ∀ i, (thingsTs (ps.take i)).length ≤ 120 := fun i => by
    have h1 := thingsTs_len (B := 40) (ps := ps.take i) fun p hp => hl3 p (List.mem_of_mem_take hp)
    have h2 : (ps.take i).length ≤ 3 := Nat.le_trans (List.length_take_le' i ps) hl2
    have h3 : (ps.take i).length * 40 ≤ 3 * 40 := Nat.mul_le_mul_right _ h2
    omega
  refine for_tup_inv (vs := vs) (nn := k) (ThingsJ Y ax vs k f0 ps) hA F N (fun i m nw ⟨a, us, n, h1, h2, _⟩ => h2) ⟨fa, us, n, hY, hm, hf, e1, by simpa [thingsTs] using hU⟩ ?_ ?_
  · rintro I i v it m nw h tk hv hit ⟨a, us, n, j1, j2, j3, j4, j5⟩ off F' N'
    obtain ⟨p, hp, hpv⟩ := TAll.get hT hv
    refine turn I i v it m nw h tk a us n p hp (TIn.mono (subT_of j1) hpv) j5 hit off j1 j2 j3 ?_ ?_ N'
    · have := j5.length
      rw [dats_len, List.length_append] at this
      have := bound i
      omega
    · have : (fun y => if y = x then some v else if y = kS "found" then some (Value.ref a) else m y) = fun y => if y = x then some v else m y := by
        funext y
        by_cases h1 : y = x
        · rw [if_pos h1, if_pos h1]
        · rw [if_neg h1, if_neg h1]
          by_cases h2 : y = kS "found"
          · rw [if_pos h2, h2, j4]
          · rw [if_neg h2]
      rw [this]; exact F'
  · rintro m nw h tk ⟨a, us, n, j1, j2, j3, j4, j5⟩ F' N'
    rw [take_full hT] at j5
    exact fin m nw h tk a us n j1 j3 j5 (fr_con j4 F') N'
theorem things_end {L I ax : Addr} {it : Obj} {vs us us' : List Value} {k i n : Nat} {f0 ps : List T} {p : T} {Y nw Y₂ messy : List (Addr × Obj)} {s₁ : Shared} {h' : Heap} {tk' : Nat} {m' : Str → Option Value} {D : Addr}
    (F : Fr h₀ L h' m') (N : News h₀ L h' messy) (hI : (I, it) ∈ messy) (hD : (D, listOf (List.toArray (us ++ us')) n) ∈ messy) (hY : ∀ p ∈ Y₂, p ∈ messy) (g : GrowT nw Y₂) (off : ∀ p ∈ nw, p.1 ≠ I) (hit : it.cls = .type "tuple_iterator") (nD : @Ne Nat D I)
    (j1 : ∀ p ∈ Y, p ∈ nw) (j2 : (ax, tupObj vs k) ∈ nw) (e : m' (kS "found") = some (.ref D)) (hp : ps[i]? = some p) (hU : TAll nw us (T.dats (f0 ++ thingsTs (ps.take i)))) (hV : TAll Y₂ us' (T.dats (thingsT p))) :
    UnrEnd h₀ L s₁ I it (ThingsJ Y ax vs k f0 ps (i + 1)) { s₁ with heap := h', toks := tk' } := by
  refine UnrEnd.intro F N ((D, listOf (List.toArray (us ++ us')) n) :: Y₂) ?_ ?_ ⟨D, us ++ us', n, fun p h => .tail _ (g.1 p (j1 p h)), .tail _ (g.1 _ j2), .head _, e, ?_⟩
  · intro p h
    rcases List.mem_cons.mp h with rfl | h
    · exact hI
    · rcases List.mem_cons.mp h with rfl | h
      · exact hD
      · exact hY p h
  · intro p h
    rcases List.mem_cons.mp h with rfl | h
    · exact nD
    · exact GrowT.off g off N hY hI (isTupB_not (by rw [hit]; decide)) p h
  · rw [take_snoc hp, thingsTs_append, ← List.append_assoc, dats_append]
    refine TAll.append (TAll.mono (fun p h _ => .tail _ (g.1 p h)) hU) (TAll.mono (fun p h _ => .tail _ h) ?_)
    simpa [thingsTs] using hV
end
end

section
-- Things
theorem reset_Things : True := by
  w_top off
  trivial
local macro_rules | `(tactic| lsm_bools) => `(tactic| first | exact List.Mem.head _ | assumption | (refine' List.Mem.tail _ ?_; lsm_bools) | (refine' GrowT.mem ?g ?h; (case g => assumption); (case h => lsm_bools)) | fail "no entry")
local macro_rules | `(tactic| k_mem) => `(tactic| first | lsm_bools | fail "no entry")
local macro_rules | `(tactic| tb_start) => `(tactic| first
  | exact List.forall_mem_nil _
  | (refine' List.forall_mem_cons.mpr ⟨?a, ?b⟩; (case a => lsm_bools); (case b => tb_start))
  | (intro p hp; repeat (first | exact hp | refine List.mem_cons_of_mem _ ?_ | refine List.Mem.tail _ ?_ | refine GrowT.mem' (by assumption) ?_ | refine GrowT.mem (by assumption) ?_ | fail "no entry"))
  | fail "not within")
local macro_rules | `(tactic| k_all) => `(tactic| first
  | assumption
  | (refine' GrowT.off ?g ?o ?N ?s ?m ?c; (case g => assumption); (case o => k_all); (case N => k_asm); (case s => tb_start); (case m => lsm_bools); (case c => rfl))
  | (refine' offLt ?h ?s; (case h => assumption); (case s => tb_start))
  | fail "not apart")
local macro_rules | `(tactic| k_lt $h:ident) => `(tactic| (have hl9 := $h; replace $h := allLt_of $h; simp only [AllLt, and_true] at $h:ident))
local macro_rules | `(tactic| kqd_sub) => `(tactic| first
  | (refine' Cut.own ?m ?r; (case m => lsm_bools); (case r => kqd_sub))
  | (refine' Cut.oth ?o ?r; (case o => k_all); (case r => kqd_sub))
  | exact Cut.tail
  | fail "no cut")
local macro_rules | `(tactic| ktr_rel) => `(tactic| first
  | exact subT_nil
  | exact subT_of (fun _ hp => hp)
  | assumption
  | (refine' subT_skip ?a ?b; (case a => rfl); (case b => ktr_rel))
  | (refine' subT_cons ?a ?b; (case a => lsm_bools); (case b => ktr_rel))
  | (refine' subT_of ?h; (case h => tb_start))
  | (refine' subT_app ?a ?b; (case a => ktr_rel); (case b => ktr_rel))
  | fail "tuples not within")
local macro_rules | `(tactic| k_room) => `(tactic| ktr_room)
local macro_rules | `(tactic| k_units) => `(tactic| ktr_units)
local macro_rules | `(tactic| tb_rel) => `(tactic| first
  | exact TAll.nil
  | exact TIn.str _ _
  | exact TIn.int _ _
  | exact TIn.bytes _ _
  | assumption
  | (refine' TIn.mono ?s ?h; (case h => assumption); (case s => ktr_rel))
  | (refine' TAll.mono ?s ?h; (case h => assumption); (case s => ktr_rel))
  | (refine' TIn.tuple ?m ?r; (case m => lsm_bools); (case r => tb_rel))
  | (refine' TAll.cons ?h ?t; (case h => tb_rel); (case t => tb_rel))
  | fail "no tree")
local macro_rules | `(tactic| walk_at "compareOp In str ref") => `(tactic| (k_here; k_dflt (refine' in_tupL ?ht ?hi ?_; (case ht => (refine' tupK ?X ?l; (case X => k_in); (case l => k_is))); (case hi => exact rfl))))
local macro_rules | `(tactic| walk_at "compareOp Eq ref ref") => `(tactic| (k_here; k_dflt (first
  | (refine' eq_dat (r := false) ?H ?d1 ?d2 ?hc ?hd ?hu ?_; (case H => exact heldOf (by k_asm)); (case d1 => tb_rel); (case d2 => tb_rel); (case hc => with_unfolding_all rfl); (case hd => exact Nat.le_of_ble_eq_true rfl); (case hu => ktr_units))
  | (refine' eq_dat (r := true) ?H ?d1 ?d2 ?hc ?hd ?hu ?_; (case H => exact heldOf (by k_asm)); (case d1 => tb_rel); (case d2 => tb_rel); (case hc => with_unfolding_all rfl); (case hd => exact Nat.le_of_ble_eq_true rfl); (case hu => ktr_units)))))
local macro_rules | `(tactic| walk_at "compareOp NotEq ref ref") => `(tactic| (k_here; k_dflt (first
  | (refine' ne_dat (r := false) ?H ?d1 ?d2 ?hc ?hd ?hu ?_; (case H => exact heldOf (by k_asm)); (case d1 => tb_rel); (case d2 => tb_rel); (case hc => with_unfolding_all rfl); (case hd => exact Nat.le_of_ble_eq_true rfl); (case hu => ktr_units))
  | (refine' ne_dat (r := true) ?H ?d1 ?d2 ?hc ?hd ?hu ?_; (case H => exact heldOf (by k_asm)); (case d1 => tb_rel); (case d2 => tb_rel); (case hc => with_unfolding_all rfl); (case hd => exact Nat.le_of_ble_eq_true rfl); (case hu => ktr_units)))))
local macro_rules | `(tactic| walk_at "subscriptTail Name Constant ref int") => `(tactic| (k_here; k_dflt (refine' item_tupleT ?t ?a ?b ?c ?d ?_; (case t => exact News.isTup (by k_asm) (by k_mem)); (case a => decide); (case b => decide); (case c => rfl); (case d => rfl); k_whole)))
local macro_rules | `(tactic| walk_at "ite") => `(tactic| (k_closed; k_dflt (first | (refine' ite_pos ?c ?_; (case c => decide)) | (refine' ite_neg ?c ?_; (case c => decide)))))
local macro_rules | `(tactic| walk_at "call type:range cons nil") => `(tactic| (k_here; k_dflt (refine' range1_rows ?F ?N ?_; (case F => k_asm); (case N => k_asm); k_whole; intro h' tk' t1' u1' v1' hR' F' N' hst'; (try k_fold))))
local macro_rules | `(tactic| walk_at "pyIter ref") => `(tactic| (k_here; (with_reducible show wpAny _ _ (pyIter (Value.ref _)) (fun it s₂ => LoopAtV _ _ _ _ _ _ _ _ _ it s₂) _ _); refine' Hold.of ?_))
local macro_rules | `(tactic| walk_at "binaryOp Add ref ref") => `(tactic| (k_here; k_dflt (refine' add_cat ?F ?N ?a ?b ?z ?_; (case F => k_asm); (case N => k_asm); (case a => lsm_bools); (case b => lsm_bools); (case z => (simp only [sizeLine_eq, List.length_cons, List.length_nil]; omega)); k_whole; intro D' h' F' N' l1; (try k_lt l1); (try k_sweep))))
local macro_rules | `(tactic| walk_at "subscriptTail Name Slice ref ref") => `(tactic| (k_here; k_dflt (first
  | (refine' slice_whole ?F ?N ?t ?l ?z ?_ ?hs ?hg; (case F => k_asm); (case N => k_asm); (case t => lsm_bools); (case l => exact Nat.le_of_ble_eq_true rfl); (case z => exact Nat.le_of_ble_eq_true rfl); (case hs => with_unfolding_all rfl); (case hg => (intro _; with_unfolding_all rfl)); k_whole; intro h' F' N'; (try k_sweep))
  | (refine' slice_upto ?F ?N ?t ?l ?z ?_ ?hs ?hg; (case F => k_asm); (case N => k_asm); (case t => lsm_bools); (case l => exact Nat.le_of_ble_eq_true rfl); (case z => exact Nat.le_of_ble_eq_true rfl); (case hs => with_unfolding_all rfl); (case hg => (intro _; with_unfolding_all rfl)); k_whole; intro D' h' F' N' l1; (try k_lt l1); (try k_sweep)))))
local macro_rules | `(tactic| walk_at "subscriptTail Name Slice ref ref") => `(tactic| (k_here; k_dflt
  (refine' slice_from ?F ?N ?t ?o ?l ?z ?_ ?hs ?hg; (case F => k_asm); (case N => k_asm); (case t => lsm_bools); (case o => exact Nat.le_of_ble_eq_true rfl); (case l => (simp only [List.length_cons]; omega)); (case z => (simp only [sizeLine_eq, List.length_cons]; omega)); (case hs => with_unfolding_all rfl); (case hg => (intro _; with_unfolding_all rfl)); k_whole; intro D' h' F' N' l1; (try k_lt l1); (try k_sweep))))
local macro_rules | `(tactic| walk_at "subscriptTail Subscript Name Constant Slice ref ref") => `(tactic| (k_here; k_dflt
  (refine' slice_from ?F ?N ?t ?o ?l ?z ?_ ?hs ?hg; (case F => k_asm); (case N => k_asm); (case t => lsm_bools); (case o => exact Nat.le_of_ble_eq_true rfl); (case l => (simp only [List.length_cons]; omega)); (case z => (simp only [sizeLine_eq, List.length_cons]; omega)); (case hs => with_unfolding_all rfl); (case hg => (intro _; with_unfolding_all rfl)); k_whole; intro D' h' F' N' l1; (try k_lt l1); (try k_sweep))))
local macro_rules | `(tactic| walk_at "call type:tuple cons nil") => `(tactic| (k_here; k_dflt (refine' tuple_of ?F ?N ?t ?z ?_; (case F => k_asm); (case N => k_asm); (case t => lsm_bools); (case z => first | exact Nat.le_of_ble_eq_true rfl | (simp only [sizeLine_eq, List.length_append, List.length_cons, List.length_nil]; omega)); k_whole; intro D' h' F' N' l1; (try k_lt l1); (try k_sweep))))
local macro_rules | `(tactic| walk_at "subscriptTail Name Constant ref int") => `(tactic| (k_here; k_dflt (refine' item_tupI ?N ?m ?a ?b ?c ?_; (case N => k_asm); (case m => lsm_bools); (case a => decide); (case b => decide); (case c => exact rfl); k_whole)))
local macro_rules | `(tactic| walk_at "subscriptTail Subscript Name Constant Constant ref int") => `(tactic| (k_here; k_dflt (refine' item_tupI ?N ?m ?a ?b ?c ?_; (case N => k_asm); (case m => lsm_bools); (case a => decide); (case b => decide); (case c => exact rfl); k_whole)))
local macro_rules | `(tactic| walk_at "subscriptTail Subscript Subscript Constant Constant ref int") => `(tactic| (k_here; k_dflt (refine' item_tupI ?N ?m ?a ?b ?c ?_; (case N => k_asm); (case m => lsm_bools); (case a => decide); (case b => decide); (case c => exact rfl); k_whole)))
local macro_rules | `(tactic| walk_at "subscriptTail Call Name cons nil Constant ref int") => `(tactic| (k_here; k_dflt (refine' item_tupI ?N ?m ?a ?b ?c ?_; (case N => k_asm); (case m => lsm_bools); (case a => decide); (case b => decide); (case c => exact rfl); k_whole)))
local macro_rules | `(tactic| walk_at "binaryOp Add ref ref") => `(tactic| (k_here; k_dflt (refine' add_tupC ?F ?N ?a ?b ?l1 ?l2 ?z ?_; (case F => k_asm); (case N => k_asm); (case a => lsm_bools); (case b => lsm_bools); (case l1 => (simp only [List.length_cons, List.length_nil]; omega)); (case l2 => omega); (case z => (simp only [sizeLine_eq, List.length_cons, List.length_nil]; omega)); k_whole; intro D' h' F' N' l1; (try k_lt l1); (try k_sweep))))
local macro_rules | `(tactic| walk_at "call type:tuple cons nil") => `(tactic| (k_here; k_dflt (refine' tuple_same ?N ?t ?_; (case N => k_asm); (case t => lsm_bools); k_whole)))
local macro_rules | `(tactic| walk_at "call builtin:len cons nil") => `(tactic| (k_here; k_dflt (refine' len_tupK ?N ?t ?z ?_; (case N => k_asm); (case t => lsm_bools); (case z => (simp only [sizeLine_eq, List.length_cons, List.length_nil]; omega)); k_whole; intro tk1' tk2')))
local macro_rules | `(tactic| walk_at "eval ListComp") => `(tactic| (k_here; refine' Hold.of ?_))
local macro_rules | `(tactic| walk_at "compareOp NotEq ref ref") => `(tactic| (k_here; k_dflt (refine' ne_dat (r := false) ?H ?d1 ?d2 ?hc ?hd ?hu ?_; (case H => exact heldOf (by k_asm)); (case d1 => tb_rel); (case d2 => tb_rel); (case hc => exact cmp_head (by assumption) _); (case hd => exact Nat.le_of_ble_eq_true rfl); (case hu => ktr_units))))
local macro_rules | `(tactic| walk_at "call ref") => `(tactic| (k_here; (with_reducible show wpAny _ _ (call (Value.ref 233) [_] _) _ _ _); k_dflt (refine' plain_use ?C ?ho ?hv ?B ?F ?X ?N ?T ?hk ?hc ?hd ?hu ?_; (case C => assumption); (case ho => assumption); (case hv => assumption); (case B => k_asm); (case F => k_asm); (case X => k_asm); (case N => k_asm); (case T => k_asm); (case hk => first | rfl | assumption); (case hc => kqd_sub); (case hd => ktr_room); (case hu => ktr_units); k_whole; intro r' Y' h' tk' g' F' N' hr'; (try simp only [List.cons_append, List.nil_append] at N'); (try k_fold))))
local macro_rules | `(tactic| walk_at "call ref") => `(tactic| (k_here; (with_reducible show wpAny _ _ (call (Value.ref 240) [_] _) _ _ _); k_dflt (refine' things_use ?C ?ho ?hv ?B ?F ?X ?N ?T ?hk ?hc ?hd ?hu ?_; (case C => assumption); (case ho => assumption); (case hv => assumption); (case B => k_asm); (case F => k_asm); (case X => k_asm); (case N => k_asm); (case T => k_asm); (case hk => first | rfl | assumption); (case hc => kqd_sub); (case hd => ktr_room); (case hu => ktr_units); k_whole; intro a' vs' k' Y' h' tk' g' F' N' hr' hrl'; (try simp only [List.cons_append, List.nil_append] at N'); (try k_fold))))
local macro_rules | `(tactic| walk_at "exec For Name Subscript") => `(tactic| (k_here; (rename Fr _ _ _ _ => lF'); (with_unfolding_all refine' For_invVF lF' ?k1 ?k2 ?_; (case k1 => exact rfl); (case k2 => exact rfl); k_whole)))
local macro_rules | `(tactic| walk_at "compareOp Eq ref ref") => `(tactic| (k_here; k_dflt (refine' eq_dat (r := false) ?H ?d1 ?d2 ?hc ?hd ?hu ?_; (case H => exact heldOf (by k_asm)); (case d1 => tb_rel); (case d2 => tb_rel); (case hc => exact cmp_head (by assumption) _); (case hd => exact Nat.le_of_ble_eq_true rfl); (case hu => ktr_units))))
local macro_rules | `(tactic| walk_at "compareOp Eq str str") => `(tactic| (k_here; k_dflt (refine' eq_str_no ?h ?_; (case h => assumption); k_whole)))
local macro_rules | `(tactic| walk_at "eval IfExp") => `(tactic| (k_here; refine' Hold.of ?_))
set_option maxHeartbeats 8000000 in
theorem things_leafC (w : World) (nn : Nat) (t : T) (v : Value) (Y : List (Addr × Obj)) (ht : LeafOk t) (hv : TIn Y v t.dat) :
    Con w 240 [v] (8 + 6 * nn) (60 + 40 * nn) [] Y (fun M' Y₁ r => LIn M' Y₁ r (thingsT t)) := by
  refine Con.intro ?_
  intro dp un gd cn cs fa ccd cl outer A₀ base h₀ L m s mean mg mb Q E B F X N Tp hk hd hu fin
  simp only [List.nil_append] at N
  refine wpAny_call ?_
  cases leaf_kind ht with
  | sym x hx =>
    obtain ⟨a, n, t1, t2, rfl, hm⟩ := sym_inv hv
    w_strict (
      k_dflt ktr_enter
      k_steps)
    refine' fin [(_, listOf (List.toArray [_]) _)] _ _ _ _ (by k_asm) (by k_asm) ?M ?Y (fun Y₁ hs => ⟨_, _, _, rfl, rfl, .cons (TIn.mono hs (TIn.mono (subT_of ?Y2) hv)) .nil⟩)
    case M => tb_start
    case Y => tb_start
    case Y2 => tb_start
  | int x =>
    obtain ⟨a, n, t1, t2, rfl, hm⟩ := int_inv hv
    w_strict (
      k_dflt ktr_enter
      k_steps)
    refine' fin [(_, listOf (List.toArray []) _)] _ _ _ _ (by k_asm) (by k_asm) ?M ?Y (fun Y₁ hs => ⟨_, _, _, rfl, rfl, .nil⟩)
    case M => tb_start
    case Y => tb_start
  | text x =>
    obtain ⟨a, n, t1, t2, rfl, hm⟩ := text_inv hv
    w_strict (
      k_dflt ktr_enter
      k_steps)
    refine' fin [(_, listOf (List.toArray []) _)] _ _ _ _ (by k_asm) (by k_asm) ?M ?Y (fun Y₁ hs => ⟨_, _, _, rfl, rfl, .nil⟩)
    case M => tb_start
    case Y => tb_start
  | ex h ps h1 h2 h3 hok hdp =>
    obtain ⟨a, n, t1, t2, b, vs, k, rfl, hm, hm2, hT⟩ := ex_inv hv
    w_strict (
      k_dflt ktr_enter
      k_steps)
    simp only [things_leaf h1] at fin
    refine' fin [(_, listOf (List.toArray [_]) _)] _ _ _ _ (by k_asm) (by k_asm) ?M ?Y (fun Y₁ hs => ⟨_, _, _, rfl, rfl, .cons (TIn.mono hs (TIn.mono (subT_of ?Y2) hv)) .nil⟩)
    case M => tb_start
    case Y => tb_start
    case Y2 => tb_start
set_option maxHeartbeats 8000000 in
theorem things_con (w : World) : ∀ nn : Nat, nn ≤ 3 → ThingsC w nn := by
  intro nn
  induction nn with
  | zero => exact fun _ t v Y ho hv => ho.elim (fun h => things_leafC w 0 t v Y h hv) fun h => h.elim
  | succ nn ih =>
  intro hn t v Y ho hv
  rcases ho with ho | ⟨c, ps, rfl, hc, hlen1, hlen3, hps⟩
  · exact things_leafC w (nn + 1) t v Y ho hv
  have IH := ih (by omega)
  refine Con.intro ?_
  intro dp un gd cn cs fa ccd cl outer A₀ base h₀ L m s mean mg mb Q E B F X N Tp hk hd hu fin
  simp only [List.nil_append] at N
  refine wpAny_call ?_
  obtain ⟨a, n, t1, t2, b, vs, k, rfl, hm, hm2, hT⟩ := ex_inv hv
  cases hT with
  | @cons cv vs _ _ hcv hT =>
  have hvl : vs.length ≤ 3 := by
    have := hT.length
    rw [dats_len] at this
    omega
  w_strict (
    k_dflt ktr_enter
    k_steps)
  unfold Hold
  rename Fr _ _ _ _ => F1
  rename News _ _ _ _ => N1
  refine' joinV (Y := Y) F1 (fun v M' Y₄ => ∃ a vs n, v = .ref a ∧ M' = [(a, listOf (List.toArray vs) n)] ∧ TAll Y₄ vs (T.dats (if isSymT c then [] else [c]))) ?h1 ?h2
  case h1 =>
    refine IfExp_ ?_
    rcases hc with ⟨x, hx, rfl⟩ | rfl
    · obtain ⟨a2, n2, t3, t4, rfl, hm3⟩ := sym_inv hcv
      w_strict (k_steps)
      refine' joinV_end [(_, listOf (List.toArray []) _)] rfl ?F ?N ?M ?Y (fun Y₁ hs => ⟨_, _, _, rfl, rfl, .nil⟩)
      case F => k_asm
      case N => k_asm
      case M => tb_start
      case Y => tb_start
    · obtain ⟨a2, n2, t3, t4, b2, vs2, k2, rfl, hm3, hm4, hT2⟩ := ex_inv hcv
      w_strict (k_steps)
      refine' joinV_end [(_, listOf (List.toArray [_]) _)] rfl ?F ?N ?M ?Y (fun Y₁ hs => ⟨_, _, _, rfl, rfl, .cons (TIn.mono hs (TIn.mono (subT_of ?Y2) hcv)) .nil⟩)
      case F => k_asm
      case N => k_asm
      case M => tb_start
      case Y => tb_start
      case Y2 => tb_start
  case h2 =>
    clear F1 N1
    rintro v M' Y₄ h' tk' g4 F' N' ⟨fa9, us, k9, rfl, rfl, hU⟩
    simp only [List.cons_append, List.nil_append] at N'
    have hm4 := g4.1 _ hm
    have hm5 := g4.1 _ hm2
    w_strict (
      k_steps)
    unfold Hold
    have hps4 : ∀ p ∈ ps, (thingsT p).length ≤ 40 := fun p hp => Nat.le_trans (things_len nn p (hps p hp)) (cntB_le (by omega))
    refine' things_loop (Y := Y) (vs := vs) (f0 := if isSymT c then [] else [c]) (ps := ps) ?hA ?F ?N ?hm ?hf ?e1 ?hY hT ?hU ?hl1 hlen3 hps4 ?turn ?fin
    case hA => rfl
    case F => k_asm
    case N => k_asm
    case hm => lsm_bools
    case hf => lsm_bools
    case e1 => rfl
    case hY => exact fun p hp => (show ∀ p ∈ Y₄, p ∈ _ by tb_start) p (g4.1 p hp)
    case hU => exact TAll.mono (subT_of (by tb_start)) hU
    case hl1 => split <;> simp
    case turn =>
      intro I i v it m nw h tk a us n p hp hpv hU hit off hYn hxn han hul F' N'
      have hpo : TreeOk nn p := hps p (List.mem_of_getElem? hp)
      have hpl : (thingsT p).length ≤ 40 := hps4 p (List.mem_of_getElem? hp)
      k_sweep
      w_strict (
        k_steps)
      refine' things_end ?F ?N ?I ?D ?hY ?g off hit ?nD hYn hxn ?e hp hU ?hV
      case g => assumption
      case F => k_asm
      case N => k_asm
      case I => lsm_bools
      case hV => assumption
      case D => lsm_bools
      case hY => tb_start
      case nD => k_ne
      case e => rfl
    case fin =>
      intro m nw h tk a us n hYn han hU F' N'
      k_sweep
      w_strict (k_steps)
      refine' fin [(a, listOf (List.toArray us) n)] _ _ _ _ (by k_asm) (by k_asm) ?M hYn (fun Y₁ hs => ⟨_, _, _, rfl, rfl, TAll.mono hs ?r⟩)
      case M => tb_start
      case r =>
        unfold thingsT
        rw [if_pos rfl]
        exact hU
end

section
-- Hash
mutual
def hashD (w : World) : Dat → Int
  | .int i => hashInt i
  | .str x => hashStr w x
  | .bytes b => hashW w.params (.bytes b.toList)
  | .tuple ds => reduceHash (Builtin.Tuple.tupleHashOf (hashDs w ds))
  | .none => 0
  | .bool _ => 0
  | .list _ => 0
def hashDs (w : World) : List Dat → List Int
  | [] => []
  | d :: ds => hashD w d :: hashDs w ds
end
mutual
def drawD : Dat → Nat
  | .tuple ds => drawDs ds + 1
  | .int _ => 1
  | .str _ => 1
  | .bytes _ => 1
  | .none => 0
  | .bool _ => 0
  | .list _ => 0
def drawDs : List Dat → Nat
  | [] => 0
  | d :: ds => drawD d + drawDs ds
end
theorem hashDs_append (w : World) (xs ys : List Dat) : hashDs w (xs ++ ys) = hashDs w xs ++ hashDs w ys := by
  induction xs with
  | nil => rfl
  | cons x xs ih => simp only [List.cons_append, hashDs, ih]
theorem drawDs_append (xs ys : List Dat) : drawDs (xs ++ ys) = drawDs xs + drawDs ys := by
  induction xs with
  | nil => simp [drawDs]
  | cons x xs ih => simp only [List.cons_append, drawDs, ih, Nat.add_assoc]
section
variable {prog : Program} {w : World}
theorem pyHash_dat {h : Heap} {news : List (Addr × Obj)} (H : Held h news) : ∀ (k : Nat) (d : Dat), depD d ≤ k → ∀ (A : Around) (E : Value → Shared → Prop) (Q : Int → Shared → Prop) (s : Shared) (v : Value), s.heap = h → TIn news v d → A.units + k < cLine →
    Q (hashD w d) { s with toks := s.toks + drawD d } → wpAny (model prog w) A (pyHash v) Q E s := by
  intro k
  induction k with
  | zero =>
    intro d hd A E Q s v hs D hu hQ
    cases D with
    | int i t => exact (intKind prog w).pyHash (k := i) (by simp [intKind, Value.isInt]) hQ
    | str x t => exact wpAny_pyHash_str hQ
    | bytes b t => exact (bytesKind prog w).pyHash (k := b.toList) (by simp [bytesKind, isBytes]) hQ
    | tuple m r => simp [depD] at hd
  | succ k ih =>
    intro d hd A E Q s v hs D hu hQ
    cases D with
    | int i t => exact (intKind prog w).pyHash (k := i) (by simp [intKind, Value.isInt]) hQ
    | str x t => exact wpAny_pyHash_str hQ
    | bytes b t => exact (bytesKind prog w).pyHash (k := b.toList) (by simp [bytesKind, isBytes]) hQ
    | @tuple a vs n ds m r =>
      have ho : s.heap.get? a = some (tupObj vs n) := hs ▸ H _ m
      have hT : s.TypeIs (.ref a) "tuple" := ⟨_, ho, rfl⟩
      unfold pyHash
      first | unfold pyHashByItsType | skip
      first | refine wpAny_bind (wpAny_cRoomFor_or (.inr (by omega)) ?_) | skip
      refine wpAny_bind (wpAny_specialOf hT F.slot_tuple_hash.lookup ?_)
      show wpAny _ _ (if (some (Value.builtin "tuple.__hash__") == some Value.none) = true then _ else _) Q E s
      rw [if_neg (by rw [beq_builtin_none]; exact Bool.false_ne_true)]
      refine wpAny_bind (wpAny_specialOf hT F.slot_tuple_hash.lookup ?_)
      show wpAny _ _ (callSpecialIfBoundUnlessNone? (.ref a) "__hash__" _ >>= _) Q E s
      refine wpAny_bind (wpAny_callSpecialIfBoundUnlessNone?_slot hT F.slot_tuple_hash (wpAny_call_entry F.slot_tuple_hash hT F.entry_tuple_hash ?_ (F.args_tuple_hash_1 _)))
      show wpAny _ _ (Builtin.Tuple.tupleItemsOf (.ref a) >>= _) _ _ s
      refine wpAny_bind (wpAny_tupleItemsOf ho rfl ?_)
      refine wpAny_bind ?_
      rw [← Array.forIn_toList]
      refine wpAny_forIn_list _
        (fun rest (b : Array Int) s' => ∃ done left, ds = done ++ left ∧ TAll news rest left ∧ b.toList = hashDs w done ∧ s' = { s with toks := s.toks + drawDs done })
        _ ?_ ?_ _ _ ⟨[], ds, rfl, r, rfl, rfl⟩
      · rintro x rest b s' ⟨done, left, rfl, hl, hb, rfl⟩
        cases hl with
        | @cons _ _ d1 ds1 h1 hl' =>
          have hdep : depD d1 ≤ k := by
            have := depDs_mem (ds := done ++ d1 :: ds1) (d := d1) (by simp)
            simp only [depD] at hd
            omega
          refine wpAny_bind (ih d1 hdep A.in1 _ _ _ _ hs h1 (by simp only [Around.in1_units]; omega) ?_)
          first
            | exact wpAny_pure ⟨done ++ [d1], ds1, by simp, hl', by simp [hb, hashDs_append, hashDs], by simp [drawDs_append, drawDs, Nat.add_assoc]⟩
            | exact wpAny_bind (wpAny_pure (wpAny_pure ⟨done ++ [d1], ds1, by simp, hl', by simp [hb, hashDs_append, hashDs], by simp [drawDs_append, drawDs, Nat.add_assoc]⟩))
      · rintro b s' ⟨done, left, rfl, hl, hb, rfl⟩
        cases hl
        rw [List.append_nil] at hQ
        show wpAny _ _ (retInt (Builtin.Tuple.tupleHashOf b.toList)) _ _ _
        rw [hb]
        refine wpAny_ret_mkInt ?_
        show wpAny _ _ (if (decide (-(2 : Int) ^ 63 ≤ Builtin.Tuple.tupleHashOf (hashDs w done)) && decide (Builtin.Tuple.tupleHashOf (hashDs w done) < 2 ^ 63)) = true then _ else _) Q E _
        unfold hashD reduceHash at hQ
        by_cases hr : (decide (-(2 : Int) ^ 63 ≤ Builtin.Tuple.tupleHashOf (hashDs w done)) && decide (Builtin.Tuple.tupleHashOf (hashDs w done) < 2 ^ 63)) = true
        · rw [if_pos hr]
          rw [if_pos hr] at hQ
          exact wpAny_pure (by simpa [drawD, Nat.add_assoc] using hQ)
        · rw [if_neg hr]
          rw [if_neg hr] at hQ
          exact wpAny_bind (wpAny_rule (wpAny_pure (by simpa [drawD, Nat.add_assoc] using hQ)))
end
end

section
-- Kind
open Classical in
mutual
theorem cmpT : ∀ x y : T, cmpD x.dat y.dat = some (decide (x = y))
  | .sym x, .sym y => by
    simp only [T.dat, cmpD, cmpDs, beq_self_eq_true, T.sym.injEq]
    by_cases h : x = y
    · subst h; simp
    · have : (x == y) = false := beq_eq_false_iff_ne.mpr h
      simp [this, h]
  | .int x, .int y => by
    simp only [T.dat, cmpD, cmpDs, beq_self_eq_true, T.int.injEq]
    by_cases h : x = y
    · subst h; simp
    · have : (x == y) = false := beq_eq_false_iff_ne.mpr h
      simp [this, h]
  | .text x, .text y => by
    simp only [T.dat, cmpD, cmpDs, beq_self_eq_true, T.text.injEq]
    by_cases h : x = y
    · subst h; simp
    · have : ¬ x.toList = y.toList := fun e => h (Array.toList_inj.mp e)
      simp [this, h]
  | .ex h xs, .ex k ys => by
    have e := cmpTs xs ys
    simp only [T.dat, cmpD, cmpDs, beq_self_eq_true, T.ex.injEq, e]
    by_cases hk : h = k
    · subst hk
      by_cases hx : xs = ys
      · subst hx; simp
      · simp [hx]
    · have : (h == k) = false := beq_eq_false_iff_ne.mpr hk
      simp [this, hk]
  | .sym _, .int _ => by simp [T.dat, cmpD, cmpDs, show (Str.ofString "sym" == Str.ofString "int") = false from by decide]
  | .sym _, .text _ => by simp [T.dat, cmpD, cmpDs, show (Str.ofString "sym" == Str.ofString "text") = false from by decide]
  | .sym _, .ex _ _ => by simp [T.dat, cmpD, cmpDs, show (Str.ofString "sym" == Str.ofString "expr") = false from by decide]
  | .int _, .sym _ => by simp [T.dat, cmpD, cmpDs, show (Str.ofString "int" == Str.ofString "sym") = false from by decide]
  | .int _, .text _ => by simp [T.dat, cmpD, cmpDs, show (Str.ofString "int" == Str.ofString "text") = false from by decide]
  | .int _, .ex _ _ => by simp [T.dat, cmpD, cmpDs, show (Str.ofString "int" == Str.ofString "expr") = false from by decide]
  | .text _, .sym _ => by simp [T.dat, cmpD, cmpDs, show (Str.ofString "text" == Str.ofString "sym") = false from by decide]
  | .text _, .int _ => by simp [T.dat, cmpD, cmpDs, show (Str.ofString "text" == Str.ofString "int") = false from by decide]
  | .text _, .ex _ _ => by simp [T.dat, cmpD, cmpDs, show (Str.ofString "text" == Str.ofString "expr") = false from by decide]
  | .ex _ _, .sym _ => by simp [T.dat, cmpD, cmpDs, show (Str.ofString "expr" == Str.ofString "sym") = false from by decide]
  | .ex _ _, .int _ => by simp [T.dat, cmpD, cmpDs, show (Str.ofString "expr" == Str.ofString "int") = false from by decide]
  | .ex _ _, .text _ => by simp [T.dat, cmpD, cmpDs, show (Str.ofString "expr" == Str.ofString "text") = false from by decide]
theorem cmpTs : ∀ xs ys : List T, cmpDs (T.dats xs) (T.dats ys) = some (decide (xs = ys))
  | [], [] => by simp [T.dats, cmpDs]
  | [], _ :: _ => by simp [T.dats, cmpDs]
  | _ :: _, [] => by simp [T.dats, cmpDs]
  | x :: xs, y :: ys => by
    have e1 := cmpT x y
    have e2 := cmpTs xs ys
    simp only [T.dats, cmpDs, e1, List.cons.injEq]
    by_cases h : x = y
    · subst h; simp [e2]
    · simp [h]
end
theorem dat_inj {x y : T} (e : x.dat = y.dat) : x = y := by
  classical
  have h1 := cmpT x y
  rw [e] at h1
  exact of_decide_eq_true (cmpD_refl _ _ h1)
mutual
theorem depD_le : ∀ t : T, depD t.dat ≤ 2 * t.dep + 1
  | .sym _ => by simp [T.dat, depD, depDs, T.dep]
  | .int _ => by simp [T.dat, depD, depDs, T.dep]
  | .text _ => by simp [T.dat, depD, depDs, T.dep]
  | .ex _ ps => by
    have := depDs_le ps
    simp only [T.dat, depD, depDs, T.dep]
    omega
theorem depDs_le : ∀ ps : List T, depDs (T.dats ps) ≤ 2 * T.deps ps + 1
  | [] => by simp [T.dats, depDs]
  | p :: ps => by
    have := depD_le p
    have := depDs_le ps
    simp only [T.dats, depDs, T.deps]
    omega
end
section
variable {prog : Program} {w : World}
theorem quiet_dat {A : Around} {E : Value → Shared → Prop} {s : Shared} {news : List (Addr × Obj)} (H : Held s.heap news) : ∀ (k : Nat) (d : Dat), depD d ≤ k → ∀ (Q : Bool → Shared → Prop) (v : Value), TIn news v d → Q true s → wpAny (model prog w) A (eqIsQuiet k v) Q E s := by
  intro k
  induction k with
  | zero =>
    intro d hd Q v D hQ
    cases D with
    | int i t => rw [eqIsQuiet_byValue _ rfl]; exact wpAny_pure hQ
    | str x t => rw [eqIsQuiet_byValue _ rfl]; exact wpAny_pure hQ
    | bytes b t => rw [eqIsQuiet_byValue _ rfl]; exact wpAny_pure hQ
    | tuple m r => simp [depD] at hd
  | succ k ih =>
    intro d hd Q v D hQ
    cases D with
    | int i t => rw [eqIsQuiet_byValue _ rfl]; exact wpAny_pure hQ
    | str x t => rw [eqIsQuiet_byValue _ rfl]; exact wpAny_pure hQ
    | bytes b t => rw [eqIsQuiet_byValue _ rfl]; exact wpAny_pure hQ
    | @tuple a vs n ds m r =>
      have ho : s.heap.get? a = some (tupObj vs n) := H _ m
      have hT : s.TypeIs (.ref a) "tuple" := ⟨_, ho, rfl⟩
      unfold eqIsQuiet
      refine wpAny_bind (wpAny_specialOf hT F.slot_tuple_eq.lookup ?_)
      show wpAny _ _ (isInstance (.ref a) (.type "tuple") >>= _) _ _ s
      refine wpAny_bind (wpAny_isInstance hT isSubtype_tuple_tuple ?_)
      simp only [Bool.not_true, Bool.false_eq_true, if_false]
      refine wpAny_bind (wpAny_seqItems ho rfl ?_)
      refine wpAny_bind ?_
      show wpAny _ _ (forIn vs.toArray _ _) _ _ s
      rw [← Array.forIn_toList]
      refine wpAny_forIn_list _ (fun rest r s' => r.1 = none ∧ s' = s ∧ ∃ left, TAll news rest left ∧ depDs left ≤ k) _ ?_ ?_ _ _ ⟨rfl, rfl, ds, r, by simp only [depD] at hd; omega⟩
      · rintro v rest r s' ⟨hr, rfl, left, hl, hdl⟩
        cases hl with
        | @cons _ _ d1 ds1 h1 hl' =>
          simp only [depDs] at hdl
          refine wpAny_bind (ih d1 (by omega) _ _ h1 ?_)
          simp only [Bool.not_true, Bool.false_eq_true, if_false]
          exact wpAny_pure ⟨rfl, rfl, ds1, hl', by omega⟩
      · rintro ⟨r1, r2⟩ s' ⟨hr, rfl, _⟩
        simp only at hr
        subst hr
        exact wpAny_pure hQ
/-- a tree that lies in a heap -/
def TreeAt (h : Heap) (t : T) (a : Addr) : Prop := ∃ news, Held h news ∧ TIn news (.ref a) t.dat ∧ t.dep ≤ 3
theorem Held.append {h : Heap} {X Y : List (Addr × Obj)} (a : Held h X) (b : Held h Y) : Held h (X ++ Y) := fun p hp => (List.mem_append.mp hp).elim (a p) (b p)
theorem TreeAt.inj {h : Heap} {a : Addr} {x y : T} (hx : TreeAt h x a) (hy : TreeAt h y a) : x = y := by
  obtain ⟨X, h1, t1, _⟩ := hx
  obtain ⟨Y, h2, t2, _⟩ := hy
  exact dat_inj (datIn_uniq (h1.append h2) (TIn.mono (fun p h _ => List.mem_append.mpr (.inl h)) t1) (TIn.mono (fun p h _ => List.mem_append.mpr (.inr h)) t2))
theorem TreeAt.keeps {h h' : Heap} {t : T} {a d : Addr} {o : Obj} {es ep} (x : TreeAt h t a) (ho : h.get? d = some o) (hd : o.data = .dict es ep) (hs : Heap.SameBut d h h') : TreeAt h' t a := by
  obtain ⟨X, h1, t1, t2⟩ := x
  refine ⟨tf X, fun p hp => ?_, TIn.mono (fun p h c => tf_in h c) t1, t2⟩
  obtain ⟨q1, q2⟩ := tf_mem hp
  have hne : p.1 ≠ d := by
    intro e
    have z := h1 p q1
    rw [e, ho] at z
    rw [← Option.some.inj z] at q2
    unfold isTupB at q2
    rw [hd, Bool.and_false] at q2
    cases q2
  exact (hs.2 p.1 hne).trans (h1 p q1)
noncomputable abbrev tdec : DecidableEq T := fun a b => Classical.propDecidable (a = b)
noncomputable def treeKind (prog : Program) (w : World) : @HeapKind prog w T tdec :=
  @HeapKind.mk prog w T tdec TreeAt (fun t => hashD w t.dat) (fun t => drawD t.dat) (fun A => A.units + 20 < cLine)
    (fun hx hy => hx.inj hy)
    (fun x ho hd hs => x.keeps ho hd hs)
    (fun {A E s k a Q} hu ⟨X, h1, t1, t2⟩ h => pyHash_dat h1 7 k.dat (by have := depD_le k; omega) A E Q s (.ref a) rfl t1 (by omega) h)
    (fun {A E s x y a b Q} hu hx hy h => by
      obtain ⟨X, h1, t1, t2⟩ := hx
      obtain ⟨Y, h2, t3, t4⟩ := hy
      exact eqAt_dat (h1.append h2) 7 x.dat (by have := depD_le x; omega) A y.dat _ _ _ (TIn.mono (fun p h _ => List.mem_append.mpr (.inl h)) t1) (TIn.mono (fun p h _ => List.mem_append.mpr (.inr h)) t3) (cmpT x y) (by omega) prog w E Q h)
    (fun {A E s k a Q} ⟨X, h1, t1, t2⟩ h => quiet_dat h1 8 k.dat (by have := depD_le k; omega) Q (.ref a) t1 h)
end
end

section
-- TableDef
inductive All2 {α β : Type} (R : α → β → Prop) : List α → List β → Prop
  | nil : All2 R [] []
  | cons {a : α} {b : β} {xs : List α} {ys : List β} : R a b → All2 R xs ys → All2 R (a :: xs) (b :: ys)
abbrev rwProg : Program := PySem.Challenge.rw_pq0689_01.row.prog
noncomputable abbrev knd (w : World) : @HeapKind rwProg w T tdec := treeKind rwProg w
/-- an entry of a table of trees -/
structure EntryIn (Y : List (Addr × Obj)) (x : T × Addr × Value) (kv : T × T) : Prop where
  key : x.1 = kv.1
  keyIn : TIn Y (.ref x.2.1) kv.1.dat
  dep : kv.1.dep ≤ 3
  val : TIn Y x.2.2 kv.2.dat
noncomputable abbrev entK (w : World) (x : T × Addr × Value) : DictEntry := @entryOfKey rwProg w T tdec (knd w) x
/-- a table of trees of the ledger -/
def TabIn (w : World) (Y : List (Addr × Obj)) (d : Addr) (tb : List (T × T)) : Prop :=
  (d == sysModules) = false ∧ ∃ xs n, (d, dictOf (xs.map (entK w)) n) ∈ Y ∧ All2 (EntryIn Y) xs tb ∧ (tb.map (·.1)).Nodup
noncomputable def lookT (tb : List (T × T)) (t : T) : Option T := (tb.find? fun x => @decide (x.1 = t) (tdec x.1 t)).map (·.2)
mutual
noncomputable def putT (tb : List (T × T)) : T → T
  | .sym x => (lookT tb (.sym x)).getD (.sym x)
  | .int i => (lookT tb (.int i)).getD (.int i)
  | .text b => (lookT tb (.text b)).getD (.text b)
  | .ex h ps => (lookT tb (.ex h ps)).getD (.ex h (putTs tb ps))
noncomputable def putTs (tb : List (T × T)) : List T → List T
  | [] => []
  | t :: r => putT tb t :: putTs tb r
end
theorem putTs_append (tb : List (T × T)) (xs ys : List T) : putTs tb (xs ++ ys) = putTs tb xs ++ putTs tb ys := by
  induction xs with
  | nil => rfl
  | cons x xs ih => simp only [List.cons_append, putTs, ih]
theorem putTs_len (tb : List (T × T)) (xs : List T) : (putTs tb xs).length = xs.length := by
  induction xs with
  | nil => rfl
  | cons x xs ih => simp only [putTs, List.length_cons, ih]
theorem EntryIn.mono {X Y : List (Addr × Obj)} (hs : SubT X Y) {x : T × Addr × Value} {kv : T × T} (e : EntryIn X x kv) : EntryIn Y x kv := ⟨e.key, e.keyIn.mono hs, e.dep, e.val.mono hs⟩
theorem forall2_mono {α β : Type} {R S : α → β → Prop} (h : ∀ a b, R a b → S a b) : ∀ {xs : List α} {ys : List β}, All2 R xs ys → All2 S xs ys
  | _, _, .nil => .nil
  | _, _, .cons a b => .cons (h _ _ a) (forall2_mono h b)
theorem TabIn.mono {w : World} {X Y : List (Addr × Obj)} {d : Addr} {tb : List (T × T)} (hs : ∀ p ∈ X, p ∈ Y) (t : TabIn w X d tb) : TabIn w Y d tb := by
  obtain ⟨lo, xs, n, h1, h2, h3⟩ := t
  exact ⟨lo, xs, n, hs _ h1, forall2_mono (fun _ _ e => e.mono (subT_of hs)) h2, h3⟩
theorem keys_eq {Y : List (Addr × Obj)} : ∀ {xs : List (T × Addr × Value)} {tb : List (T × T)}, All2 (EntryIn Y) xs tb → xs.map (·.1) = tb.map (·.1)
  | _, _, .nil => rfl
  | _, _, .cons a b => by simp only [List.map_cons, a.key, keys_eq b]
theorem look_at {Y : List (Addr × Obj)} (t : T) : ∀ {xs : List (T × Addr × Value)} {tb : List (T × T)}, All2 (EntryIn Y) xs tb →
    (@atKey T tdec xs t).isSome = (lookT tb t).isSome ∧ ∀ p, @atKey T tdec xs t = some p → ∃ v, lookT tb t = some v ∧ TIn Y p.2 v.dat
  | _, _, .nil => ⟨rfl, fun p h => by simp [atKey] at h⟩
  | _, _, @All2.cons _ _ _ x kv xs tb a b => by
    have ih := look_at t b
    have ek := a.key
    by_cases h : kv.1 = t
    · have e1 : @atKey T tdec (x :: xs) t = some x.2 := by simp [atKey, ek, h]
      have e2 : lookT (kv :: tb) t = some kv.2 := by simp [lookT, h]
      rw [e1, e2]
      refine ⟨rfl, fun p hp => ⟨_, rfl, ?_⟩⟩
      rw [← Option.some.inj hp]
      exact a.val
    · have e1 : @atKey T tdec (x :: xs) t = @atKey T tdec xs t := by simp [atKey, ek, h]
      have e2 : lookT (kv :: tb) t = lookT tb t := by simp [lookT, h]
      rw [e1, e2]
      exact ih
theorem TabIn.dict {w : World} {h₀ h : Heap} {L d : Addr} {news : List (Addr × Obj)} {tb : List (T × T)} (N : News h₀ L h news) (t : TabIn w news d tb) :
    ∃ xs, @Heap.DictOfH rwProg w T tdec (knd w) h d xs ∧ All2 (EntryIn news) xs tb := by
  obtain ⟨_, xs, n, h1, h2, h3⟩ := t
  refine ⟨xs, ⟨_, _, _, (N _ h1).1, ⟨rfl, rfl, rfl⟩, rfl, by simp, ?_, ?_⟩, h2⟩
  · clear h1 h3
    induction h2 with
    | nil => exact fun x hx => nomatch hx
    | cons a b ih =>
      intro x hx
      rcases List.mem_cons.mp hx with rfl | hx
      · exact ⟨news, heldOf N, a.key ▸ a.keyIn, a.key ▸ a.dep⟩
      · exact ih x hx
  · rw [keys_eq h2]; exact h3
section
variable {w : World} {A : Around} {E : Value → Shared → Prop} {s : Shared} {h₀ : Heap} {L : Addr} {news : List (Addr × Obj)}
theorem in_tab {a d : Addr} {t : T} {tb : List (T × T)} {Q : Value → Shared → Prop} (N : News h₀ L s.heap news) (hv : TIn news (.ref a) t.dat) (ht : t.dep ≤ 3) (tab : TabIn w news d tb) (hu : A.units + 30 < cLine)
    (h : ∀ tk, Q (.bool (lookT tb t).isSome) { s with toks := tk }) : wpAny (model rwProg w) A (compareOp .In (.ref a) (.ref d)) Q E s := by
  classical
  obtain ⟨xs, hd, hf⟩ := tab.dict N
  refine wpAny_in_heap (knd := knd w) (k := t) (xs := xs) (by show A.in1.units + 20 < cLine; simp only [Around.in1_units]; omega) ⟨news, heldOf N, hv, ht⟩ tab.1 hd ?_
  rw [(look_at t hf).1]
  exact h _
theorem item_tab {value slice : Expr} {a d : Addr} {t v : T} {tb : List (T × T)} {Q : Value → Shared → Prop} (N : News h₀ L s.heap news) (hv : TIn news (.ref a) t.dat) (ht : t.dep ≤ 3) (tab : TabIn w news d tb) (hl : lookT tb t = some v) (hu : A.units + 30 < cLine)
    (h : ∀ tk r, TIn news r v.dat → Q r { s with toks := tk })
    (hs : subscripted slice false (.ref d) (.ref a) = operate [.ref d, .ref a] (getItem (.ref d) (.ref a))) (hg : ∀ r, letTemporaryGo value (.ref d) r = pure ()) :
    wpAny (model rwProg w) A (subscriptTail value slice (.ref d) (.ref a)) Q E s := by
  classical
  obtain ⟨xs, hd, hf⟩ := tab.dict N
  obtain ⟨e1, e2⟩ := look_at t hf
  rw [hl] at e1
  cases hk : @atKey T tdec xs t with
  | none => rw [hk] at e1; cases e1
  | some p =>
    obtain ⟨v', hv', hr⟩ := e2 p hk
    rw [hl] at hv'
    cases hv'
    refine subscriptTail_builtin hd.typeIs slot_dict_getitem.lookup (wpAny_getItem_heap (knd := knd w) (k := t) (xs := xs) (by show A.in1.units + 20 < cLine; simp only [Around.in1_units]; omega) ⟨news, heldOf N, hv, ht⟩ hd hk ?_) hs hg
    exact h _ _ hr
end
def PutC (w : World) (tb : List (T × T)) (t : T) : Prop := ∀ (v : Value) (d : Addr) (Y : List (Addr × Obj)), t.ok → t.dep ≤ 3 → TIn Y v t.dat → TabIn w Y d tb →
  Con w 245 [v, .ref d] (8 + 6 * t.dep) (80 + 40 * t.dep) [] Y (fun M' Y₁ r => M' = [] ∧ TIn Y₁ r (putT tb t).dat)
section
variable {w : World} {Y news ex : List (Addr × Obj)}
  {dp un : Nat} {gd : Option (List Code)} {cn : Str} {cs : Scope} {fa : Addr} {ccd : Value} {cl : List (Str × Addr)} {outer : List Env} {A₀ : Around} {base h₀ : Heap} {L : Addr} {m : Str → Option Value} {s : Shared}
  {mean : ExcName → Option Value} {mg mb : Str → Option Value} {Q E : Value → Shared → Prop}
theorem put_use {t : T} {v : Value} {d : Addr} {tb : List (T × T)} (C : PutC w tb t) (ho : t.ok) (hdep : t.dep ≤ 3) (hv : TIn Y v t.dat) (ht : TabIn w Y d tb) (B : Below A₀ base outer h₀) (F : Fr h₀ L s.heap m) (X : (hd.heap_39 w.params).In h₀) (N : News h₀ L s.heap news)
    (Tp : Top hd.view_39 (looseW hd.view_39 [Str.ofString "RowsError"]) mean mg mb h₀) (hk : cs.kind = .function) (hc : Cut [] Y news ex)
    (hd : dp + (8 + 6 * t.dep) < recursionLimit) (hu : un + (80 + 40 * t.dep) < cLine)
    (ret : ∀ r Y₂ h' tk', GrowT Y Y₂ → Fr h₀ L h' m → News h₀ L h' (ex ++ Y₂) → TIn Y₂ r (putT tb t).dat → Q r { s with heap := h', toks := tk' }) :
    wpAny (model PySem.Challenge.rw_pq0689_01.row.prog w) (ktrTop dp un gd cn cs L fa ccd cl outer) (call (.ref 245) [v, .ref d]) Q E s := by
  refine Con.use (ex := ex) (fun _ => C v d (ex ++ Y) ho hdep (TIn.mono (fun p h _ => List.mem_append.mpr (.inr h)) hv) (ht.mono fun p h => List.mem_append.mpr (.inr h))) ?_ hc (fun _ h => nomatch h) (fun _ h => nomatch h) B F X N Tp hk hd hu ?_
  · rintro M' X Z r hs ⟨h1, h2⟩
    exact ⟨h1, h2.mono hs⟩
  · rintro r M' Y₂ h' tk' g F' N' ⟨rfl, h2⟩
    exact ret r Y₂ h' tk' g F' N' h2
end
theorem put_step {tb : List (T × T)} {nw Y' : List (Addr × Obj)} {ys : List Value} {r : Value} {ps : List T} {i : Nat} {p : T} (g : GrowT nw Y') (hT : TAll nw ys (T.dats (putTs tb (ps.take i)))) (hp : ps[i]? = some p) (hr : TIn Y' r (putT tb p).dat) :
    TAll Y' (ys ++ [r]) (T.dats (putTs tb (ps.take (i + 1)))) := by
  rw [take_snoc hp, putTs_append]
  exact TAll.snoc (TAll.mono (subT_of g.1) hT) hr
theorem tree_ref {Y : List (Addr × Obj)} {v : Value} {t : T} (h : TIn Y v t.dat) : ∃ a, v = .ref a := by
  cases t with
  | sym x => obtain ⟨a, _, _, _, e, _⟩ := sym_inv h; exact ⟨a, e⟩
  | int x => obtain ⟨a, _, _, _, e, _⟩ := int_inv h; exact ⟨a, e⟩
  | text x => obtain ⟨a, _, _, _, e, _⟩ := text_inv h; exact ⟨a, e⟩
  | ex x ps => obtain ⟨a, _, _, _, _, _, _, e, _⟩ := ex_inv h; exact ⟨a, e⟩
theorem putT_some {tb : List (T × T)} {t v : T} (h : lookT tb t = some v) : putT tb t = v := by
  cases t <;> simp only [putT, h, Option.getD_some]
section
variable {w : World} {A : Around} {E : Value → Shared → Prop} {s : Shared} {h₀ : Heap} {L : Addr} {news : List (Addr × Obj)}
theorem in_tab_some {a d : Addr} {t v : T} {tb : List (T × T)} {Q : Value → Shared → Prop} (hl : lookT tb t = some v) (N : News h₀ L s.heap news) (hv : TIn news (.ref a) t.dat) (ht : t.dep ≤ 3) (tab : TabIn w news d tb) (hu : A.units + 30 < cLine)
    (h : ∀ tk, Q (.bool true) { s with toks := tk }) : wpAny (model rwProg w) A (compareOp .In (.ref a) (.ref d)) Q E s := by
  refine in_tab N hv ht tab hu fun tk => ?_
  rw [hl]; exact h tk
theorem in_tab_none {a d : Addr} {t : T} {tb : List (T × T)} {Q : Value → Shared → Prop} (hl : lookT tb t = none) (N : News h₀ L s.heap news) (hv : TIn news (.ref a) t.dat) (ht : t.dep ≤ 3) (tab : TabIn w news d tb) (hu : A.units + 30 < cLine)
    (h : ∀ tk, Q (.bool false) { s with toks := tk }) : wpAny (model rwProg w) A (compareOp .In (.ref a) (.ref d)) Q E s := by
  refine in_tab N hv ht tab hu fun tk => ?_
  rw [hl]; exact h tk
end
section
open LCg
variable {prog : Program} {w : World} {A : Around} {E : Value → Shared → Prop} {h₀ : Heap} {L : Addr} {m : Str → Option Value} {env : Env}
/-- a comprehension that maps trees -/
theorem csrc_map {elt : Expr} {x : Str} {scope : Scope} {cl : List (Str × Addr)} {Q : Value → Shared → Prop} {ax : Addr} {vs : List Value} {k : Nat} {news : List (Addr × Obj)} {s₁ : Shared} {ps : List T} (g : List T → List T)
    (F : Fr h₀ L s₁.heap m) (N : News h₀ L s₁.heap news) (hm : (ax, tupObj vs k) ∈ news) (hz : vs.length ≤ sizeLine) (hT : TAll news vs (T.dats ps)) (g0 : g [] = [])
    (turn : ∀ (i : Nat) (ys : List Value) (nw : List (Addr × Obj)) (v : Value) (p : T) (I : Addr) (oI : Obj) (C : Addr) (oC : Obj) (D : Addr) (m₂ : Str → Option Value) (h : Heap) (tk : Nat), ps[i]? = some p → (∀ q ∈ news, q ∈ nw) → TIn nw v p.dat → TAll nw ys (T.dats (g (ps.take i))) → SrcK ax vs k nw →
      isTupB oI = false → NsObj oC m₂ → m₂ x = some v → Fr h₀ L h m → News h₀ L h ((I, oI) :: (C, oC) :: (D, lst ys) :: nw) → Off3 I C D nw → ((@Ne Nat I C) ∧ (@Ne Nat I D) ∧ (@Ne Nat C D)) →
      wpAny (model prog w) A (eval elt (compEnvC scope cl C env)) (CompEnd h₀ L m { s₁ with heap := h, toks := tk } I oI C oC D (lst ys) (SrcK ax vs k) (fun y nw' => (∀ q ∈ news, q ∈ nw') ∧ TAll nw' (ys ++ [y]) (T.dats (g (ps.take (i + 1)))))) (CErr prog w A E Q scope cl env C D) { s₁ with heap := h, toks := tk })
    (fin : ∀ (ys : List Value) (nw : List (Addr × Obj)) (D : Addr) (h : Heap) (tk : Nat), (∀ q ∈ news, q ∈ nw) → TAll nw ys (T.dats (g ps)) → Fr h₀ L h m → News h₀ L h ((D, lst ys) :: nw) → Off1 D nw → Q (.ref D) { s₁ with heap := h, toks := tk }) :
    CSrcT prog w A h₀ L m env elt x scope cl E Q (.ref ax) s₁ := by
  refine csrc (fun i ys nw => (∀ q ∈ news, q ∈ nw) ∧ TAll nw ys (T.dats (g (ps.take i)))) F N hm hz ⟨fun _ h => h, by rw [List.take_zero, g0]; exact .nil⟩ ?_ ?_
  · rintro i ys nw v I oI C oC D m₂ h tk ⟨j1, j2⟩ hS hv hoI hoC hx F' N' off ne
    obtain ⟨p, hp, hpv⟩ := TAll.get hT hv
    exact turn i ys nw v p I oI C oC D m₂ h tk hp j1 (TIn.mono (subT_of j1) hpv) j2 hS hoI hoC hx F' N' off ne
  · rintro ys nw D h tk ⟨j1, j2⟩ F' N' o1
    rw [take_full hT] at j2
    exact fin ys nw D h tk j1 j2 F' N' o1
end
end

section
-- PutBack
theorem reset_PutBack : True := by
  w_top off
  trivial
local macro_rules | `(tactic| lsm_bools) => `(tactic| first | exact List.Mem.head _ | assumption | (refine' List.Mem.tail _ ?_; lsm_bools) | (refine' GrowT.mem ?g ?h; (case g => assumption); (case h => lsm_bools)) | fail "no entry")
local macro_rules | `(tactic| k_mem) => `(tactic| first | lsm_bools | fail "no entry")
local macro_rules | `(tactic| tb_start) => `(tactic| first
  | exact List.forall_mem_nil _
  | (refine' List.forall_mem_cons.mpr ⟨?a, ?b⟩; (case a => lsm_bools); (case b => tb_start))
  | (intro p hp; repeat (first | exact hp | refine List.mem_cons_of_mem _ ?_ | refine List.Mem.tail _ ?_ | refine GrowT.mem' (by assumption) ?_ | refine GrowT.mem (by assumption) ?_ | fail "no entry"))
  | fail "not within")
local macro_rules | `(tactic| k_all) => `(tactic| first
  | assumption
  | (refine' GrowT.off ?g ?o ?N ?s ?m ?c; (case g => assumption); (case o => k_all); (case N => k_asm); (case s => tb_start); (case m => lsm_bools); (case c => rfl))
  | (refine' offLt ?h ?s; (case h => assumption); (case s => tb_start))
  | fail "not apart")
local macro_rules | `(tactic| k_lt $h:ident) => `(tactic| (have hl9 := $h; replace $h := allLt_of $h; simp only [AllLt, and_true] at $h:ident))
local macro_rules | `(tactic| kqd_sub) => `(tactic| first
  | (refine' Cut.own ?m ?r; (case m => lsm_bools); (case r => kqd_sub))
  | (refine' Cut.oth ?o ?r; (case o => k_all); (case r => kqd_sub))
  | exact Cut.tail
  | fail "no cut")
local macro_rules | `(tactic| ktr_rel) => `(tactic| first
  | exact subT_nil
  | exact subT_of (fun _ hp => hp)
  | assumption
  | (refine' subT_skip ?a ?b; (case a => rfl); (case b => ktr_rel))
  | (refine' subT_cons ?a ?b; (case a => lsm_bools); (case b => ktr_rel))
  | (refine' subT_of ?h; (case h => tb_start))
  | (refine' subT_app ?a ?b; (case a => ktr_rel); (case b => ktr_rel))
  | fail "tuples not within")
local macro_rules | `(tactic| k_room) => `(tactic| ktr_room)
local macro_rules | `(tactic| k_units) => `(tactic| ktr_units)
local macro_rules | `(tactic| tb_rel) => `(tactic| first
  | exact TAll.nil
  | exact TIn.str _ _
  | exact TIn.int _ _
  | exact TIn.bytes _ _
  | assumption
  | (refine' TIn.mono ?s ?h; (case h => assumption); (case s => ktr_rel))
  | (refine' TAll.mono ?s ?h; (case h => assumption); (case s => ktr_rel))
  | (refine' TIn.tuple ?m ?r; (case m => lsm_bools); (case r => tb_rel))
  | (refine' TAll.cons ?h ?t; (case h => tb_rel); (case t => tb_rel))
  | fail "no tree")
local macro_rules | `(tactic| walk_at "compareOp In str ref") => `(tactic| (k_here; k_dflt (refine' in_tupL ?ht ?hi ?_; (case ht => (refine' tupK ?X ?l; (case X => k_in); (case l => k_is))); (case hi => exact rfl))))
local macro_rules | `(tactic| walk_at "compareOp Eq ref ref") => `(tactic| (k_here; k_dflt (first
  | (refine' eq_dat (r := false) ?H ?d1 ?d2 ?hc ?hd ?hu ?_; (case H => exact heldOf (by k_asm)); (case d1 => tb_rel); (case d2 => tb_rel); (case hc => with_unfolding_all rfl); (case hd => exact Nat.le_of_ble_eq_true rfl); (case hu => ktr_units))
  | (refine' eq_dat (r := true) ?H ?d1 ?d2 ?hc ?hd ?hu ?_; (case H => exact heldOf (by k_asm)); (case d1 => tb_rel); (case d2 => tb_rel); (case hc => with_unfolding_all rfl); (case hd => exact Nat.le_of_ble_eq_true rfl); (case hu => ktr_units)))))
local macro_rules | `(tactic| walk_at "compareOp NotEq ref ref") => `(tactic| (k_here; k_dflt (first
  | (refine' ne_dat (r := false) ?H ?d1 ?d2 ?hc ?hd ?hu ?_; (case H => exact heldOf (by k_asm)); (case d1 => tb_rel); (case d2 => tb_rel); (case hc => with_unfolding_all rfl); (case hd => exact Nat.le_of_ble_eq_true rfl); (case hu => ktr_units))
  | (refine' ne_dat (r := true) ?H ?d1 ?d2 ?hc ?hd ?hu ?_; (case H => exact heldOf (by k_asm)); (case d1 => tb_rel); (case d2 => tb_rel); (case hc => with_unfolding_all rfl); (case hd => exact Nat.le_of_ble_eq_true rfl); (case hu => ktr_units)))))
local macro_rules | `(tactic| walk_at "subscriptTail Name Constant ref int") => `(tactic| (k_here; k_dflt (refine' item_tupleT ?t ?a ?b ?c ?d ?_; (case t => exact News.isTup (by k_asm) (by k_mem)); (case a => decide); (case b => decide); (case c => rfl); (case d => rfl); k_whole)))
local macro_rules | `(tactic| walk_at "ite") => `(tactic| (k_closed; k_dflt (first | (refine' ite_pos ?c ?_; (case c => decide)) | (refine' ite_neg ?c ?_; (case c => decide)))))
local macro_rules | `(tactic| walk_at "call type:range cons nil") => `(tactic| (k_here; k_dflt (refine' range1_rows ?F ?N ?_; (case F => k_asm); (case N => k_asm); k_whole; intro h' tk' t1' u1' v1' hR' F' N' hst'; (try k_fold))))
local macro_rules | `(tactic| walk_at "pyIter ref") => `(tactic| (k_here; (with_reducible show wpAny _ _ (pyIter (Value.ref _)) (fun it s₂ => LoopAtV _ _ _ _ _ _ _ _ _ it s₂) _ _); refine' Hold.of ?_))
local macro_rules | `(tactic| walk_at "binaryOp Add ref ref") => `(tactic| (k_here; k_dflt (refine' add_cat ?F ?N ?a ?b ?z ?_; (case F => k_asm); (case N => k_asm); (case a => lsm_bools); (case b => lsm_bools); (case z => (simp only [sizeLine_eq, List.length_cons, List.length_nil]; omega)); k_whole; intro D' h' F' N' l1; (try k_lt l1); (try k_sweep))))
local macro_rules | `(tactic| walk_at "subscriptTail Name Slice ref ref") => `(tactic| (k_here; k_dflt (first
  | (refine' slice_whole ?F ?N ?t ?l ?z ?_ ?hs ?hg; (case F => k_asm); (case N => k_asm); (case t => lsm_bools); (case l => exact Nat.le_of_ble_eq_true rfl); (case z => exact Nat.le_of_ble_eq_true rfl); (case hs => with_unfolding_all rfl); (case hg => (intro _; with_unfolding_all rfl)); k_whole; intro h' F' N'; (try k_sweep))
  | (refine' slice_upto ?F ?N ?t ?l ?z ?_ ?hs ?hg; (case F => k_asm); (case N => k_asm); (case t => lsm_bools); (case l => exact Nat.le_of_ble_eq_true rfl); (case z => exact Nat.le_of_ble_eq_true rfl); (case hs => with_unfolding_all rfl); (case hg => (intro _; with_unfolding_all rfl)); k_whole; intro D' h' F' N' l1; (try k_lt l1); (try k_sweep)))))
local macro_rules | `(tactic| walk_at "subscriptTail Name Slice ref ref") => `(tactic| (k_here; k_dflt
  (refine' slice_from ?F ?N ?t ?o ?l ?z ?_ ?hs ?hg; (case F => k_asm); (case N => k_asm); (case t => lsm_bools); (case o => exact Nat.le_of_ble_eq_true rfl); (case l => (simp only [List.length_cons]; omega)); (case z => (simp only [sizeLine_eq, List.length_cons]; omega)); (case hs => with_unfolding_all rfl); (case hg => (intro _; with_unfolding_all rfl)); k_whole; intro D' h' F' N' l1; (try k_lt l1); (try k_sweep))))
local macro_rules | `(tactic| walk_at "subscriptTail Subscript Name Constant Slice ref ref") => `(tactic| (k_here; k_dflt
  (refine' slice_from ?F ?N ?t ?o ?l ?z ?_ ?hs ?hg; (case F => k_asm); (case N => k_asm); (case t => lsm_bools); (case o => exact Nat.le_of_ble_eq_true rfl); (case l => (simp only [List.length_cons]; omega)); (case z => (simp only [sizeLine_eq, List.length_cons]; omega)); (case hs => with_unfolding_all rfl); (case hg => (intro _; with_unfolding_all rfl)); k_whole; intro D' h' F' N' l1; (try k_lt l1); (try k_sweep))))
local macro_rules | `(tactic| walk_at "call type:tuple cons nil") => `(tactic| (k_here; k_dflt (refine' tuple_of ?F ?N ?t ?z ?_; (case F => k_asm); (case N => k_asm); (case t => lsm_bools); (case z => first | exact Nat.le_of_ble_eq_true rfl | (simp only [sizeLine_eq, List.length_append, List.length_cons, List.length_nil]; omega)); k_whole; intro D' h' F' N' l1; (try k_lt l1); (try k_sweep))))
local macro_rules | `(tactic| walk_at "subscriptTail Name Constant ref int") => `(tactic| (k_here; k_dflt (refine' item_tupI ?N ?m ?a ?b ?c ?_; (case N => k_asm); (case m => lsm_bools); (case a => decide); (case b => decide); (case c => exact rfl); k_whole)))
local macro_rules | `(tactic| walk_at "subscriptTail Subscript Name Constant Constant ref int") => `(tactic| (k_here; k_dflt (refine' item_tupI ?N ?m ?a ?b ?c ?_; (case N => k_asm); (case m => lsm_bools); (case a => decide); (case b => decide); (case c => exact rfl); k_whole)))
local macro_rules | `(tactic| walk_at "subscriptTail Subscript Subscript Constant Constant ref int") => `(tactic| (k_here; k_dflt (refine' item_tupI ?N ?m ?a ?b ?c ?_; (case N => k_asm); (case m => lsm_bools); (case a => decide); (case b => decide); (case c => exact rfl); k_whole)))
local macro_rules | `(tactic| walk_at "subscriptTail Call Name cons nil Constant ref int") => `(tactic| (k_here; k_dflt (refine' item_tupI ?N ?m ?a ?b ?c ?_; (case N => k_asm); (case m => lsm_bools); (case a => decide); (case b => decide); (case c => exact rfl); k_whole)))
local macro_rules | `(tactic| walk_at "binaryOp Add ref ref") => `(tactic| (k_here; k_dflt (refine' add_tupC ?F ?N ?a ?b ?l1 ?l2 ?z ?_; (case F => k_asm); (case N => k_asm); (case a => lsm_bools); (case b => lsm_bools); (case l1 => (simp only [List.length_cons, List.length_nil]; omega)); (case l2 => omega); (case z => (simp only [sizeLine_eq, List.length_cons, List.length_nil]; omega)); k_whole; intro D' h' F' N' l1; (try k_lt l1); (try k_sweep))))
local macro_rules | `(tactic| walk_at "call type:tuple cons nil") => `(tactic| (k_here; k_dflt (refine' tuple_same ?N ?t ?_; (case N => k_asm); (case t => lsm_bools); k_whole)))
local macro_rules | `(tactic| walk_at "call builtin:len cons nil") => `(tactic| (k_here; k_dflt (refine' len_tupK ?N ?t ?z ?_; (case N => k_asm); (case t => lsm_bools); (case z => (simp only [sizeLine_eq, List.length_cons, List.length_nil]; omega)); k_whole; intro tk1' tk2')))
local macro_rules | `(tactic| walk_at "eval ListComp") => `(tactic| (k_here; refine' Hold.of ?_))
local macro_rules | `(tactic| walk_at "compareOp NotEq ref ref") => `(tactic| (k_here; k_dflt (refine' ne_dat (r := false) ?H ?d1 ?d2 ?hc ?hd ?hu ?_; (case H => exact heldOf (by k_asm)); (case d1 => tb_rel); (case d2 => tb_rel); (case hc => exact cmp_head (by assumption) _); (case hd => exact Nat.le_of_ble_eq_true rfl); (case hu => ktr_units))))
local macro_rules | `(tactic| walk_at "call ref") => `(tactic| (k_here; (with_reducible show wpAny _ _ (call (Value.ref 233) [_] _) _ _ _); k_dflt (refine' plain_use ?C ?ho ?hv ?B ?F ?X ?N ?T ?hk ?hc ?hd ?hu ?_; (case C => assumption); (case ho => assumption); (case hv => assumption); (case B => k_asm); (case F => k_asm); (case X => k_asm); (case N => k_asm); (case T => k_asm); (case hk => first | rfl | assumption); (case hc => kqd_sub); (case hd => ktr_room); (case hu => ktr_units); k_whole; intro r' Y' h' tk' g' F' N' hr'; (try simp only [List.cons_append, List.nil_append] at N'); (try k_fold))))
local macro_rules | `(tactic| walk_at "call ref") => `(tactic| (k_here; (with_reducible show wpAny _ _ (call (Value.ref 240) [_] _) _ _ _); k_dflt (refine' things_use ?C ?ho ?hv ?B ?F ?X ?N ?T ?hk ?hc ?hd ?hu ?_; (case C => assumption); (case ho => assumption); (case hv => assumption); (case B => k_asm); (case F => k_asm); (case X => k_asm); (case N => k_asm); (case T => k_asm); (case hk => first | rfl | assumption); (case hc => kqd_sub); (case hd => ktr_room); (case hu => ktr_units); k_whole; intro a' vs' k' Y' h' tk' g' F' N' hr' hrl'; (try simp only [List.cons_append, List.nil_append] at N'); (try k_fold))))
local macro_rules | `(tactic| walk_at "exec For Name Subscript") => `(tactic| (k_here; (rename Fr _ _ _ _ => lF'); (with_unfolding_all refine' For_invVF lF' ?k1 ?k2 ?_; (case k1 => exact rfl); (case k2 => exact rfl); k_whole)))
local macro_rules | `(tactic| walk_at "compareOp Eq ref ref") => `(tactic| (k_here; k_dflt (refine' eq_dat (r := false) ?H ?d1 ?d2 ?hc ?hd ?hu ?_; (case H => exact heldOf (by k_asm)); (case d1 => tb_rel); (case d2 => tb_rel); (case hc => exact cmp_head (by assumption) _); (case hd => exact Nat.le_of_ble_eq_true rfl); (case hu => ktr_units))))
local macro_rules | `(tactic| walk_at "compareOp Eq str str") => `(tactic| (k_here; k_dflt (refine' eq_str_no ?h ?_; (case h => assumption); k_whole)))
local macro_rules | `(tactic| ktr_enter) => `(tactic| (refine' code_defC ?k1 ?k2 ?k3 ?k4 ?k5 ?kA ?kF ?kK ?k6 ?k7 ?k8 ?k9 ?kB ?kD ?_ ?c2 ?c3 ?c4; (case kA => exact rfl); (case kF => exact rfl); (case kK => assumption); (case k1 => k_asm); (case k2 => k_asm); (case k3 => k_asm); (case k4 => k_asm); (case k5 => k_asm); (case k6 => k_is); (case k7 => k_is); (case k8 => ktr_room); (case k9 => exact BindsTo.of_eq rfl); (case kB => exact rfl); (case kD => decide +kernel); (case c2 => exact rfl); (case c3 => exact rfl); (case c4 => exact rfl); k_whole; intro g' L' h' tk' cells' FG' F' N' Y' B' X' T' l1; (try k_lt l1); k_cells Y'; (try simp only [List.cons_append, List.nil_append] at N'); (try dsimp only); (try k_fold)))
local macro_rules | `(tactic| walk_at "compareOp In ref ref") => `(tactic| (k_here; k_dflt (first
  | (refine' in_tab_some ?hl ?N ?hv ?ht ?tab ?hu ?_; (case hl => assumption); (case N => k_asm); (case hv => (refine' TIn.mono ?s ?h; (case h => assumption); (case s => exact subT_of (by tb_start)))); (case ht => assumption); (case tab => (refine' TabIn.mono ?s ?h; (case h => assumption); (case s => tb_start))); (case hu => ktr_units); k_whole; intro tk')
  | (refine' in_tab_none ?hl ?N ?hv ?ht ?tab ?hu ?_; (case hl => assumption); (case N => k_asm); (case hv => (refine' TIn.mono ?s ?h; (case h => assumption); (case s => exact subT_of (by tb_start)))); (case ht => assumption); (case tab => (refine' TabIn.mono ?s ?h; (case h => assumption); (case s => tb_start))); (case hu => ktr_units); k_whole; intro tk'))))
local macro_rules | `(tactic| walk_at "subscriptTail Name Name ref ref") => `(tactic| (k_here; k_dflt (refine' item_tab ?N ?hv ?ht ?tab ?hl ?hu ?_ ?hs ?hg; (case hl => assumption); (case N => k_asm); (case hv => (refine' TIn.mono ?s ?h; (case h => assumption); (case s => exact subT_of (by tb_start)))); (case ht => assumption); (case tab => (refine' TabIn.mono ?s ?h; (case h => assumption); (case s => tb_start))); (case hu => ktr_units); (case hs => with_unfolding_all rfl); (case hg => (intro _; with_unfolding_all rfl)); k_whole; intro tk' r' hr')))
local macro_rules | `(tactic| walk_at "call ref") => `(tactic| (k_here; (with_reducible show wpAny _ _ (call (Value.ref 245) [_, Value.ref _] _) _ _ _); k_dflt (refine' put_use ?C ?ho ?hdep ?hv ?ht ?B ?F ?X ?N ?T ?hk ?hc ?hd ?hu ?_; (case C => assumption); (case ho => assumption); (case hdep => assumption); (case hv => assumption); (case ht => assumption); (case B => k_asm); (case F => k_asm); (case X => k_asm); (case N => k_asm); (case T => k_asm); (case hk => first | rfl | assumption); (case hc => kqd_sub); (case hd => ktr_room); (case hu => ktr_units); k_whole; intro r' Y' h' tk' g' F' N' hr'; (try simp only [List.cons_append, List.nil_append] at N'); (try k_fold))))
set_option maxHeartbeats 8000000 in
theorem put_con (w : World) (tb : List (T × T)) : ∀ (n : Nat) (t : T), t.dep < n → PutC w tb t := by
  intro n
  induction n with
  | zero => exact fun t h => absurd h (Nat.not_lt_zero _)
  | succ n ih =>
  intro t hn v d Y hok hdep hv htab
  obtain ⟨a, rfl⟩ := tree_ref hv
  refine Con.intro ?_
  intro dp un gd cn cs fa ccd cl outer A₀ base h₀ L m s mean mg mb Q E B F X N Tp hk hd hu fin
  simp only [List.nil_append] at N
  refine wpAny_call ?_
  cases hl : lookT tb t with
  | some v =>
    w_strict (
      k_dflt ktr_enter
      k_steps)
    refine' fin [] _ _ _ _ (by k_asm) (by k_asm) (List.forall_mem_nil _) ?Y (fun Y₁ hs => ⟨rfl, ?r⟩)
    case Y => tb_start
    case r =>
      rw [putT_some hl]
      exact TIn.mono hs (by assumption)
  | none =>
  cases t with
  | sym x =>
    have e : putT tb (.sym x) = .sym x := by simp only [putT, hl, Option.getD_none]
    obtain ⟨a, n, t1, t2, e9, hm⟩ := sym_inv hv
    cases e9
    simp only [T.dep] at hd hu
    w_strict (
      k_dflt ktr_enter
      k_steps)
    refine' fin [] _ _ _ _ (by k_asm) (by k_asm) (List.forall_mem_nil _) ?Y (fun Y₁ hs => ⟨rfl, ?r⟩)
    case Y => tb_start
    case r =>
      rw [e]
      exact TIn.mono hs (TIn.mono (subT_of (by tb_start)) hv)
  | int x =>
    have e : putT tb (.int x) = .int x := by simp only [putT, hl, Option.getD_none]
    obtain ⟨a, n, t1, t2, e9, hm⟩ := int_inv hv
    cases e9
    simp only [T.dep] at hd hu
    w_strict (
      k_dflt ktr_enter
      k_steps)
    refine' fin [] _ _ _ _ (by k_asm) (by k_asm) (List.forall_mem_nil _) ?Y (fun Y₁ hs => ⟨rfl, ?r⟩)
    case Y => tb_start
    case r =>
      rw [e]
      exact TIn.mono hs (TIn.mono (subT_of (by tb_start)) hv)
  | text x =>
    have e : putT tb (.text x) = .text x := by simp only [putT, hl, Option.getD_none]
    obtain ⟨a, n, t1, t2, e9, hm⟩ := text_inv hv
    cases e9
    simp only [T.dep] at hd hu
    w_strict (
      k_dflt ktr_enter
      k_steps)
    refine' fin [] _ _ _ _ (by k_asm) (by k_asm) (List.forall_mem_nil _) ?Y (fun Y₁ hs => ⟨rfl, ?r⟩)
    case Y => tb_start
    case r =>
      rw [e]
      exact TIn.mono hs (TIn.mono (subT_of (by tb_start)) hv)
  | ex h0 ps =>
    have e : putT tb (.ex h0 ps) = .ex h0 (putTs tb ps) := by simp only [putT, hl, Option.getD_none]
    obtain ⟨a, n, t1, t2, b, vs, k, e9, hm, hm2, hT⟩ := ex_inv hv
    cases e9
    simp only [T.dep] at hd hu
    w_strict (
      k_dflt ktr_enter
      k_steps)
    unfold Hold
    rename Fr _ _ _ _ => F1
    rename News _ _ _ _ => N1
    refine' comp_tup F1 ?hh ?hclos ?hcell ?hkind ?hnames ?hx ?h ?hs
    case hh => rfl
    case hclos => with_unfolding_all rfl
    case hcell => decide
    case hkind => rfl
    case hnames => decide
    case hx => rfl
    case hs => (intro _; with_unfolding_all rfl)
    case h =>
      w_strict (
        k_steps)
      have hvl : vs.length ≤ 60 := by
        have := hT.length
        rw [dats_len] at this
        have := hok.1
        omega
      refine' csrc_map (vs := vs) (k := k) (ps := ps) (putTs tb) ?F ?N ?hm ?hz (TAll.mono (subT_of ?sub) hT) rfl ?turn ?fin
      case F => k_asm
      case N => k_asm
      case hm => lsm_bools
      case hz => (rw [sizeLine_eq]; omega)
      case sub => tb_start
      case turn =>
        intro i ys nw v p I oI C oC D m₂ h tk hp hsub hpv hT' hS hoI hoC hx F' N' off ne
        have hpm := List.mem_of_getElem? hp
        have IH : PutC w tb p := ih p (by have := dep_mem hpm; simp only [T.dep] at hn; omega)
        have hpd := dep_mem hpm
        have hpo := ok_mem hok.2 hpm
        have hp3 : p.dep ≤ 3 := by simp only [T.dep] at hdep; omega
        have hcell := hsub _ (.head _)
        have htab' : TabIn w nw d tb := htab.mono fun q hq => hsub q (.tail _ hq)
        k_sweep
        w_strict (
          k_steps)
        refine' comp_end ?F ?N ?I ?C ?D ?hY ?g off hoI (nsObj_not hoC) hS ?r
        case g => assumption
        case F => k_asm
        case N => k_asm
        case I => lsm_bools
        case C => lsm_bools
        case D => lsm_bools
        case hY => tb_start
        case r => exact ⟨fun p hp => GrowT.mem' (by assumption) (hsub p hp), put_step (by assumption) hT' hp (by assumption)⟩
      case fin =>
        intro ys nw D h tk hsub hT' F' N' o1
        have hyl : ys.length ≤ 60 := by
          have := hT'.length
          rw [dats_len, putTs_len] at this
          have := hok.1
          omega
        k_sweep
        w_strict (
          k_steps)
        refine' fin [] _ _ _ _ (by k_asm) (by k_asm) (List.forall_mem_nil _) ?Y (fun Y₁ hs => ⟨rfl, ?r⟩)
        case Y => exact fun p hp => (show ∀ p ∈ nw, p ∈ _ by tb_start) p (hsub p (.tail _ hp))
        case r =>
          rw [e]
          refine TIn.mono hs ?_
          show TIn _ _ (.tuple [sS "expr", .str h0, .tuple (T.dats (putTs tb ps))])
          tb_rel
end

section
-- FuserDef
abbrev attrE (w : World) (x : String) (t : Tok) (v : Value) : DictEntry := ⟨PyData.keyHash w.params (Str.ofString x), .str (Str.ofString x) t, v⟩
/-- the parts of a Fuser that no call changes -/
structure FuserIn (w : World) (Y : List (Addr × Obj)) (fz fd sz sd nz lz : Addr) : Prop where
  self : (fz, instObj 123 fd) ∈ Y
  attrs : ∃ t1 t2 t3, (fd, dictOf [attrE w "supply" t1 (.ref sz), attrE w "names" t2 (.ref nz), attrE w "leaves" t3 (.ref lz)] 3) ∈ Y
  sup : (sz, instObj 182 sd) ∈ Y
theorem FuserIn.mono {w : World} {X Y : List (Addr × Obj)} {fz fd sz sd nz lz : Addr} (hs : ∀ p ∈ X, p ∈ Y) (h : FuserIn w X fz fd sz sd nz lz) : FuserIn w Y fz fd sz sd nz lz :=
  ⟨hs _ h.self, let ⟨a, b, c, h2⟩ := h.attrs; ⟨a, b, c, hs _ h2⟩, hs _ h.sup⟩
def dotN (i : Int) : Str := Str.ofString "dot." ++ Str.ofString (toString i)
def namesN (n : Nat) : List Str := (List.range n).map fun (i : Nat) => dotN ((i : Int) + 1)
theorem namesN_succ (n : Nat) : namesN (n + 1) = namesN n ++ [dotN ((n : Int) + 1)] := by
  simp only [namesN, List.range_succ, List.map_append, List.map_cons, List.map_nil]
theorem namesN_len (n : Nat) : (namesN n).length = n := by simp [namesN]
abbrev stM (w : World) (sd nz lz : Addr) (k : Int) (t4 tk : Tok) (xs : Array Value) (n3 : Nat) (ys : Array Value) (n4 : Nat) : List (Addr × Obj) :=
  [(sd, dictOf [attrE w "many" t4 (.int k tk)] 1), (nz, listOf xs n3), (lz, listOf ys n4)]
/-- a Fuser's state: what it has put aside -/
structure FSt (w : World) (sd nz lz : Addr) (ls : List T) (t4 tk : Tok) (xs : Array Value) (n3 : Nat) (ys : Array Value) (n4 : Nat) (Y : List (Addr × Obj)) : Prop where
  names : ∃ nvs, xs = List.toArray nvs ∧ TAll Y nvs ((namesN ls.length).map Dat.str)
  leaves : ∃ lvs, ys = List.toArray lvs ∧ TAll Y lvs (T.dats ls)
theorem FSt.mono {w : World} {sd nz lz : Addr} {ls : List T} {t4 tk : Tok} {xs : Array Value} {n3 : Nat} {ys : Array Value} {n4 : Nat} {X Y : List (Addr × Obj)} (hs : SubT X Y) (h : FSt w sd nz lz ls t4 tk xs n3 ys n4 X) : FSt w sd nz lz ls t4 tk xs n3 ys n4 Y :=
  ⟨let ⟨a, b, c⟩ := h.names; ⟨a, b, c.mono hs⟩, let ⟨a, b, c⟩ := h.leaves; ⟨a, b, c.mono hs⟩⟩
def isLitT : T → Bool
  | .int _ => true
  | .text _ => true
  | _ => false
def leafB (t : T) (k : Nat) : T := if isLitT t then t else .sym (dotN ((k : Int) + 1))
theorem FSt.put {w : World} {sd nz lz : Addr} {ls : List T} {t4 tk t4' tk' : Tok} {xs : Array Value} {n3 n3' : Nat} {ys : Array Value} {n4 n4' : Nat} {X Y : List (Addr × Obj)} {t : T} {v : Value} {tt : Tok} (h : FSt w sd nz lz ls t4 tk xs n3 ys n4 X) (hs : SubT X Y) (hv : TIn Y v t.dat) :
    FSt w sd nz lz (ls ++ [t]) t4' tk' (xs.push (.str (Str.ofString "dot." ++ Str.ofString (toString ((ls.length : Int) + 1))) tt)) n3' (ys.push v) n4' Y := by
  obtain ⟨a, e1, c⟩ := h.names
  obtain ⟨b, e2, d⟩ := h.leaves
  subst e1 e2
  refine ⟨⟨a ++ [.str (Str.ofString "dot." ++ Str.ofString (toString ((ls.length : Int) + 1))) tt], by simp, ?_⟩, ⟨b ++ [v], by simp, TAll.snoc (d.mono hs) hv⟩⟩
  rw [List.length_append, List.length_singleton, namesN_succ, List.map_append]
  exact TAll.append (c.mono hs) (.cons (.str _ _) .nil)
/-- what a call of a Fuser's method leaves -/
def FPost (w : World) (sd nz lz : Addr) (ls : List T) (b : T) (M' Y₁ : List (Addr × Obj)) (r : Value) : Prop :=
  ∃ t4 tk xs n3 ys n4, M' = stM w sd nz lz (ls.length : Int) t4 tk xs n3 ys n4 ∧ FSt w sd nz lz ls t4 tk xs n3 ys n4 Y₁ ∧ TIn Y₁ r b.dat
def LeafC (w : World) : Prop := ∀ (fz fd sz sd nz lz : Addr) (t : T) (v : Value) (ls : List T) (t4 tk : Tok) (xs : Array Value) (n3 : Nat) (ys : Array Value) (n4 : Nat) (Y : List (Addr × Obj)), LeafK t → @Ne Nat nz lz → ls.length ≤ 60 → TIn Y v t.dat → FuserIn w Y fz fd sz sd nz lz → FSt w sd nz lz ls t4 tk xs n3 ys n4 Y →
  (∀ q ∈ stM w sd nz lz (ls.length : Int) t4 tk xs n3 ys n4, ∀ p ∈ Y, p.1 ≠ q.1) →
  Con w 108 [.ref fz, v] 12 100 (stM w sd nz lz (ls.length : Int) t4 tk xs n3 ys n4) Y (FPost w sd nz lz (ls ++ thingsT t) (leafB t ls.length))
section
variable {prog : Program} {w : World} {A : Around} {E : Value → Shared → Prop} {s : Shared} {h₀ : Heap} {L a b : Addr} {news : List (Addr × Obj)} {Q : Value → Shared → Prop}
theorem eq_tree {x y : T} (N : News h₀ L s.heap news) (D1 : TIn news (.ref a) x.dat) (D2 : TIn news (.ref b) y.dat) (hd : x.dep ≤ 3) (hu : A.units + 30 < cLine) (h : ∀ c : Bool, (c = true ↔ x = y) → Q (.bool c) s) : wpAny (model prog w) A (compareOp .Eq (.ref a) (.ref b)) Q E s := by
  classical
  have hc := cmpT x y
  have hdep := depD_le x
  have key : ∀ {ds es : List Dat}, x.dat = .tuple ds → y.dat = .tuple es → wpAny (model prog w) A (compareOp .Eq (.ref a) (.ref b)) Q E s := by
    intro ds es e1 e2
    rw [e1] at D1 hdep
    rw [e2] at D2
    rw [e1, e2] at hc
    simp only [cmpD] at hc
    simp only [depD] at hdep
    exact eq_dat (heldOf N) D1 D2 hc (by omega) hu (h _ (by simp))
  cases x <;> cases y <;> exact key rfl rfl
theorem eq_tree_ne {x y : T} (N : News h₀ L s.heap news) (D1 : TIn news (.ref a) x.dat) (D2 : TIn news (.ref b) y.dat) (hd : x.dep ≤ 3) (hu : A.units + 30 < cLine) (hne : x ≠ y) (h : Q (.bool false) s) : wpAny (model prog w) A (compareOp .Eq (.ref a) (.ref b)) Q E s :=
  eq_tree N D1 D2 hd hu fun c hc => by
    cases c with
    | false => exact h
    | true => exact absurd (hc.mp rfl) hne
end
end

section
-- Leaf
theorem reset_Leaf : True := by
  w_top off
  trivial
local macro_rules | `(tactic| lsm_bools) => `(tactic| first | exact List.Mem.head _ | assumption | (refine' List.Mem.tail _ ?_; lsm_bools) | (refine' GrowT.mem ?g ?h; (case g => assumption); (case h => lsm_bools)) | fail "no entry")
local macro_rules | `(tactic| k_mem) => `(tactic| first | lsm_bools | fail "no entry")
local macro_rules | `(tactic| tb_start) => `(tactic| first
  | exact List.forall_mem_nil _
  | (refine' List.forall_mem_cons.mpr ⟨?a, ?b⟩; (case a => lsm_bools); (case b => tb_start))
  | (intro p hp; repeat (first | exact hp | refine List.mem_cons_of_mem _ ?_ | refine List.Mem.tail _ ?_ | refine GrowT.mem' (by assumption) ?_ | refine GrowT.mem (by assumption) ?_ | fail "no entry"))
  | fail "not within")
local macro_rules | `(tactic| k_all) => `(tactic| first
  | assumption
  | (refine' GrowT.off ?g ?o ?N ?s ?m ?c; (case g => assumption); (case o => k_all); (case N => k_asm); (case s => tb_start); (case m => lsm_bools); (case c => rfl))
  | (refine' offLt ?h ?s; (case h => assumption); (case s => tb_start))
  | fail "not apart")
local macro_rules | `(tactic| k_lt $h:ident) => `(tactic| (have hl9 := $h; replace $h := allLt_of $h; simp only [AllLt, and_true] at $h:ident))
local macro_rules | `(tactic| kqd_sub) => `(tactic| first
  | (refine' Cut.own ?m ?r; (case m => lsm_bools); (case r => kqd_sub))
  | (refine' Cut.oth ?o ?r; (case o => k_all); (case r => kqd_sub))
  | exact Cut.tail
  | fail "no cut")
local macro_rules | `(tactic| ktr_rel) => `(tactic| first
  | exact subT_nil
  | exact subT_of (fun _ hp => hp)
  | assumption
  | (refine' subT_skip ?a ?b; (case a => rfl); (case b => ktr_rel))
  | (refine' subT_cons ?a ?b; (case a => lsm_bools); (case b => ktr_rel))
  | (refine' subT_of ?h; (case h => tb_start))
  | (refine' subT_app ?a ?b; (case a => ktr_rel); (case b => ktr_rel))
  | fail "tuples not within")
local macro_rules | `(tactic| k_room) => `(tactic| ktr_room)
local macro_rules | `(tactic| k_units) => `(tactic| ktr_units)
local macro_rules | `(tactic| tb_rel) => `(tactic| first
  | exact TAll.nil
  | exact TIn.str _ _
  | exact TIn.int _ _
  | exact TIn.bytes _ _
  | assumption
  | (refine' TIn.mono ?s ?h; (case h => assumption); (case s => ktr_rel))
  | (refine' TAll.mono ?s ?h; (case h => assumption); (case s => ktr_rel))
  | (refine' TIn.tuple ?m ?r; (case m => lsm_bools); (case r => tb_rel))
  | (refine' TAll.cons ?h ?t; (case h => tb_rel); (case t => tb_rel))
  | fail "no tree")
local macro_rules | `(tactic| walk_at "compareOp In str ref") => `(tactic| (k_here; k_dflt (refine' in_tupL ?ht ?hi ?_; (case ht => (refine' tupK ?X ?l; (case X => k_in); (case l => k_is))); (case hi => exact rfl))))
local macro_rules | `(tactic| walk_at "compareOp Eq ref ref") => `(tactic| (k_here; k_dflt (first
  | (refine' eq_dat (r := false) ?H ?d1 ?d2 ?hc ?hd ?hu ?_; (case H => exact heldOf (by k_asm)); (case d1 => tb_rel); (case d2 => tb_rel); (case hc => with_unfolding_all rfl); (case hd => exact Nat.le_of_ble_eq_true rfl); (case hu => ktr_units))
  | (refine' eq_dat (r := true) ?H ?d1 ?d2 ?hc ?hd ?hu ?_; (case H => exact heldOf (by k_asm)); (case d1 => tb_rel); (case d2 => tb_rel); (case hc => with_unfolding_all rfl); (case hd => exact Nat.le_of_ble_eq_true rfl); (case hu => ktr_units)))))
local macro_rules | `(tactic| walk_at "compareOp NotEq ref ref") => `(tactic| (k_here; k_dflt (first
  | (refine' ne_dat (r := false) ?H ?d1 ?d2 ?hc ?hd ?hu ?_; (case H => exact heldOf (by k_asm)); (case d1 => tb_rel); (case d2 => tb_rel); (case hc => with_unfolding_all rfl); (case hd => exact Nat.le_of_ble_eq_true rfl); (case hu => ktr_units))
  | (refine' ne_dat (r := true) ?H ?d1 ?d2 ?hc ?hd ?hu ?_; (case H => exact heldOf (by k_asm)); (case d1 => tb_rel); (case d2 => tb_rel); (case hc => with_unfolding_all rfl); (case hd => exact Nat.le_of_ble_eq_true rfl); (case hu => ktr_units)))))
local macro_rules | `(tactic| walk_at "subscriptTail Name Constant ref int") => `(tactic| (k_here; k_dflt (refine' item_tupleT ?t ?a ?b ?c ?d ?_; (case t => exact News.isTup (by k_asm) (by k_mem)); (case a => decide); (case b => decide); (case c => rfl); (case d => rfl); k_whole)))
local macro_rules | `(tactic| walk_at "ite") => `(tactic| (k_closed; k_dflt (first | (refine' ite_pos ?c ?_; (case c => decide)) | (refine' ite_neg ?c ?_; (case c => decide)))))
local macro_rules | `(tactic| walk_at "call type:range cons nil") => `(tactic| (k_here; k_dflt (refine' range1_rows ?F ?N ?_; (case F => k_asm); (case N => k_asm); k_whole; intro h' tk' t1' u1' v1' hR' F' N' hst'; (try k_fold))))
local macro_rules | `(tactic| walk_at "pyIter ref") => `(tactic| (k_here; (with_reducible show wpAny _ _ (pyIter (Value.ref _)) (fun it s₂ => LoopAtV _ _ _ _ _ _ _ _ _ it s₂) _ _); refine' Hold.of ?_))
local macro_rules | `(tactic| walk_at "binaryOp Add ref ref") => `(tactic| (k_here; k_dflt (refine' add_cat ?F ?N ?a ?b ?z ?_; (case F => k_asm); (case N => k_asm); (case a => lsm_bools); (case b => lsm_bools); (case z => (simp only [sizeLine_eq, List.length_cons, List.length_nil]; omega)); k_whole; intro D' h' F' N' l1; (try k_lt l1); (try k_sweep))))
local macro_rules | `(tactic| walk_at "subscriptTail Name Slice ref ref") => `(tactic| (k_here; k_dflt (first
  | (refine' slice_whole ?F ?N ?t ?l ?z ?_ ?hs ?hg; (case F => k_asm); (case N => k_asm); (case t => lsm_bools); (case l => exact Nat.le_of_ble_eq_true rfl); (case z => exact Nat.le_of_ble_eq_true rfl); (case hs => with_unfolding_all rfl); (case hg => (intro _; with_unfolding_all rfl)); k_whole; intro h' F' N'; (try k_sweep))
  | (refine' slice_upto ?F ?N ?t ?l ?z ?_ ?hs ?hg; (case F => k_asm); (case N => k_asm); (case t => lsm_bools); (case l => exact Nat.le_of_ble_eq_true rfl); (case z => exact Nat.le_of_ble_eq_true rfl); (case hs => with_unfolding_all rfl); (case hg => (intro _; with_unfolding_all rfl)); k_whole; intro D' h' F' N' l1; (try k_lt l1); (try k_sweep)))))
local macro_rules | `(tactic| walk_at "subscriptTail Name Slice ref ref") => `(tactic| (k_here; k_dflt
  (refine' slice_from ?F ?N ?t ?o ?l ?z ?_ ?hs ?hg; (case F => k_asm); (case N => k_asm); (case t => lsm_bools); (case o => exact Nat.le_of_ble_eq_true rfl); (case l => (simp only [List.length_cons]; omega)); (case z => (simp only [sizeLine_eq, List.length_cons]; omega)); (case hs => with_unfolding_all rfl); (case hg => (intro _; with_unfolding_all rfl)); k_whole; intro D' h' F' N' l1; (try k_lt l1); (try k_sweep))))
local macro_rules | `(tactic| walk_at "subscriptTail Subscript Name Constant Slice ref ref") => `(tactic| (k_here; k_dflt
  (refine' slice_from ?F ?N ?t ?o ?l ?z ?_ ?hs ?hg; (case F => k_asm); (case N => k_asm); (case t => lsm_bools); (case o => exact Nat.le_of_ble_eq_true rfl); (case l => (simp only [List.length_cons]; omega)); (case z => (simp only [sizeLine_eq, List.length_cons]; omega)); (case hs => with_unfolding_all rfl); (case hg => (intro _; with_unfolding_all rfl)); k_whole; intro D' h' F' N' l1; (try k_lt l1); (try k_sweep))))
local macro_rules | `(tactic| walk_at "call type:tuple cons nil") => `(tactic| (k_here; k_dflt (refine' tuple_of ?F ?N ?t ?z ?_; (case F => k_asm); (case N => k_asm); (case t => lsm_bools); (case z => first | exact Nat.le_of_ble_eq_true rfl | (simp only [sizeLine_eq, List.length_append, List.length_cons, List.length_nil]; omega)); k_whole; intro D' h' F' N' l1; (try k_lt l1); (try k_sweep))))
local macro_rules | `(tactic| walk_at "subscriptTail Name Constant ref int") => `(tactic| (k_here; k_dflt (refine' item_tupI ?N ?m ?a ?b ?c ?_; (case N => k_asm); (case m => lsm_bools); (case a => decide); (case b => decide); (case c => exact rfl); k_whole)))
local macro_rules | `(tactic| walk_at "subscriptTail Subscript Name Constant Constant ref int") => `(tactic| (k_here; k_dflt (refine' item_tupI ?N ?m ?a ?b ?c ?_; (case N => k_asm); (case m => lsm_bools); (case a => decide); (case b => decide); (case c => exact rfl); k_whole)))
local macro_rules | `(tactic| walk_at "subscriptTail Subscript Subscript Constant Constant ref int") => `(tactic| (k_here; k_dflt (refine' item_tupI ?N ?m ?a ?b ?c ?_; (case N => k_asm); (case m => lsm_bools); (case a => decide); (case b => decide); (case c => exact rfl); k_whole)))
local macro_rules | `(tactic| walk_at "subscriptTail Call Name cons nil Constant ref int") => `(tactic| (k_here; k_dflt (refine' item_tupI ?N ?m ?a ?b ?c ?_; (case N => k_asm); (case m => lsm_bools); (case a => decide); (case b => decide); (case c => exact rfl); k_whole)))
local macro_rules | `(tactic| walk_at "binaryOp Add ref ref") => `(tactic| (k_here; k_dflt (refine' add_tupC ?F ?N ?a ?b ?l1 ?l2 ?z ?_; (case F => k_asm); (case N => k_asm); (case a => lsm_bools); (case b => lsm_bools); (case l1 => (simp only [List.length_cons, List.length_nil]; omega)); (case l2 => omega); (case z => (simp only [sizeLine_eq, List.length_cons, List.length_nil]; omega)); k_whole; intro D' h' F' N' l1; (try k_lt l1); (try k_sweep))))
local macro_rules | `(tactic| walk_at "call type:tuple cons nil") => `(tactic| (k_here; k_dflt (refine' tuple_same ?N ?t ?_; (case N => k_asm); (case t => lsm_bools); k_whole)))
local macro_rules | `(tactic| walk_at "call builtin:len cons nil") => `(tactic| (k_here; k_dflt (refine' len_tupK ?N ?t ?z ?_; (case N => k_asm); (case t => lsm_bools); (case z => (simp only [sizeLine_eq, List.length_cons, List.length_nil]; omega)); k_whole; intro tk1' tk2')))
local macro_rules | `(tactic| walk_at "eval ListComp") => `(tactic| (k_here; refine' Hold.of ?_))
local macro_rules | `(tactic| walk_at "compareOp NotEq ref ref") => `(tactic| (k_here; k_dflt (refine' ne_dat (r := false) ?H ?d1 ?d2 ?hc ?hd ?hu ?_; (case H => exact heldOf (by k_asm)); (case d1 => tb_rel); (case d2 => tb_rel); (case hc => exact cmp_head (by assumption) _); (case hd => exact Nat.le_of_ble_eq_true rfl); (case hu => ktr_units))))
local macro_rules | `(tactic| walk_at "call ref") => `(tactic| (k_here; (with_reducible show wpAny _ _ (call (Value.ref 233) [_] _) _ _ _); k_dflt (refine' plain_use ?C ?ho ?hv ?B ?F ?X ?N ?T ?hk ?hc ?hd ?hu ?_; (case C => assumption); (case ho => assumption); (case hv => assumption); (case B => k_asm); (case F => k_asm); (case X => k_asm); (case N => k_asm); (case T => k_asm); (case hk => first | rfl | assumption); (case hc => kqd_sub); (case hd => ktr_room); (case hu => ktr_units); k_whole; intro r' Y' h' tk' g' F' N' hr'; (try simp only [List.cons_append, List.nil_append] at N'); (try k_fold))))
local macro_rules | `(tactic| walk_at "call ref") => `(tactic| (k_here; (with_reducible show wpAny _ _ (call (Value.ref 240) [_] _) _ _ _); k_dflt (refine' things_use ?C ?ho ?hv ?B ?F ?X ?N ?T ?hk ?hc ?hd ?hu ?_; (case C => assumption); (case ho => assumption); (case hv => assumption); (case B => k_asm); (case F => k_asm); (case X => k_asm); (case N => k_asm); (case T => k_asm); (case hk => first | rfl | assumption); (case hc => kqd_sub); (case hd => ktr_room); (case hu => ktr_units); k_whole; intro a' vs' k' Y' h' tk' g' F' N' hr' hrl'; (try simp only [List.cons_append, List.nil_append] at N'); (try k_fold))))
local macro_rules | `(tactic| walk_at "exec For Name Subscript") => `(tactic| (k_here; (rename Fr _ _ _ _ => lF'); (with_unfolding_all refine' For_invVF lF' ?k1 ?k2 ?_; (case k1 => exact rfl); (case k2 => exact rfl); k_whole)))
local macro_rules | `(tactic| walk_at "compareOp Eq ref ref") => `(tactic| (k_here; k_dflt (refine' eq_dat (r := false) ?H ?d1 ?d2 ?hc ?hd ?hu ?_; (case H => exact heldOf (by k_asm)); (case d1 => tb_rel); (case d2 => tb_rel); (case hc => exact cmp_head (by assumption) _); (case hd => exact Nat.le_of_ble_eq_true rfl); (case hu => ktr_units))))
local macro_rules | `(tactic| walk_at "compareOp Eq str str") => `(tactic| (k_here; k_dflt (refine' eq_str_no ?h ?_; (case h => assumption); k_whole)))
local macro_rules | `(tactic| walk_at "compareOp Eq ref ref") => `(tactic| (k_here; k_dflt (refine' eq_tree_ne (x := T.ex _ _) (y := T.sym _) ?N ?d1 ?d2 ?hd ?hu ?ne ?_; (case N => k_asm); (case d1 => (refine' TIn.mono ?s ?h; (case h => assumption); (case s => exact subT_of (by tb_start)))); (case d2 => (show TIn _ _ (symD _); tb_rel)); (case hd => assumption); (case hu => ktr_units); (case ne => exact fun e => T.noConfusion e); k_whole)))
set_option maxHeartbeats 8000000 in
theorem leaf_con (w : World) : LeafC w := by
  intro fz fd sz sd nz lz t v ls t4 tk xs n3 ys n4 Y hK o3 hls hv hF hst ho
  obtain ⟨hF1, ⟨t1, t2, t3, hF2⟩, hF3⟩ := hF
  have hst0 := hst
  obtain ⟨nvs, rfl, hnT⟩ := hst.names
  obtain ⟨lvs, rfl, hlT⟩ := hst.leaves
  have hn60 : nvs.length ≤ 60 := by
    have := hnT.length
    rw [List.length_map, namesN_len] at this
    omega
  have hl60 : lvs.length ≤ 60 := by
    have := hlT.length
    rw [dats_len] at this
    omega
  refine Con.intro ?_
  intro dp un gd cn cs fa ccd cl outer A₀ base h₀ L m s mean mg mb Q E B F X N Tp hk hd hu fin
  have f1 := ho _ (.head _)
  have f2 := ho _ (.tail _ (.head _))
  have f3 := ho _ (.tail _ (.tail _ (.head _)))
  clear ho
  simp only [List.cons_append, List.nil_append] at N f1 f2 f3
  have o1 : @Ne Nat sd nz := fun e => by
    have h1 := (N _ (.head _)).1
    have h2 := (N _ (.tail _ (.head _))).1
    simp only at h1 h2
    rw [e] at h1
    rw [h1] at h2
    have h3 := congrArg Obj.cls (Option.some.inj h2)
    exact absurd (Value.type.inj h3) (by decide)
  have o2 : @Ne Nat sd lz := fun e => by
    have h1 := (N _ (.head _)).1
    have h2 := (N _ (.tail _ (.tail _ (.head _)))).1
    simp only at h1 h2
    rw [e] at h1
    rw [h1] at h2
    have h3 := congrArg Obj.cls (Option.some.inj h2)
    exact absurd (Value.type.inj h3) (by decide)
  refine wpAny_call ?_
  cases hK with
  | sym x hx =>
    obtain ⟨a, n, t5, t6, rfl, hm⟩ := sym_inv hv
    w_strict (
      k_dflt ktr_enter
      k_steps)
    refine' fin (stM w sd nz lz _ _ _ _ _ _ _) _ _ _ _ (by k_asm) (by k_asm) ?M ?Y (fun Y₁ hs => ?P)
    case M => tb_start
    case Y => tb_start
    case P =>
      refine' ⟨_, _, _, _, _, _, ?e, hst0.put (v := .ref a) (t := .sym x) (Y := Y₁) ?s (TIn.mono ?s hv), TIn.mono hs ?r⟩
      case e => rw [show thingsT (.sym x) = [.sym x] from rfl, List.length_append]; rfl
      case s => exact fun p q c => hs p ((show ∀ p ∈ Y, p ∈ _ by tb_start) p q) c
      case r =>
        show TIn _ _ (symD _)
        tb_rel
  | int x =>
    obtain ⟨a, n, t5, t6, rfl, hm⟩ := int_inv hv
    w_strict (
      k_dflt ktr_enter
      k_steps)
    refine' fin (stM w sd nz lz _ _ _ _ _ _ _) _ _ _ _ (by k_asm) (by k_asm) ?M ?Y (fun Y₁ hs => ?P)
    case M => tb_start
    case Y => tb_start
    case P =>
      have sub : SubT Y Y₁ := fun p q c => hs p ((show ∀ p ∈ Y, p ∈ _ by tb_start) p q) c
      rw [show thingsT (.int x) = [] from rfl, List.append_nil]
      exact ⟨_, _, _, _, _, _, rfl, hst0.mono sub, TIn.mono sub hv⟩
  | text x =>
    obtain ⟨a, n, t5, t6, rfl, hm⟩ := text_inv hv
    w_strict (
      k_dflt ktr_enter
      k_steps)
    refine' fin (stM w sd nz lz _ _ _ _ _ _ _) _ _ _ _ (by k_asm) (by k_asm) ?M ?Y (fun Y₁ hs => ?P)
    case M => tb_start
    case Y => tb_start
    case P =>
      have sub : SubT Y Y₁ := fun p q c => hs p ((show ∀ p ∈ Y, p ∈ _ by tb_start) p q) c
      rw [show thingsT (.text x) = [] from rfl, List.append_nil]
      exact ⟨_, _, _, _, _, _, rfl, hst0.mono sub, TIn.mono sub hv⟩
  | ex hx ps h1 h2 h3 hok hdp =>
    obtain ⟨a, n, t5, t6, b, vs, k, rfl, hm, hm2, hT⟩ := ex_inv hv
    w_strict (
      k_dflt ktr_enter
      k_steps)
    refine' fin (stM w sd nz lz _ _ _ _ _ _ _) _ _ _ _ (by k_asm) (by k_asm) ?M ?Y (fun Y₁ hs => ?P)
    case M => tb_start
    case Y => tb_start
    case P =>
      refine' ⟨_, _, _, _, _, _, ?e, (things_leaf h1 (ps := ps)) ▸ hst0.put (v := .ref a) (t := .ex hx ps) (Y := Y₁) ?s (TIn.mono ?s hv), TIn.mono hs ?r⟩
      case e => rw [things_leaf h1, List.length_append]; rfl
      case s => exact fun p q c => hs p ((show ∀ p ∈ Y, p ∈ _ by tb_start) p q) c
      case r =>
        show TIn _ _ (symD _)
        tb_rel
end

section
-- IsExDef
def isEx (t : T) (h : Str) : Bool :=
  match t with
  | .ex k _ => k == h
  | _ => false
def IsExC (w : World) : Prop := ∀ (t : T) (v : Value) (h : Str) (tk : Tok) (Y : List (Addr × Obj)), TIn Y v t.dat →
  Con w 68 [v, .str h tk] 5 40 [] Y (fun M' _ r => M' = [] ∧ r = .bool (isEx t h))
section
variable {w : World} {Y news ex : List (Addr × Obj)}
  {dp un : Nat} {gd : Option (List Code)} {cn : Str} {cs : Scope} {fa : Addr} {ccd : Value} {cl : List (Str × Addr)} {outer : List Env} {A₀ : Around} {base h₀ : Heap} {L : Addr} {m : Str → Option Value} {s : Shared}
  {mean : ExcName → Option Value} {mg mb : Str → Option Value} {Q E : Value → Shared → Prop}
theorem isEx_use {t : T} {v : Value} {h : Str} {tk : Tok} {b : Bool} (C : IsExC w) (hv : TIn Y v t.dat) (e : isEx t h = b) (B : Below A₀ base outer h₀) (F : Fr h₀ L s.heap m) (X : (hd.heap_39 w.params).In h₀) (N : News h₀ L s.heap news)
    (Tp : Top hd.view_39 (looseW hd.view_39 [Str.ofString "RowsError"]) mean mg mb h₀) (hk : cs.kind = .function) (hs : ∀ p ∈ Y, p ∈ news)
    (hd : dp + 5 < recursionLimit) (hu : un + 40 < cLine)
    (ret : ∀ h' tk', Fr h₀ L h' m → News h₀ L h' news → Q (.bool b) { s with heap := h', toks := tk' }) :
    wpAny (model PySem.Challenge.rw_pq0689_01.row.prog w) (ktrTop dp un gd cn cs L fa ccd cl outer) (call (.ref 68) [v, .str h tk]) Q E s := by
  refine Con.use (Y := news) (ex := []) (fun _ => C t v h tk ([] ++ news) (TIn.mono (subT_of hs) hv)) ?_ .tail (fun _ h => nomatch h) (fun _ h => nomatch h) B F X N Tp hk hd hu ?_
  · rintro M' X Z r hs ⟨h1, h2⟩
    exact ⟨h1, h2⟩
  · rintro r M' Y₂ h' tk' g F' N' ⟨rfl, rfl⟩
    rw [e]
    exact ret h' tk' F' fun p hp => N' p (g.1 p hp)
end
end

section
-- IsEx
theorem reset_IsEx : True := by
  w_top off
  trivial
local macro_rules | `(tactic| lsm_bools) => `(tactic| first | exact List.Mem.head _ | assumption | (refine' List.Mem.tail _ ?_; lsm_bools) | (refine' GrowT.mem ?g ?h; (case g => assumption); (case h => lsm_bools)) | fail "no entry")
local macro_rules | `(tactic| k_mem) => `(tactic| first | lsm_bools | fail "no entry")
local macro_rules | `(tactic| tb_start) => `(tactic| first
  | exact List.forall_mem_nil _
  | (refine' List.forall_mem_cons.mpr ⟨?a, ?b⟩; (case a => lsm_bools); (case b => tb_start))
  | (intro p hp; repeat (first | exact hp | refine List.mem_cons_of_mem _ ?_ | refine List.Mem.tail _ ?_ | refine GrowT.mem' (by assumption) ?_ | refine GrowT.mem (by assumption) ?_ | fail "no entry"))
  | fail "not within")
local macro_rules | `(tactic| k_all) => `(tactic| first
  | assumption
  | (refine' GrowT.off ?g ?o ?N ?s ?m ?c; (case g => assumption); (case o => k_all); (case N => k_asm); (case s => tb_start); (case m => lsm_bools); (case c => rfl))
  | (refine' offLt ?h ?s; (case h => assumption); (case s => tb_start))
  | fail "not apart")
local macro_rules | `(tactic| k_lt $h:ident) => `(tactic| (have hl9 := $h; replace $h := allLt_of $h; simp only [AllLt, and_true] at $h:ident))
local macro_rules | `(tactic| kqd_sub) => `(tactic| first
  | (refine' Cut.own ?m ?r; (case m => lsm_bools); (case r => kqd_sub))
  | (refine' Cut.oth ?o ?r; (case o => k_all); (case r => kqd_sub))
  | exact Cut.tail
  | fail "no cut")
local macro_rules | `(tactic| ktr_rel) => `(tactic| first
  | exact subT_nil
  | exact subT_of (fun _ hp => hp)
  | assumption
  | (refine' subT_skip ?a ?b; (case a => rfl); (case b => ktr_rel))
  | (refine' subT_cons ?a ?b; (case a => lsm_bools); (case b => ktr_rel))
  | (refine' subT_of ?h; (case h => tb_start))
  | (refine' subT_app ?a ?b; (case a => ktr_rel); (case b => ktr_rel))
  | fail "tuples not within")
local macro_rules | `(tactic| k_room) => `(tactic| ktr_room)
local macro_rules | `(tactic| k_units) => `(tactic| ktr_units)
local macro_rules | `(tactic| tb_rel) => `(tactic| first
  | exact TAll.nil
  | exact TIn.str _ _
  | exact TIn.int _ _
  | exact TIn.bytes _ _
  | assumption
  | (refine' TIn.mono ?s ?h; (case h => assumption); (case s => ktr_rel))
  | (refine' TAll.mono ?s ?h; (case h => assumption); (case s => ktr_rel))
  | (refine' TIn.tuple ?m ?r; (case m => lsm_bools); (case r => tb_rel))
  | (refine' TAll.cons ?h ?t; (case h => tb_rel); (case t => tb_rel))
  | fail "no tree")
local macro_rules | `(tactic| walk_at "compareOp In str ref") => `(tactic| (k_here; k_dflt (refine' in_tupL ?ht ?hi ?_; (case ht => (refine' tupK ?X ?l; (case X => k_in); (case l => k_is))); (case hi => exact rfl))))
local macro_rules | `(tactic| walk_at "compareOp Eq ref ref") => `(tactic| (k_here; k_dflt (first
  | (refine' eq_dat (r := false) ?H ?d1 ?d2 ?hc ?hd ?hu ?_; (case H => exact heldOf (by k_asm)); (case d1 => tb_rel); (case d2 => tb_rel); (case hc => with_unfolding_all rfl); (case hd => exact Nat.le_of_ble_eq_true rfl); (case hu => ktr_units))
  | (refine' eq_dat (r := true) ?H ?d1 ?d2 ?hc ?hd ?hu ?_; (case H => exact heldOf (by k_asm)); (case d1 => tb_rel); (case d2 => tb_rel); (case hc => with_unfolding_all rfl); (case hd => exact Nat.le_of_ble_eq_true rfl); (case hu => ktr_units)))))
local macro_rules | `(tactic| walk_at "compareOp NotEq ref ref") => `(tactic| (k_here; k_dflt (first
  | (refine' ne_dat (r := false) ?H ?d1 ?d2 ?hc ?hd ?hu ?_; (case H => exact heldOf (by k_asm)); (case d1 => tb_rel); (case d2 => tb_rel); (case hc => with_unfolding_all rfl); (case hd => exact Nat.le_of_ble_eq_true rfl); (case hu => ktr_units))
  | (refine' ne_dat (r := true) ?H ?d1 ?d2 ?hc ?hd ?hu ?_; (case H => exact heldOf (by k_asm)); (case d1 => tb_rel); (case d2 => tb_rel); (case hc => with_unfolding_all rfl); (case hd => exact Nat.le_of_ble_eq_true rfl); (case hu => ktr_units)))))
local macro_rules | `(tactic| walk_at "subscriptTail Name Constant ref int") => `(tactic| (k_here; k_dflt (refine' item_tupleT ?t ?a ?b ?c ?d ?_; (case t => exact News.isTup (by k_asm) (by k_mem)); (case a => decide); (case b => decide); (case c => rfl); (case d => rfl); k_whole)))
local macro_rules | `(tactic| walk_at "ite") => `(tactic| (k_closed; k_dflt (first | (refine' ite_pos ?c ?_; (case c => decide)) | (refine' ite_neg ?c ?_; (case c => decide)))))
local macro_rules | `(tactic| walk_at "call type:range cons nil") => `(tactic| (k_here; k_dflt (refine' range1_rows ?F ?N ?_; (case F => k_asm); (case N => k_asm); k_whole; intro h' tk' t1' u1' v1' hR' F' N' hst'; (try k_fold))))
local macro_rules | `(tactic| walk_at "pyIter ref") => `(tactic| (k_here; (with_reducible show wpAny _ _ (pyIter (Value.ref _)) (fun it s₂ => LoopAtV _ _ _ _ _ _ _ _ _ it s₂) _ _); refine' Hold.of ?_))
local macro_rules | `(tactic| walk_at "binaryOp Add ref ref") => `(tactic| (k_here; k_dflt (refine' add_cat ?F ?N ?a ?b ?z ?_; (case F => k_asm); (case N => k_asm); (case a => lsm_bools); (case b => lsm_bools); (case z => (simp only [sizeLine_eq, List.length_cons, List.length_nil]; omega)); k_whole; intro D' h' F' N' l1; (try k_lt l1); (try k_sweep))))
local macro_rules | `(tactic| walk_at "subscriptTail Name Slice ref ref") => `(tactic| (k_here; k_dflt (first
  | (refine' slice_whole ?F ?N ?t ?l ?z ?_ ?hs ?hg; (case F => k_asm); (case N => k_asm); (case t => lsm_bools); (case l => exact Nat.le_of_ble_eq_true rfl); (case z => exact Nat.le_of_ble_eq_true rfl); (case hs => with_unfolding_all rfl); (case hg => (intro _; with_unfolding_all rfl)); k_whole; intro h' F' N'; (try k_sweep))
  | (refine' slice_upto ?F ?N ?t ?l ?z ?_ ?hs ?hg; (case F => k_asm); (case N => k_asm); (case t => lsm_bools); (case l => exact Nat.le_of_ble_eq_true rfl); (case z => exact Nat.le_of_ble_eq_true rfl); (case hs => with_unfolding_all rfl); (case hg => (intro _; with_unfolding_all rfl)); k_whole; intro D' h' F' N' l1; (try k_lt l1); (try k_sweep)))))
local macro_rules | `(tactic| walk_at "subscriptTail Name Slice ref ref") => `(tactic| (k_here; k_dflt
  (refine' slice_from ?F ?N ?t ?o ?l ?z ?_ ?hs ?hg; (case F => k_asm); (case N => k_asm); (case t => lsm_bools); (case o => exact Nat.le_of_ble_eq_true rfl); (case l => (simp only [List.length_cons]; omega)); (case z => (simp only [sizeLine_eq, List.length_cons]; omega)); (case hs => with_unfolding_all rfl); (case hg => (intro _; with_unfolding_all rfl)); k_whole; intro D' h' F' N' l1; (try k_lt l1); (try k_sweep))))
local macro_rules | `(tactic| walk_at "subscriptTail Subscript Name Constant Slice ref ref") => `(tactic| (k_here; k_dflt
  (refine' slice_from ?F ?N ?t ?o ?l ?z ?_ ?hs ?hg; (case F => k_asm); (case N => k_asm); (case t => lsm_bools); (case o => exact Nat.le_of_ble_eq_true rfl); (case l => (simp only [List.length_cons]; omega)); (case z => (simp only [sizeLine_eq, List.length_cons]; omega)); (case hs => with_unfolding_all rfl); (case hg => (intro _; with_unfolding_all rfl)); k_whole; intro D' h' F' N' l1; (try k_lt l1); (try k_sweep))))
local macro_rules | `(tactic| walk_at "call type:tuple cons nil") => `(tactic| (k_here; k_dflt (refine' tuple_of ?F ?N ?t ?z ?_; (case F => k_asm); (case N => k_asm); (case t => lsm_bools); (case z => first | exact Nat.le_of_ble_eq_true rfl | (simp only [sizeLine_eq, List.length_append, List.length_cons, List.length_nil]; omega)); k_whole; intro D' h' F' N' l1; (try k_lt l1); (try k_sweep))))
local macro_rules | `(tactic| walk_at "subscriptTail Name Constant ref int") => `(tactic| (k_here; k_dflt (refine' item_tupI ?N ?m ?a ?b ?c ?_; (case N => k_asm); (case m => lsm_bools); (case a => decide); (case b => decide); (case c => exact rfl); k_whole)))
local macro_rules | `(tactic| walk_at "subscriptTail Subscript Name Constant Constant ref int") => `(tactic| (k_here; k_dflt (refine' item_tupI ?N ?m ?a ?b ?c ?_; (case N => k_asm); (case m => lsm_bools); (case a => decide); (case b => decide); (case c => exact rfl); k_whole)))
local macro_rules | `(tactic| walk_at "subscriptTail Subscript Subscript Constant Constant ref int") => `(tactic| (k_here; k_dflt (refine' item_tupI ?N ?m ?a ?b ?c ?_; (case N => k_asm); (case m => lsm_bools); (case a => decide); (case b => decide); (case c => exact rfl); k_whole)))
local macro_rules | `(tactic| walk_at "subscriptTail Call Name cons nil Constant ref int") => `(tactic| (k_here; k_dflt (refine' item_tupI ?N ?m ?a ?b ?c ?_; (case N => k_asm); (case m => lsm_bools); (case a => decide); (case b => decide); (case c => exact rfl); k_whole)))
local macro_rules | `(tactic| walk_at "binaryOp Add ref ref") => `(tactic| (k_here; k_dflt (refine' add_tupC ?F ?N ?a ?b ?l1 ?l2 ?z ?_; (case F => k_asm); (case N => k_asm); (case a => lsm_bools); (case b => lsm_bools); (case l1 => (simp only [List.length_cons, List.length_nil]; omega)); (case l2 => omega); (case z => (simp only [sizeLine_eq, List.length_cons, List.length_nil]; omega)); k_whole; intro D' h' F' N' l1; (try k_lt l1); (try k_sweep))))
local macro_rules | `(tactic| walk_at "call type:tuple cons nil") => `(tactic| (k_here; k_dflt (refine' tuple_same ?N ?t ?_; (case N => k_asm); (case t => lsm_bools); k_whole)))
local macro_rules | `(tactic| walk_at "call builtin:len cons nil") => `(tactic| (k_here; k_dflt (refine' len_tupK ?N ?t ?z ?_; (case N => k_asm); (case t => lsm_bools); (case z => (simp only [sizeLine_eq, List.length_cons, List.length_nil]; omega)); k_whole; intro tk1' tk2')))
set_option maxHeartbeats 8000000 in
theorem isEx_con (w : World) : IsExC w := by
  intro t v h0 tk0 Y hv
  refine Con.intro ?_
  intro dp un gd cn cs fa ccd cl outer A₀ base h₀ L m s mean mg mb Q E B F X N Tp hk hd hu fin
  simp only [List.nil_append] at N
  refine wpAny_call ?_
  cases t with
  | sym x =>
    obtain ⟨a, n, t5, t6, rfl, hm⟩ := sym_inv hv
    w_strict (
      k_dflt ktr_enter
      k_steps)
    exact fin [] _ _ _ _ (by k_asm) (by k_asm) (List.forall_mem_nil _) (by tb_start) (fun Y₁ hs => ⟨rfl, rfl⟩)
  | int x =>
    obtain ⟨a, n, t5, t6, rfl, hm⟩ := int_inv hv
    w_strict (
      k_dflt ktr_enter
      k_steps)
    exact fin [] _ _ _ _ (by k_asm) (by k_asm) (List.forall_mem_nil _) (by tb_start) (fun Y₁ hs => ⟨rfl, rfl⟩)
  | text x =>
    obtain ⟨a, n, t5, t6, rfl, hm⟩ := text_inv hv
    w_strict (
      k_dflt ktr_enter
      k_steps)
    exact fin [] _ _ _ _ (by k_asm) (by k_asm) (List.forall_mem_nil _) (by tb_start) (fun Y₁ hs => ⟨rfl, rfl⟩)
  | ex x ps =>
    obtain ⟨a, n, t5, t6, b, vs, k, rfl, hm, hm2, hT⟩ := ex_inv hv
    w_strict (
      k_dflt ktr_enter
      k_steps)
    exact fin [] _ _ _ _ (by k_asm) (by k_asm) (List.forall_mem_nil _) (by tb_start) (fun Y₁ hs => ⟨rfl, rfl⟩)
end

section
-- BodyDef
def calB (c : T) (k : Nat) : T := if isSymT c then c else .sym (dotN ((k : Int) + 1))
def calL (c : T) : List T := if isSymT c then [] else [c]
mutual
def bodyT : T → Nat → T
  | .sym _, k => .sym (dotN ((k : Int) + 1))
  | .int i, _ => .int i
  | .text b, _ => .text b
  | .ex h ps, k => if h = kS "dotcall" then (match ps with | [] => .int 0 | c :: r => .ex (kS "call") (calB c k :: bodyTs r (k + (calL c).length))) else .sym (dotN ((k : Int) + 1))
def bodyTs : List T → Nat → List T
  | [], _ => []
  | t :: r, k => bodyT t k :: bodyTs r (k + (thingsT t).length)
end
theorem bodyTs_snoc : ∀ (xs : List T) (t : T) (k : Nat), bodyTs (xs ++ [t]) k = bodyTs xs k ++ [bodyT t (k + (thingsTs xs).length)]
  | [], t, k => rfl
  | x :: xs, t, k => by
    simp only [List.cons_append, bodyTs, thingsTs, List.length_append, bodyTs_snoc xs t, Nat.add_assoc]
theorem bodyTs_len : ∀ (xs : List T) (k : Nat), (bodyTs xs k).length = xs.length
  | [], _ => rfl
  | x :: xs, k => by simp only [bodyTs, List.length_cons, bodyTs_len xs]
theorem body_leaf {t : T} (h : LeafK t) (k : Nat) : bodyT t k = leafB t k := by
  cases h with
  | sym => rfl
  | int => rfl
  | text => rfl
  | ex h ps h1 => unfold bodyT; rw [if_neg h1]; rfl
/-- the contract of a Fuser's method: t is put aside as far as it must, b t k comes back -/
def FuseC (w : World) (f : Addr) (dd uu : Nat) (Ok : T → Prop) (L : T → List T) (b : T → Nat → T) : Prop :=
  ∀ (fz fd sz sd nz lz : Addr) (t : T) (v : Value) (ls : List T) (t4 tk : Tok) (xs : Array Value) (n3 : Nat) (ys : Array Value) (n4 : Nat) (Y : List (Addr × Obj)), Ok t → @Ne Nat nz lz → ls.length + (L t).length ≤ 60 → TIn Y v t.dat → FuserIn w Y fz fd sz sd nz lz → FSt w sd nz lz ls t4 tk xs n3 ys n4 Y →
  (∀ q ∈ stM w sd nz lz (ls.length : Int) t4 tk xs n3 ys n4, ∀ p ∈ Y, p.1 ≠ q.1) →
  Con w f [.ref fz, v] dd uu (stM w sd nz lz (ls.length : Int) t4 tk xs n3 ys n4) Y (FPost w sd nz lz (ls ++ L t) (b t ls.length))
theorem leaf_fuse {w : World} (C : LeafC w) : FuseC w 108 12 100 LeafK thingsT leafB :=
  fun fz fd sz sd nz lz t v ls t4 tk xs n3 ys n4 Y hK hne hl hv hF hst ho => C fz fd sz sd nz lz t v ls t4 tk xs n3 ys n4 Y hK hne (by omega) hv hF hst ho
section
variable {w : World} {Y news ex : List (Addr × Obj)}
  {dp un : Nat} {gd : Option (List Code)} {cn : Str} {cs : Scope} {fa : Addr} {ccd : Value} {cl : List (Str × Addr)} {outer : List Env} {A₀ : Around} {base h₀ : Heap} {L0 : Addr} {m : Str → Option Value} {s : Shared}
  {mean : ExcName → Option Value} {mg mb : Str → Option Value} {Q E : Value → Shared → Prop}
theorem fuse_use {f : Addr} {dd uu : Nat} {Ok : T → Prop} {L : T → List T} {b : T → Nat → T} {fz fd sz sd nz lz : Addr} {t : T} {v : Value} {ls : List T} {t4 tk : Tok} {xs : Array Value} {n3 : Nat} {ys : Array Value} {n4 : Nat}
    (C : FuseC w f dd uu Ok L b) (ho : Ok t) (hv : TIn Y v t.dat) (hF : FuserIn w Y fz fd sz sd nz lz) (hst : FSt w sd nz lz ls t4 tk xs n3 ys n4 Y) (hne : @Ne Nat nz lz) (hlen : ls.length + (L t).length ≤ 60)
    (hm : ∀ p ∈ stM w sd nz lz (ls.length : Int) t4 tk xs n3 ys n4, p ∈ news) (hc : Cut (stM w sd nz lz (ls.length : Int) t4 tk xs n3 ys n4) Y news ex) (y1 : ∀ p ∈ Y, p.1 ≠ sd) (y2 : ∀ p ∈ Y, p.1 ≠ nz) (y3 : ∀ p ∈ Y, p.1 ≠ lz)
    (B : Below A₀ base outer h₀) (F : Fr h₀ L0 s.heap m) (X : (hd.heap_39 w.params).In h₀) (N : News h₀ L0 s.heap news)
    (Tp : Top hd.view_39 (looseW hd.view_39 [Str.ofString "RowsError"]) mean mg mb h₀) (hk : cs.kind = .function)
    (hd : dp + dd < recursionLimit) (hu : un + uu < cLine)
    (ret : ∀ r t4 tk xs n3 ys n4 Y₂ h' tk', GrowT Y Y₂ → Fr h₀ L0 h' m → News h₀ L0 h' (stM w sd nz lz ((ls ++ L t).length : Int) t4 tk xs n3 ys n4 ++ (ex ++ Y₂)) → FSt w sd nz lz (ls ++ L t) t4 tk xs n3 ys n4 Y₂ → TIn Y₂ r (b t ls.length).dat → Q r { s with heap := h', toks := tk' }) :
    wpAny (model PySem.Challenge.rw_pq0689_01.row.prog w) (ktrTop dp un gd cn cs L0 fa ccd cl outer) (call (.ref f) [.ref fz, v]) Q E s := by
  have hy : ∀ q ∈ stM w sd nz lz (ls.length : Int) t4 tk xs n3 ys n4, ∀ p ∈ Y, p.1 ≠ q.1 := by
    intro q hq
    simp only [List.mem_cons, List.not_mem_nil, or_false] at hq
    rcases hq with rfl | rfl | rfl
    · exact y1
    · exact y2
    · exact y3
  refine Con.use (ex := ex) (fun ho' => C fz fd sz sd nz lz t v ls t4 tk xs n3 ys n4 (ex ++ Y) ho hne hlen (TIn.mono (fun p h _ => List.mem_append.mpr (.inr h)) hv) (hF.mono fun p h => List.mem_append.mpr (.inr h)) (hst.mono fun p h _ => List.mem_append.mpr (.inr h)) ho') ?_ hc hm hy B F X N Tp hk hd hu ?_
  · rintro M' X Z r hs ⟨t4, tk, xs, n3, ys, n4, h1, h2, h3⟩
    exact ⟨t4, tk, xs, n3, ys, n4, h1, h2.mono hs, h3.mono hs⟩
  · rintro r M' Y₂ h' tk' g F' N' ⟨t4, tk, xs, n3, ys, n4, rfl, h2, h3⟩
    exact ret r t4 tk xs n3 ys n4 Y₂ h' tk' g F' N' h2 h3
end
theorem thingsTs_take_le (ps : List T) {i : Nat} {p : T} (hp : ps[i]? = some p) : (thingsTs (ps.take i)).length + (thingsT p).length ≤ (thingsTs ps).length := by
  have h1 : thingsTs (ps.take (i + 1)) = thingsTs (ps.take i) ++ thingsT p := by rw [take_snoc hp, thingsTs_append]; simp [thingsTs]
  have h2 : thingsTs ps = thingsTs (ps.take (i + 1)) ++ thingsTs (ps.drop (i + 1)) := by rw [← thingsTs_append, List.take_append_drop]
  rw [h2, h1]
  simp only [List.length_append]
  omega
open LCg
/-- between the turns of a comprehension that calls a Fuser -/
def FuseJ (w : World) (sd nz lz : Addr) (ls1 ps : List T) (Yb : List (Addr × Obj)) (i : Nat) (ys : List Value) (news : List (Addr × Obj)) : Prop :=
  ∃ t4 tk xs n3 ys4 n4 nw, news = stM w sd nz lz ((ls1 ++ thingsTs (ps.take i)).length : Int) t4 tk xs n3 ys4 n4 ++ nw ∧ FSt w sd nz lz (ls1 ++ thingsTs (ps.take i)) t4 tk xs n3 ys4 n4 nw ∧ (∀ q ∈ Yb, q ∈ nw) ∧ TAll nw ys (T.dats (bodyTs (ps.take i) ls1.length)) ∧
    (∀ q ∈ nw, q.1 ≠ sd) ∧ (∀ q ∈ nw, q.1 ≠ nz) ∧ (∀ q ∈ nw, q.1 ≠ lz)
section
variable {prog : Program} {w : World} {A : Around} {E : Value → Shared → Prop} {h₀ : Heap} {L : Addr} {m : Str → Option Value} {env : Env}
theorem csrc_fuse {sd nz lz : Addr} {ls1 : List T} {t4 tk : Tok} {xs : Array Value} {n3 : Nat} {ys4 : Array Value} {n4 : Nat} {elt : Expr} {x : Str} {scope : Scope} {cl : List (Str × Addr)} {Q : Value → Shared → Prop} {ax : Addr} {vs : List Value} {k : Nat} {news Y ex : List (Addr × Obj)} {s₁ : Shared} {ps : List T}
    (F : Fr h₀ L s₁.heap m) (N : News h₀ L s₁.heap news) (hm : ∀ p ∈ stM w sd nz lz (ls1.length : Int) t4 tk xs n3 ys4 n4, p ∈ news) (hc : Cut (stM w sd nz lz (ls1.length : Int) t4 tk xs n3 ys4 n4) Y news ex) (y1 : ∀ p ∈ Y, p.1 ≠ sd) (y2 : ∀ p ∈ Y, p.1 ≠ nz) (y3 : ∀ p ∈ Y, p.1 ≠ lz)
    (hst : FSt w sd nz lz ls1 t4 tk xs n3 ys4 n4 Y) (hax : (ax, tupObj vs k) ∈ ex ++ Y) (hz : vs.length ≤ sizeLine) (hT : TAll Y vs (T.dats ps))
    (turn : ∀ (i : Nat) (ys : List Value) (nw : List (Addr × Obj)) (v : Value) (p : T) (I : Addr) (oI : Obj) (C : Addr) (oC : Obj) (D : Addr) (m₂ : Str → Option Value) (h : Heap) (tk' : Nat) (t4 tk : Tok) (xs : Array Value) (n3 : Nat) (ys4 : Array Value) (n4 : Nat), ps[i]? = some p → (∀ q ∈ ex ++ Y, q ∈ nw) → TIn nw v p.dat → TAll nw ys (T.dats (bodyTs (ps.take i) ls1.length)) →
      FSt w sd nz lz (ls1 ++ thingsTs (ps.take i)) t4 tk xs n3 ys4 n4 nw → (∀ q ∈ nw, q.1 ≠ sd) → (∀ q ∈ nw, q.1 ≠ nz) → (∀ q ∈ nw, q.1 ≠ lz) → isTupB oI = false → NsObj oC m₂ → m₂ x = some v → Fr h₀ L h m →
      News h₀ L h ((I, oI) :: (C, oC) :: (D, lst ys) :: (stM w sd nz lz ((ls1 ++ thingsTs (ps.take i)).length : Int) t4 tk xs n3 ys4 n4 ++ nw)) → Off3 I C D (stM w sd nz lz ((ls1 ++ thingsTs (ps.take i)).length : Int) t4 tk xs n3 ys4 n4 ++ nw) → ((@Ne Nat I C) ∧ (@Ne Nat I D) ∧ (@Ne Nat C D)) →
      wpAny (model prog w) A (eval elt (compEnvC scope cl C env)) (CompEnd h₀ L m { s₁ with heap := h, toks := tk' } I oI C oC D (lst ys) (SrcK ax vs k) (fun y nw' => FuseJ w sd nz lz ls1 ps (ex ++ Y) (i + 1) (ys ++ [y]) nw')) (CErr prog w A E Q scope cl env C D) { s₁ with heap := h, toks := tk' })
    (fin : ∀ (ys : List Value) (nw : List (Addr × Obj)) (D : Addr) (h : Heap) (tk' : Nat) (t4 tk : Tok) (xs : Array Value) (n3 : Nat) (ys4 : Array Value) (n4 : Nat), (∀ q ∈ ex ++ Y, q ∈ nw) → TAll nw ys (T.dats (bodyTs ps ls1.length)) → FSt w sd nz lz (ls1 ++ thingsTs ps) t4 tk xs n3 ys4 n4 nw →
      (∀ q ∈ nw, q.1 ≠ sd) → (∀ q ∈ nw, q.1 ≠ nz) → (∀ q ∈ nw, q.1 ≠ lz) → Fr h₀ L h m → News h₀ L h ((D, lst ys) :: (stM w sd nz lz ((ls1 ++ thingsTs ps).length : Int) t4 tk xs n3 ys4 n4 ++ nw)) → Q (.ref D) { s₁ with heap := h, toks := tk' }) :
    CSrcT prog w A h₀ L m env elt x scope cl E Q (.ref ax) s₁ := by
  have sub : ∀ p ∈ stM w sd nz lz (ls1.length : Int) t4 tk xs n3 ys4 n4 ++ (ex ++ Y), p ∈ news := fun p hp => (List.mem_append.mp hp).elim (hm p) (hc.sub p)
  have apart : ∀ q ∈ stM w sd nz lz (ls1.length : Int) t4 tk xs n3 ys4 n4, (∀ p ∈ Y, p.1 ≠ q.1) → ∀ p ∈ ex ++ Y, p.1 ≠ q.1 := fun q hq hy p hp => (List.mem_append.mp hp).elim (fun h => (hc.off p h q hq).symm) (hy p)
  refine csrc (FuseJ w sd nz lz ls1 ps (ex ++ Y)) F (fun p hp => N p (sub p hp)) (List.mem_append.mpr (.inr hax)) hz
    ⟨t4, tk, xs, n3, ys4, n4, ex ++ Y, by simp [thingsTs], by simpa [thingsTs] using hst.mono fun p h _ => List.mem_append.mpr (.inr h), fun _ h => h, .nil, apart _ (.head _) y1, apart _ (.tail _ (.head _)) y2, apart _ (.tail _ (.tail _ (.head _))) y3⟩ ?_ ?_
  · rintro i ys news' v I oI C oC D m₂ h tk' ⟨t4, tk, xs, n3, ys4, n4, nw, rfl, j1, j2, j3, j4, j5, j6⟩ hS hv hoI hoC hx F' N' off ne
    obtain ⟨p, hp, hpv⟩ := TAll.get hT hv
    exact turn i ys nw v p I oI C oC D m₂ h tk' t4 tk xs n3 ys4 n4 hp j2 (TIn.mono (fun q h _ => j2 q (List.mem_append.mpr (.inr h))) hpv) j3 j1 j4 j5 j6 hoI hoC hx F' N' off ne
  · rintro ys news' D h tk' ⟨t4, tk, xs, n3, ys4, n4, nw, rfl, j1, j2, j3, j4, j5, j6⟩ F' N' o1
    rw [take_full hT] at j1 j3 N'
    exact fin ys nw D h tk' t4 tk xs n3 ys4 n4 j2 j3 j1 j4 j5 j6 F' N'
theorem fuse_end {h' : Heap} {I C D ax sd nz lz : Addr} {s₁ : Shared} {oI oC : Obj} {ys vs : List Value} {k tk' i : Nat} {y : Value} {p : T} {ls1 ps : List T} {messy nw Y₂ Yb : List (Addr × Obj)} {q4 : Int} {t4 tk : Tok} {xs : Array Value} {n3 : Nat} {ys4 : Array Value} {n4 : Nat} {t4' tk4' : Tok} {xs' : Array Value} {n3' : Nat} {ys4' : Array Value} {n4' : Nat}
    (F : Fr h₀ L h' m) (N : News h₀ L h' messy) (hI : (I, oI) ∈ messy) (hC : (C, oC) ∈ messy) (hD : (D, lst ys) ∈ messy) (hM : ∀ z ∈ stM w sd nz lz ((ls1 ++ thingsTs (ps.take i) ++ thingsT p).length : Int) t4' tk4' xs' n3' ys4' n4', z ∈ messy) (hY : ∀ p ∈ Y₂, p ∈ messy) (g : GrowT nw Y₂)
    (off : Off3 I C D (stM w sd nz lz q4 t4 tk xs n3 ys4 n4 ++ nw)) (hoI : isTupB oI = false) (hoC : isTupB oC = false) (hS : SrcK ax vs k nw)
    (hp : ps[i]? = some p) (hsub : ∀ q ∈ Yb, q ∈ nw) (hT : TAll nw ys (T.dats (bodyTs (ps.take i) ls1.length))) (hst : FSt w sd nz lz (ls1 ++ thingsTs (ps.take i) ++ thingsT p) t4' tk4' xs' n3' ys4' n4' Y₂) (hr : TIn Y₂ y (bodyT p (ls1 ++ thingsTs (ps.take i)).length).dat)
    (y1 : ∀ q ∈ nw, q.1 ≠ sd) (y2 : ∀ q ∈ nw, q.1 ≠ nz) (y3 : ∀ q ∈ nw, q.1 ≠ lz) :
    CompEnd h₀ L m s₁ I oI C oC D (lst ys) (SrcK ax vs k) (fun y nw' => FuseJ w sd nz lz ls1 ps Yb (i + 1) (ys ++ [y]) nw') y { s₁ with heap := h', toks := tk' } := by
  have o3 := off.mem
  have e : thingsTs (ps.take (i + 1)) = thingsTs (ps.take i) ++ thingsT p := by rw [take_snoc hp, thingsTs_append]; simp [thingsTs]
  have grow : ∀ {a : Addr} {o : Obj}, (∀ p ∈ nw, p.1 ≠ a) → (a, o) ∈ messy → isTupB o = false → ∀ p ∈ Y₂, p.1 ≠ a := fun hy ha ho => GrowT.off g hy N hY ha ho
  have offM : ∀ (a : Addr), (∀ p ∈ stM w sd nz lz q4 t4 tk xs n3 ys4 n4 ++ nw, p.1 ≠ a) → ∀ z ∈ stM w sd nz lz ((ls1 ++ thingsTs (ps.take i) ++ thingsT p).length : Int) t4' tk4' xs' n3' ys4' n4', z.1 ≠ a := by
    intro a ha q hq
    simp only [List.mem_cons, List.not_mem_nil, or_false] at hq
    rcases hq with rfl | rfl | rfl
    · exact (ha (sd, dictOf [attrE w "many" t4 (.int q4 tk)] 1) (by simp) :)
    · exact (ha (nz, listOf xs n3) (by simp) :)
    · exact (ha (lz, listOf ys4 n4) (by simp) :)
  have offAll : ∀ {a : Addr} {o : Obj}, (∀ p ∈ stM w sd nz lz q4 t4 tk xs n3 ys4 n4 ++ nw, p.1 ≠ a) → (a, o) ∈ messy → isTupB o = false → ∀ q ∈ stM w sd nz lz ((ls1 ++ thingsTs (ps.take i) ++ thingsT p).length : Int) t4' tk4' xs' n3' ys4' n4' ++ Y₂, q.1 ≠ a := by
    intro a o ha hm ho q hq
    rcases List.mem_append.mp hq with hq | hq
    · exact offM a ha q hq
    · exact grow (fun p hp => ha p (List.mem_append.mpr (.inr hp))) hm ho q hq
  refine CompEnd.intro F N (stM w sd nz lz ((ls1 ++ thingsTs (ps.take i) ++ thingsT p).length : Int) t4' tk4' xs' n3' ys4' n4' ++ Y₂) (fun q hq => ?_)
    (Off3.of fun q hq => ⟨offAll (fun p hp => (o3 p hp).1) hI hoI q hq, offAll (fun p hp => (o3 p hp).2.1) hC hoC q hq, offAll (fun p hp => (o3 p hp).2.2) hD rfl q hq⟩)
    (List.mem_append.mpr (.inr (g.1 _ hS))) ⟨t4', tk4', xs', n3', ys4', n4', Y₂, ?_, ?_, fun q hq => g.1 q (hsub q hq), ?_, ?_, ?_, ?_⟩
  · simp only [List.mem_cons, List.mem_append] at hq
    rcases hq with rfl | rfl | rfl | hq | hq
    · exact hI
    · exact hC
    · exact hD
    · exact hM q (by simpa using hq)
    · exact hY q hq
  · rw [e, List.append_assoc]
  · rw [e, ← List.append_assoc]; exact hst
  · rw [take_snoc hp, bodyTs_snoc, ← List.length_append]
    exact TAll.snoc (TAll.mono (subT_of g.1) hT) hr
  · exact grow y1 (hM _ (.head _)) rfl
  · exact grow y2 (hM _ (.tail _ (.head _))) rfl
  · exact grow y3 (hM _ (.tail _ (.tail _ (.head _)))) rfl
end

theorem sub3 {a b c : Addr × Obj} {Y Z : List (Addr × Obj)} (h : ∀ q ∈ [a, b, c] ++ Y, q ∈ Z) : ∀ q ∈ Y, q ∈ Z := fun q hq => h q (.tail _ (.tail _ (.tail _ hq)))
end

section
-- Callee
theorem reset_Callee : True := by
  w_top off
  trivial
local macro_rules | `(tactic| lsm_bools) => `(tactic| first | exact List.Mem.head _ | assumption | (refine' List.Mem.tail _ ?_; lsm_bools) | (refine' GrowT.mem ?g ?h; (case g => assumption); (case h => lsm_bools)) | fail "no entry")
local macro_rules | `(tactic| k_mem) => `(tactic| first | lsm_bools | fail "no entry")
local macro_rules | `(tactic| tb_start) => `(tactic| first
  | exact List.forall_mem_nil _
  | (refine' List.forall_mem_cons.mpr ⟨?a, ?b⟩; (case a => lsm_bools); (case b => tb_start))
  | (intro p hp; repeat (first | exact hp | refine List.mem_cons_of_mem _ ?_ | refine List.Mem.tail _ ?_ | refine GrowT.mem' (by assumption) ?_ | refine GrowT.mem (by assumption) ?_ | fail "no entry"))
  | fail "not within")
local macro_rules | `(tactic| k_all) => `(tactic| first
  | assumption
  | (refine' GrowT.off ?g ?o ?N ?s ?m ?c; (case g => assumption); (case o => k_all); (case N => k_asm); (case s => tb_start); (case m => lsm_bools); (case c => rfl))
  | (refine' offLt ?h ?s; (case h => assumption); (case s => tb_start))
  | fail "not apart")
local macro_rules | `(tactic| k_lt $h:ident) => `(tactic| (have hl9 := $h; replace $h := allLt_of $h; simp only [AllLt, and_true] at $h:ident))
local macro_rules | `(tactic| kqd_sub) => `(tactic| first
  | (refine' Cut.own ?m ?r; (case m => lsm_bools); (case r => kqd_sub))
  | (refine' Cut.oth ?o ?r; (case o => k_all); (case r => kqd_sub))
  | exact Cut.tail
  | fail "no cut")
local macro_rules | `(tactic| ktr_rel) => `(tactic| first
  | exact subT_nil
  | exact subT_of (fun _ hp => hp)
  | assumption
  | (refine' subT_skip ?a ?b; (case a => rfl); (case b => ktr_rel))
  | (refine' subT_cons ?a ?b; (case a => lsm_bools); (case b => ktr_rel))
  | (refine' subT_of ?h; (case h => tb_start))
  | (refine' subT_app ?a ?b; (case a => ktr_rel); (case b => ktr_rel))
  | fail "tuples not within")
local macro_rules | `(tactic| k_room) => `(tactic| ktr_room)
local macro_rules | `(tactic| k_units) => `(tactic| ktr_units)
local macro_rules | `(tactic| tb_rel) => `(tactic| first
  | exact TAll.nil
  | exact TIn.str _ _
  | exact TIn.int _ _
  | exact TIn.bytes _ _
  | assumption
  | (refine' TIn.mono ?s ?h; (case h => assumption); (case s => ktr_rel))
  | (refine' TAll.mono ?s ?h; (case h => assumption); (case s => ktr_rel))
  | (refine' TIn.tuple ?m ?r; (case m => lsm_bools); (case r => tb_rel))
  | (refine' TAll.cons ?h ?t; (case h => tb_rel); (case t => tb_rel))
  | fail "no tree")
local macro_rules | `(tactic| walk_at "compareOp In str ref") => `(tactic| (k_here; k_dflt (refine' in_tupL ?ht ?hi ?_; (case ht => (refine' tupK ?X ?l; (case X => k_in); (case l => k_is))); (case hi => exact rfl))))
local macro_rules | `(tactic| walk_at "compareOp Eq ref ref") => `(tactic| (k_here; k_dflt (first
  | (refine' eq_dat (r := false) ?H ?d1 ?d2 ?hc ?hd ?hu ?_; (case H => exact heldOf (by k_asm)); (case d1 => tb_rel); (case d2 => tb_rel); (case hc => with_unfolding_all rfl); (case hd => exact Nat.le_of_ble_eq_true rfl); (case hu => ktr_units))
  | (refine' eq_dat (r := true) ?H ?d1 ?d2 ?hc ?hd ?hu ?_; (case H => exact heldOf (by k_asm)); (case d1 => tb_rel); (case d2 => tb_rel); (case hc => with_unfolding_all rfl); (case hd => exact Nat.le_of_ble_eq_true rfl); (case hu => ktr_units)))))
local macro_rules | `(tactic| walk_at "compareOp NotEq ref ref") => `(tactic| (k_here; k_dflt (first
  | (refine' ne_dat (r := false) ?H ?d1 ?d2 ?hc ?hd ?hu ?_; (case H => exact heldOf (by k_asm)); (case d1 => tb_rel); (case d2 => tb_rel); (case hc => with_unfolding_all rfl); (case hd => exact Nat.le_of_ble_eq_true rfl); (case hu => ktr_units))
  | (refine' ne_dat (r := true) ?H ?d1 ?d2 ?hc ?hd ?hu ?_; (case H => exact heldOf (by k_asm)); (case d1 => tb_rel); (case d2 => tb_rel); (case hc => with_unfolding_all rfl); (case hd => exact Nat.le_of_ble_eq_true rfl); (case hu => ktr_units)))))
local macro_rules | `(tactic| walk_at "subscriptTail Name Constant ref int") => `(tactic| (k_here; k_dflt (refine' item_tupleT ?t ?a ?b ?c ?d ?_; (case t => exact News.isTup (by k_asm) (by k_mem)); (case a => decide); (case b => decide); (case c => rfl); (case d => rfl); k_whole)))
local macro_rules | `(tactic| walk_at "ite") => `(tactic| (k_closed; k_dflt (first | (refine' ite_pos ?c ?_; (case c => decide)) | (refine' ite_neg ?c ?_; (case c => decide)))))
local macro_rules | `(tactic| walk_at "call type:range cons nil") => `(tactic| (k_here; k_dflt (refine' range1_rows ?F ?N ?_; (case F => k_asm); (case N => k_asm); k_whole; intro h' tk' t1' u1' v1' hR' F' N' hst'; (try k_fold))))
local macro_rules | `(tactic| walk_at "pyIter ref") => `(tactic| (k_here; (with_reducible show wpAny _ _ (pyIter (Value.ref _)) (fun it s₂ => LoopAtV _ _ _ _ _ _ _ _ _ it s₂) _ _); refine' Hold.of ?_))
local macro_rules | `(tactic| walk_at "binaryOp Add ref ref") => `(tactic| (k_here; k_dflt (refine' add_cat ?F ?N ?a ?b ?z ?_; (case F => k_asm); (case N => k_asm); (case a => lsm_bools); (case b => lsm_bools); (case z => (simp only [sizeLine_eq, List.length_cons, List.length_nil]; omega)); k_whole; intro D' h' F' N' l1; (try k_lt l1); (try k_sweep))))
local macro_rules | `(tactic| walk_at "subscriptTail Name Slice ref ref") => `(tactic| (k_here; k_dflt (first
  | (refine' slice_whole ?F ?N ?t ?l ?z ?_ ?hs ?hg; (case F => k_asm); (case N => k_asm); (case t => lsm_bools); (case l => exact Nat.le_of_ble_eq_true rfl); (case z => exact Nat.le_of_ble_eq_true rfl); (case hs => with_unfolding_all rfl); (case hg => (intro _; with_unfolding_all rfl)); k_whole; intro h' F' N'; (try k_sweep))
  | (refine' slice_upto ?F ?N ?t ?l ?z ?_ ?hs ?hg; (case F => k_asm); (case N => k_asm); (case t => lsm_bools); (case l => exact Nat.le_of_ble_eq_true rfl); (case z => exact Nat.le_of_ble_eq_true rfl); (case hs => with_unfolding_all rfl); (case hg => (intro _; with_unfolding_all rfl)); k_whole; intro D' h' F' N' l1; (try k_lt l1); (try k_sweep)))))
local macro_rules | `(tactic| walk_at "subscriptTail Name Slice ref ref") => `(tactic| (k_here; k_dflt
  (refine' slice_from ?F ?N ?t ?o ?l ?z ?_ ?hs ?hg; (case F => k_asm); (case N => k_asm); (case t => lsm_bools); (case o => exact Nat.le_of_ble_eq_true rfl); (case l => (simp only [List.length_cons]; omega)); (case z => (simp only [sizeLine_eq, List.length_cons]; omega)); (case hs => with_unfolding_all rfl); (case hg => (intro _; with_unfolding_all rfl)); k_whole; intro D' h' F' N' l1; (try k_lt l1); (try k_sweep))))
local macro_rules | `(tactic| walk_at "subscriptTail Subscript Name Constant Slice ref ref") => `(tactic| (k_here; k_dflt
  (refine' slice_from ?F ?N ?t ?o ?l ?z ?_ ?hs ?hg; (case F => k_asm); (case N => k_asm); (case t => lsm_bools); (case o => exact Nat.le_of_ble_eq_true rfl); (case l => (simp only [List.length_cons]; omega)); (case z => (simp only [sizeLine_eq, List.length_cons]; omega)); (case hs => with_unfolding_all rfl); (case hg => (intro _; with_unfolding_all rfl)); k_whole; intro D' h' F' N' l1; (try k_lt l1); (try k_sweep))))
local macro_rules | `(tactic| walk_at "call type:tuple cons nil") => `(tactic| (k_here; k_dflt (refine' tuple_of ?F ?N ?t ?z ?_; (case F => k_asm); (case N => k_asm); (case t => lsm_bools); (case z => first | exact Nat.le_of_ble_eq_true rfl | (simp only [sizeLine_eq, List.length_append, List.length_cons, List.length_nil]; omega)); k_whole; intro D' h' F' N' l1; (try k_lt l1); (try k_sweep))))
local macro_rules | `(tactic| walk_at "subscriptTail Name Constant ref int") => `(tactic| (k_here; k_dflt (refine' item_tupI ?N ?m ?a ?b ?c ?_; (case N => k_asm); (case m => lsm_bools); (case a => decide); (case b => decide); (case c => exact rfl); k_whole)))
local macro_rules | `(tactic| walk_at "subscriptTail Subscript Name Constant Constant ref int") => `(tactic| (k_here; k_dflt (refine' item_tupI ?N ?m ?a ?b ?c ?_; (case N => k_asm); (case m => lsm_bools); (case a => decide); (case b => decide); (case c => exact rfl); k_whole)))
local macro_rules | `(tactic| walk_at "subscriptTail Subscript Subscript Constant Constant ref int") => `(tactic| (k_here; k_dflt (refine' item_tupI ?N ?m ?a ?b ?c ?_; (case N => k_asm); (case m => lsm_bools); (case a => decide); (case b => decide); (case c => exact rfl); k_whole)))
local macro_rules | `(tactic| walk_at "subscriptTail Call Name cons nil Constant ref int") => `(tactic| (k_here; k_dflt (refine' item_tupI ?N ?m ?a ?b ?c ?_; (case N => k_asm); (case m => lsm_bools); (case a => decide); (case b => decide); (case c => exact rfl); k_whole)))
local macro_rules | `(tactic| walk_at "binaryOp Add ref ref") => `(tactic| (k_here; k_dflt (refine' add_tupC ?F ?N ?a ?b ?l1 ?l2 ?z ?_; (case F => k_asm); (case N => k_asm); (case a => lsm_bools); (case b => lsm_bools); (case l1 => (simp only [List.length_cons, List.length_nil]; omega)); (case l2 => omega); (case z => (simp only [sizeLine_eq, List.length_cons, List.length_nil]; omega)); k_whole; intro D' h' F' N' l1; (try k_lt l1); (try k_sweep))))
local macro_rules | `(tactic| walk_at "call type:tuple cons nil") => `(tactic| (k_here; k_dflt (refine' tuple_same ?N ?t ?_; (case N => k_asm); (case t => lsm_bools); k_whole)))
local macro_rules | `(tactic| walk_at "call builtin:len cons nil") => `(tactic| (k_here; k_dflt (refine' len_tupK ?N ?t ?z ?_; (case N => k_asm); (case t => lsm_bools); (case z => (simp only [sizeLine_eq, List.length_cons, List.length_nil]; omega)); k_whole; intro tk1' tk2')))
local macro_rules | `(tactic| walk_at "call ref") => `(tactic| (k_here; (with_reducible show wpAny _ _ (call (Value.ref 108) [Value.ref _, _] _) _ _ _); k_dflt (refine' fuse_use (f := 108) ?C ?ho ?hv ?hF ?hst ?hne ?hlen ?hm ?hc ?y1 ?y2 ?y3 ?B ?F ?X ?N ?T ?hk ?hd ?hu ?_; (case C => assumption); (case hv => assumption); (case ho => assumption); (case hF => assumption); (case hst => assumption); (case hne => assumption); (case hlen => first | assumption | omega); (case B => k_asm); (case F => k_asm); (case X => k_asm); (case N => k_asm); (case T => k_asm); (case hk => first | rfl | assumption); (case hm => tb_start); (case hc => kqd_sub); (case y1 => k_all); (case y2 => k_all); (case y3 => k_all); (case hd => ktr_room); (case hu => ktr_units); k_whole; intro r' t4' tk4' xs' n3' ys' n4' Y' h' tk' g' F' N' hst' hr'; (try simp only [List.cons_append, List.nil_append] at N'); (try k_fold))))
local macro_rules | `(tactic| walk_at "call ref") => `(tactic| (k_here; (with_reducible show wpAny _ _ (call (Value.ref 115) [Value.ref _, _] _) _ _ _); k_dflt (refine' fuse_use (f := 115) ?C ?ho ?hv ?hF ?hst ?hne ?hlen ?hm ?hc ?y1 ?y2 ?y3 ?B ?F ?X ?N ?T ?hk ?hd ?hu ?_; (case C => assumption); (case hv => assumption); (case ho => assumption); (case hF => assumption); (case hst => assumption); (case hne => assumption); (case hlen => first | assumption | omega); (case B => k_asm); (case F => k_asm); (case X => k_asm); (case N => k_asm); (case T => k_asm); (case hk => first | rfl | assumption); (case hm => tb_start); (case hc => kqd_sub); (case y1 => k_all); (case y2 => k_all); (case y3 => k_all); (case hd => ktr_room); (case hu => ktr_units); k_whole; intro r' t4' tk4' xs' n3' ys' n4' Y' h' tk' g' F' N' hst' hr'; (try simp only [List.cons_append, List.nil_append] at N'); (try k_fold))))
local macro_rules | `(tactic| walk_at "call ref") => `(tactic| (k_here; (with_reducible show wpAny _ _ (call (Value.ref 120) [Value.ref _, _] _) _ _ _); k_dflt (refine' fuse_use (f := 120) ?C ?ho ?hv ?hF ?hst ?hne ?hlen ?hm ?hc ?y1 ?y2 ?y3 ?B ?F ?X ?N ?T ?hk ?hd ?hu ?_; (case C => assumption); (case hv => assumption); (case ho => assumption); (case hF => assumption); (case hst => assumption); (case hne => assumption); (case hlen => first | assumption | omega); (case B => k_asm); (case F => k_asm); (case X => k_asm); (case N => k_asm); (case T => k_asm); (case hk => first | rfl | assumption); (case hm => tb_start); (case hc => kqd_sub); (case y1 => k_all); (case y2 => k_all); (case y3 => k_all); (case hd => ktr_room); (case hu => ktr_units); k_whole; intro r' t4' tk4' xs' n3' ys' n4' Y' h' tk' g' F' N' hst' hr'; (try simp only [List.cons_append, List.nil_append] at N'); (try k_fold))))
local macro_rules | `(tactic| walk_at "call ref") => `(tactic| (k_here; (with_reducible show wpAny _ _ (call (Value.ref 68) [_, Value.str _ _] _) _ _ _); k_dflt (refine' isEx_use ?C ?hv ?e ?B ?F ?X ?N ?T ?hk ?hs ?hd ?hu ?_; (case C => exact isEx_con _); (case hv => assumption); (case e => first | rfl | assumption); (case B => k_asm); (case F => k_asm); (case X => k_asm); (case N => k_asm); (case T => k_asm); (case hk => first | rfl | assumption); (case hs => tb_start); (case hd => ktr_room); (case hu => ktr_units); k_whole; intro h' tk' F' N'; (try k_fold))))
local macro_rules | `(tactic| walk_at "eval Call Name cons nil") => `(tactic| (k_here; refine Call_ ?_))
set_option maxHeartbeats 8000000 in
theorem callee_con (w : World) (LC : FuseC w 108 12 100 LeafK thingsT leafB) : FuseC w 115 20 140 CalOk calL calB := by
  intro fz fd sz sd nz lz t v ls t4 tk xs n3 ys n4 Y hK o3 hls hv hF hst ho
  refine Con.intro ?_
  intro dp un gd cn cs fa ccd cl outer A₀ base h₀ L m s mean mg mb Q E B F X N Tp hk hd hu fin
  have f1 := ho _ (.head _)
  have f2 := ho _ (.tail _ (.head _))
  have f3 := ho _ (.tail _ (.tail _ (.head _)))
  clear ho
  simp only [List.cons_append, List.nil_append] at N f1 f2 f3
  have hkind := cal_kind hK
  have hF0 := hF
  obtain ⟨hF1, ⟨t1, t2, t3, hF2⟩, hF3⟩ := hF0
  refine wpAny_call ?_
  rcases hK with ⟨x, hx, rfl⟩ | rfl
  · obtain ⟨a, n, t5, t6, rfl, hm⟩ := sym_inv hv
    w_strict (
      k_dflt ktr_enter
      k_steps)
    refine' fin (stM w sd nz lz _ _ _ _ _ _ _) _ _ _ _ (by k_asm) (by k_asm) ?M ?Y (fun Y₁ hs => ?P)
    case M => tb_start
    case Y => tb_start
    case P =>
      have sub : SubT Y Y₁ := fun p q c => hs p ((show ∀ p ∈ Y, p ∈ _ by tb_start) p q) c
      rw [show calL (.sym x) = [] from rfl, List.append_nil]
      exact ⟨_, _, _, _, _, _, rfl, hst.mono sub, TIn.mono sub hv⟩
  · obtain ⟨a, n, t5, t6, b, vs, k, e9, hm, hm2, hT⟩ := ex_inv hv
    subst e9
    have hls' : ls.length + (thingsT (tE "." [tS "m", tS "h"])).length ≤ 60 := hls
    w_strict (
      k_dflt ktr_enter
      k_steps)
    have e : thingsT (tE "." [tS "m", tS "h"]) = calL (tE "." [tS "m", tS "h"]) := things_leaf (by decide)
    rw [← e] at fin
    refine' fin (stM w sd nz lz _ _ _ _ _ _ _) _ _ _ _ (by k_asm) (by k_asm) ?M ?Y (fun Y₁ hs => ?P)
    case M => tb_start
    case Y => tb_start
    case P =>
      refine' ⟨_, _, _, _, _, _, rfl, FSt.mono ?s ?h, TIn.mono ?s ?r⟩
      case h => assumption
      case r => assumption
      case s => exact fun p q c => hs p (.tail _ (.tail _ (.tail _ q))) c
end

section
-- Body
theorem reset_Body : True := by
  w_top off
  trivial
local macro_rules | `(tactic| lsm_bools) => `(tactic| first | exact List.Mem.head _ | assumption | (refine' List.Mem.tail _ ?_; lsm_bools) | (refine' GrowT.mem ?g ?h; (case g => assumption); (case h => lsm_bools)) | fail "no entry")
local macro_rules | `(tactic| k_mem) => `(tactic| first | lsm_bools | fail "no entry")
local macro_rules | `(tactic| tb_start) => `(tactic| first
  | exact List.forall_mem_nil _
  | (refine' List.forall_mem_cons.mpr ⟨?a, ?b⟩; (case a => lsm_bools); (case b => tb_start))
  | (intro p hp; repeat (first | exact hp | refine List.mem_cons_of_mem _ ?_ | refine List.Mem.tail _ ?_ | refine GrowT.mem' (by assumption) ?_ | refine GrowT.mem (by assumption) ?_ | fail "no entry"))
  | fail "not within")
local macro_rules | `(tactic| k_all) => `(tactic| first
  | assumption
  | (refine' GrowT.off ?g ?o ?N ?s ?m ?c; (case g => assumption); (case o => k_all); (case N => k_asm); (case s => tb_start); (case m => lsm_bools); (case c => rfl))
  | (refine' offLt ?h ?s; (case h => assumption); (case s => tb_start))
  | fail "not apart")
local macro_rules | `(tactic| k_lt $h:ident) => `(tactic| (have hl9 := $h; replace $h := allLt_of $h; simp only [AllLt, and_true] at $h:ident))
local macro_rules | `(tactic| kqd_sub) => `(tactic| first
  | (refine' Cut.own ?m ?r; (case m => lsm_bools); (case r => kqd_sub))
  | (refine' Cut.oth ?o ?r; (case o => k_all); (case r => kqd_sub))
  | exact Cut.tail
  | fail "no cut")
local macro_rules | `(tactic| ktr_rel) => `(tactic| first
  | exact subT_nil
  | exact subT_of (fun _ hp => hp)
  | assumption
  | (refine' subT_skip ?a ?b; (case a => rfl); (case b => ktr_rel))
  | (refine' subT_cons ?a ?b; (case a => lsm_bools); (case b => ktr_rel))
  | (refine' subT_of ?h; (case h => tb_start))
  | (refine' subT_app ?a ?b; (case a => ktr_rel); (case b => ktr_rel))
  | fail "tuples not within")
local macro_rules | `(tactic| k_room) => `(tactic| ktr_room)
local macro_rules | `(tactic| k_units) => `(tactic| ktr_units)
local macro_rules | `(tactic| tb_rel) => `(tactic| first
  | exact TAll.nil
  | exact TIn.str _ _
  | exact TIn.int _ _
  | exact TIn.bytes _ _
  | assumption
  | (refine' TIn.mono ?s ?h; (case h => assumption); (case s => ktr_rel))
  | (refine' TAll.mono ?s ?h; (case h => assumption); (case s => ktr_rel))
  | (refine' TIn.tuple ?m ?r; (case m => lsm_bools); (case r => tb_rel))
  | (refine' TAll.cons ?h ?t; (case h => tb_rel); (case t => tb_rel))
  | fail "no tree")
local macro_rules | `(tactic| walk_at "compareOp In str ref") => `(tactic| (k_here; k_dflt (refine' in_tupL ?ht ?hi ?_; (case ht => (refine' tupK ?X ?l; (case X => k_in); (case l => k_is))); (case hi => exact rfl))))
local macro_rules | `(tactic| walk_at "compareOp Eq ref ref") => `(tactic| (k_here; k_dflt (first
  | (refine' eq_dat (r := false) ?H ?d1 ?d2 ?hc ?hd ?hu ?_; (case H => exact heldOf (by k_asm)); (case d1 => tb_rel); (case d2 => tb_rel); (case hc => with_unfolding_all rfl); (case hd => exact Nat.le_of_ble_eq_true rfl); (case hu => ktr_units))
  | (refine' eq_dat (r := true) ?H ?d1 ?d2 ?hc ?hd ?hu ?_; (case H => exact heldOf (by k_asm)); (case d1 => tb_rel); (case d2 => tb_rel); (case hc => with_unfolding_all rfl); (case hd => exact Nat.le_of_ble_eq_true rfl); (case hu => ktr_units)))))
local macro_rules | `(tactic| walk_at "compareOp NotEq ref ref") => `(tactic| (k_here; k_dflt (first
  | (refine' ne_dat (r := false) ?H ?d1 ?d2 ?hc ?hd ?hu ?_; (case H => exact heldOf (by k_asm)); (case d1 => tb_rel); (case d2 => tb_rel); (case hc => with_unfolding_all rfl); (case hd => exact Nat.le_of_ble_eq_true rfl); (case hu => ktr_units))
  | (refine' ne_dat (r := true) ?H ?d1 ?d2 ?hc ?hd ?hu ?_; (case H => exact heldOf (by k_asm)); (case d1 => tb_rel); (case d2 => tb_rel); (case hc => with_unfolding_all rfl); (case hd => exact Nat.le_of_ble_eq_true rfl); (case hu => ktr_units)))))
local macro_rules | `(tactic| walk_at "subscriptTail Name Constant ref int") => `(tactic| (k_here; k_dflt (refine' item_tupleT ?t ?a ?b ?c ?d ?_; (case t => exact News.isTup (by k_asm) (by k_mem)); (case a => decide); (case b => decide); (case c => rfl); (case d => rfl); k_whole)))
local macro_rules | `(tactic| walk_at "ite") => `(tactic| (k_closed; k_dflt (first | (refine' ite_pos ?c ?_; (case c => decide)) | (refine' ite_neg ?c ?_; (case c => decide)))))
local macro_rules | `(tactic| walk_at "call type:range cons nil") => `(tactic| (k_here; k_dflt (refine' range1_rows ?F ?N ?_; (case F => k_asm); (case N => k_asm); k_whole; intro h' tk' t1' u1' v1' hR' F' N' hst'; (try k_fold))))
local macro_rules | `(tactic| walk_at "pyIter ref") => `(tactic| (k_here; (with_reducible show wpAny _ _ (pyIter (Value.ref _)) (fun it s₂ => LoopAtV _ _ _ _ _ _ _ _ _ it s₂) _ _); refine' Hold.of ?_))
local macro_rules | `(tactic| walk_at "binaryOp Add ref ref") => `(tactic| (k_here; k_dflt (refine' add_cat ?F ?N ?a ?b ?z ?_; (case F => k_asm); (case N => k_asm); (case a => lsm_bools); (case b => lsm_bools); (case z => (simp only [sizeLine_eq, List.length_cons, List.length_nil]; omega)); k_whole; intro D' h' F' N' l1; (try k_lt l1); (try k_sweep))))
local macro_rules | `(tactic| walk_at "subscriptTail Name Slice ref ref") => `(tactic| (k_here; k_dflt (first
  | (refine' slice_whole ?F ?N ?t ?l ?z ?_ ?hs ?hg; (case F => k_asm); (case N => k_asm); (case t => lsm_bools); (case l => exact Nat.le_of_ble_eq_true rfl); (case z => exact Nat.le_of_ble_eq_true rfl); (case hs => with_unfolding_all rfl); (case hg => (intro _; with_unfolding_all rfl)); k_whole; intro h' F' N'; (try k_sweep))
  | (refine' slice_upto ?F ?N ?t ?l ?z ?_ ?hs ?hg; (case F => k_asm); (case N => k_asm); (case t => lsm_bools); (case l => exact Nat.le_of_ble_eq_true rfl); (case z => exact Nat.le_of_ble_eq_true rfl); (case hs => with_unfolding_all rfl); (case hg => (intro _; with_unfolding_all rfl)); k_whole; intro D' h' F' N' l1; (try k_lt l1); (try k_sweep)))))
local macro_rules | `(tactic| walk_at "subscriptTail Name Slice ref ref") => `(tactic| (k_here; k_dflt
  (refine' slice_from ?F ?N ?t ?o ?l ?z ?_ ?hs ?hg; (case F => k_asm); (case N => k_asm); (case t => lsm_bools); (case o => exact Nat.le_of_ble_eq_true rfl); (case l => (simp only [List.length_cons]; omega)); (case z => (simp only [sizeLine_eq, List.length_cons]; omega)); (case hs => with_unfolding_all rfl); (case hg => (intro _; with_unfolding_all rfl)); k_whole; intro D' h' F' N' l1; (try k_lt l1); (try k_sweep))))
local macro_rules | `(tactic| walk_at "subscriptTail Subscript Name Constant Slice ref ref") => `(tactic| (k_here; k_dflt
  (refine' slice_from ?F ?N ?t ?o ?l ?z ?_ ?hs ?hg; (case F => k_asm); (case N => k_asm); (case t => lsm_bools); (case o => exact Nat.le_of_ble_eq_true rfl); (case l => (simp only [List.length_cons]; omega)); (case z => (simp only [sizeLine_eq, List.length_cons]; omega)); (case hs => with_unfolding_all rfl); (case hg => (intro _; with_unfolding_all rfl)); k_whole; intro D' h' F' N' l1; (try k_lt l1); (try k_sweep))))
local macro_rules | `(tactic| walk_at "call type:tuple cons nil") => `(tactic| (k_here; k_dflt (refine' tuple_of ?F ?N ?t ?z ?_; (case F => k_asm); (case N => k_asm); (case t => lsm_bools); (case z => first | exact Nat.le_of_ble_eq_true rfl | (simp only [sizeLine_eq, List.length_append, List.length_cons, List.length_nil]; omega)); k_whole; intro D' h' F' N' l1; (try k_lt l1); (try k_sweep))))
local macro_rules | `(tactic| walk_at "subscriptTail Name Constant ref int") => `(tactic| (k_here; k_dflt (refine' item_tupI ?N ?m ?a ?b ?c ?_; (case N => k_asm); (case m => lsm_bools); (case a => decide); (case b => decide); (case c => exact rfl); k_whole)))
local macro_rules | `(tactic| walk_at "subscriptTail Subscript Name Constant Constant ref int") => `(tactic| (k_here; k_dflt (refine' item_tupI ?N ?m ?a ?b ?c ?_; (case N => k_asm); (case m => lsm_bools); (case a => decide); (case b => decide); (case c => exact rfl); k_whole)))
local macro_rules | `(tactic| walk_at "subscriptTail Subscript Subscript Constant Constant ref int") => `(tactic| (k_here; k_dflt (refine' item_tupI ?N ?m ?a ?b ?c ?_; (case N => k_asm); (case m => lsm_bools); (case a => decide); (case b => decide); (case c => exact rfl); k_whole)))
local macro_rules | `(tactic| walk_at "subscriptTail Call Name cons nil Constant ref int") => `(tactic| (k_here; k_dflt (refine' item_tupI ?N ?m ?a ?b ?c ?_; (case N => k_asm); (case m => lsm_bools); (case a => decide); (case b => decide); (case c => exact rfl); k_whole)))
local macro_rules | `(tactic| walk_at "binaryOp Add ref ref") => `(tactic| (k_here; k_dflt (refine' add_tupC ?F ?N ?a ?b ?l1 ?l2 ?z ?_; (case F => k_asm); (case N => k_asm); (case a => lsm_bools); (case b => lsm_bools); (case l1 => (simp only [List.length_cons, List.length_nil]; omega)); (case l2 => omega); (case z => (simp only [sizeLine_eq, List.length_cons, List.length_nil]; omega)); k_whole; intro D' h' F' N' l1; (try k_lt l1); (try k_sweep))))
local macro_rules | `(tactic| walk_at "call type:tuple cons nil") => `(tactic| (k_here; k_dflt (refine' tuple_same ?N ?t ?_; (case N => k_asm); (case t => lsm_bools); k_whole)))
local macro_rules | `(tactic| walk_at "call builtin:len cons nil") => `(tactic| (k_here; k_dflt (refine' len_tupK ?N ?t ?z ?_; (case N => k_asm); (case t => lsm_bools); (case z => (simp only [sizeLine_eq, List.length_cons, List.length_nil]; omega)); k_whole; intro tk1' tk2')))
local macro_rules | `(tactic| walk_at "eval ListComp") => `(tactic| (k_here; refine' Hold.of ?_))
local macro_rules | `(tactic| walk_at "compareOp NotEq ref ref") => `(tactic| (k_here; k_dflt (refine' ne_dat (r := false) ?H ?d1 ?d2 ?hc ?hd ?hu ?_; (case H => exact heldOf (by k_asm)); (case d1 => tb_rel); (case d2 => tb_rel); (case hc => exact cmp_head (by assumption) _); (case hd => exact Nat.le_of_ble_eq_true rfl); (case hu => ktr_units))))
local macro_rules | `(tactic| walk_at "call ref") => `(tactic| (k_here; (with_reducible show wpAny _ _ (call (Value.ref 233) [_] _) _ _ _); k_dflt (refine' plain_use ?C ?ho ?hv ?B ?F ?X ?N ?T ?hk ?hc ?hd ?hu ?_; (case C => assumption); (case ho => assumption); (case hv => assumption); (case B => k_asm); (case F => k_asm); (case X => k_asm); (case N => k_asm); (case T => k_asm); (case hk => first | rfl | assumption); (case hc => kqd_sub); (case hd => ktr_room); (case hu => ktr_units); k_whole; intro r' Y' h' tk' g' F' N' hr'; (try simp only [List.cons_append, List.nil_append] at N'); (try k_fold))))
local macro_rules | `(tactic| walk_at "call ref") => `(tactic| (k_here; (with_reducible show wpAny _ _ (call (Value.ref 240) [_] _) _ _ _); k_dflt (refine' things_use ?C ?ho ?hv ?B ?F ?X ?N ?T ?hk ?hc ?hd ?hu ?_; (case C => assumption); (case ho => assumption); (case hv => assumption); (case B => k_asm); (case F => k_asm); (case X => k_asm); (case N => k_asm); (case T => k_asm); (case hk => first | rfl | assumption); (case hc => kqd_sub); (case hd => ktr_room); (case hu => ktr_units); k_whole; intro a' vs' k' Y' h' tk' g' F' N' hr' hrl'; (try simp only [List.cons_append, List.nil_append] at N'); (try k_fold))))
local macro_rules | `(tactic| walk_at "exec For Name Subscript") => `(tactic| (k_here; (rename Fr _ _ _ _ => lF'); (with_unfolding_all refine' For_invVF lF' ?k1 ?k2 ?_; (case k1 => exact rfl); (case k2 => exact rfl); k_whole)))
local macro_rules | `(tactic| walk_at "compareOp Eq ref ref") => `(tactic| (k_here; k_dflt (refine' eq_dat (r := false) ?H ?d1 ?d2 ?hc ?hd ?hu ?_; (case H => exact heldOf (by k_asm)); (case d1 => tb_rel); (case d2 => tb_rel); (case hc => exact cmp_head (by assumption) _); (case hd => exact Nat.le_of_ble_eq_true rfl); (case hu => ktr_units))))
local macro_rules | `(tactic| walk_at "compareOp Eq str str") => `(tactic| (k_here; k_dflt (refine' eq_str_no ?h ?_; (case h => assumption); k_whole)))
local macro_rules | `(tactic| ktr_enter) => `(tactic| (refine' code_defC ?k1 ?k2 ?k3 ?k4 ?k5 ?kA ?kF ?kK ?k6 ?k7 ?k8 ?k9 ?kB ?kD ?_ ?c2 ?c3 ?c4; (case kA => exact rfl); (case kF => exact rfl); (case kK => assumption); (case k1 => k_asm); (case k2 => k_asm); (case k3 => k_asm); (case k4 => k_asm); (case k5 => k_asm); (case k6 => k_is); (case k7 => k_is); (case k8 => ktr_room); (case k9 => exact BindsTo.of_eq rfl); (case kB => exact rfl); (case kD => decide +kernel); (case c2 => exact rfl); (case c3 => exact rfl); (case c4 => exact rfl); k_whole; intro g' L' h' tk' cells' FG' F' N' Y' B' X' T' l1; (try k_lt l1); k_cells Y'; (try simp only [List.cons_append, List.nil_append] at N'); (try dsimp only); (try k_fold)))
local macro_rules | `(tactic| walk_at "call ref") => `(tactic| (k_here; (with_reducible show wpAny _ _ (call (Value.ref 108) [Value.ref _, _] _) _ _ _); k_dflt (refine' fuse_use (f := 108) ?C ?ho ?hv ?hF ?hst ?hne ?hlen ?hm ?hc ?y1 ?y2 ?y3 ?B ?F ?X ?N ?T ?hk ?hd ?hu ?_; (case C => assumption); (case hv => assumption); (case ho => assumption); (case hF => assumption); (case hst => assumption); (case hne => assumption); (case hlen => first | assumption | omega); (case B => k_asm); (case F => k_asm); (case X => k_asm); (case N => k_asm); (case T => k_asm); (case hk => first | rfl | assumption); (case hm => tb_start); (case hc => kqd_sub); (case y1 => k_all); (case y2 => k_all); (case y3 => k_all); (case hd => ktr_room); (case hu => ktr_units); k_whole; intro r' t4' tk4' xs' n3' ys' n4' Y' h' tk' g' F' N' hst' hr'; (try simp only [List.cons_append, List.nil_append] at N'); (try k_fold))))
local macro_rules | `(tactic| walk_at "call ref") => `(tactic| (k_here; (with_reducible show wpAny _ _ (call (Value.ref 115) [Value.ref _, _] _) _ _ _); k_dflt (refine' fuse_use (f := 115) ?C ?ho ?hv ?hF ?hst ?hne ?hlen ?hm ?hc ?y1 ?y2 ?y3 ?B ?F ?X ?N ?T ?hk ?hd ?hu ?_; (case C => assumption); (case hv => assumption); (case ho => assumption); (case hF => assumption); (case hst => assumption); (case hne => assumption); (case hlen => first | assumption | omega); (case B => k_asm); (case F => k_asm); (case X => k_asm); (case N => k_asm); (case T => k_asm); (case hk => first | rfl | assumption); (case hm => tb_start); (case hc => kqd_sub); (case y1 => k_all); (case y2 => k_all); (case y3 => k_all); (case hd => ktr_room); (case hu => ktr_units); k_whole; intro r' t4' tk4' xs' n3' ys' n4' Y' h' tk' g' F' N' hst' hr'; (try simp only [List.cons_append, List.nil_append] at N'); (try k_fold))))
local macro_rules | `(tactic| walk_at "call ref") => `(tactic| (k_here; (with_reducible show wpAny _ _ (call (Value.ref 120) [Value.ref _, _] _) _ _ _); k_dflt (refine' fuse_use (f := 120) ?C ?ho ?hv ?hF ?hst ?hne ?hlen ?hm ?hc ?y1 ?y2 ?y3 ?B ?F ?X ?N ?T ?hk ?hd ?hu ?_; (case C => assumption); (case hv => assumption); (case ho => assumption); (case hF => assumption); (case hst => assumption); (case hne => assumption); (case hlen => first | assumption | omega); (case B => k_asm); (case F => k_asm); (case X => k_asm); (case N => k_asm); (case T => k_asm); (case hk => first | rfl | assumption); (case hm => tb_start); (case hc => kqd_sub); (case y1 => k_all); (case y2 => k_all); (case y3 => k_all); (case hd => ktr_room); (case hu => ktr_units); k_whole; intro r' t4' tk4' xs' n3' ys' n4' Y' h' tk' g' F' N' hst' hr'; (try simp only [List.cons_append, List.nil_append] at N'); (try k_fold))))
local macro_rules | `(tactic| walk_at "call ref") => `(tactic| (k_here; (with_reducible show wpAny _ _ (call (Value.ref 68) [_, Value.str _ _] _) _ _ _); k_dflt (refine' isEx_use ?C ?hv ?e ?B ?F ?X ?N ?T ?hk ?hs ?hd ?hu ?_; (case C => exact isEx_con _); (case hv => assumption); (case e => first | rfl | assumption); (case B => k_asm); (case F => k_asm); (case X => k_asm); (case N => k_asm); (case T => k_asm); (case hk => first | rfl | assumption); (case hs => tb_start); (case hd => ktr_room); (case hu => ktr_units); k_whole; intro h' tk' F' N'; (try k_fold))))
local macro_rules | `(tactic| walk_at "eval Call Name cons nil") => `(tactic| (k_here; refine Call_ ?_))
def BodyC (w : World) (nn : Nat) : Prop := FuseC w 120 (30 + 8 * nn) (160 + 60 * nn) (TreeOk nn) thingsT bodyT
theorem leaf_not {t : T} (h : LeafK t) : isEx t (kS "dotcall") = false := by
  cases h with
  | sym => rfl
  | int => rfl
  | text => rfl
  | ex h ps h1 => exact beq_eq_false_iff_ne.mpr h1
theorem tree_not {nn : Nat} {t : T} (h : TreeOk nn t) : isEx t (kS "parameters") = false := by
  rcases h with h | h
  · cases leaf_kind h with
    | sym => rfl
    | int => rfl
    | text => rfl
    | ex h ps h1 h2 h3 => exact beq_eq_false_iff_ne.mpr h3
  · cases nn with
    | zero => exact h.elim
    | succ nn =>
      obtain ⟨c, ps, rfl, _⟩ := h
      rfl
set_option maxHeartbeats 8000000 in
theorem body_leafC (w : World) (LC : FuseC w 108 12 100 LeafK thingsT leafB) (nn : Nat) (fz fd sz sd nz lz : Addr) (t : T) (v : Value) (ls : List T) (t4 tk : Tok) (xs : Array Value) (n3 : Nat) (ys : Array Value) (n4 : Nat) (Y : List (Addr × Obj)) (hK : LeafK t) (o3 : @Ne Nat nz lz) (hls : ls.length + (thingsT t).length ≤ 60) (hv : TIn Y v t.dat)
    (hF : FuserIn w Y fz fd sz sd nz lz) (hst : FSt w sd nz lz ls t4 tk xs n3 ys n4 Y) (ho : ∀ q ∈ stM w sd nz lz (ls.length : Int) t4 tk xs n3 ys n4, ∀ p ∈ Y, p.1 ≠ q.1) :
    Con w 120 [.ref fz, v] (30 + 8 * nn) (160 + 60 * nn) (stM w sd nz lz (ls.length : Int) t4 tk xs n3 ys n4) Y (FPost w sd nz lz (ls ++ thingsT t) (bodyT t ls.length)) := by
  have he := leaf_not hK
  have hF0 := hF
  obtain ⟨hF1, ⟨t1, t2, t3, hF2⟩, hF3⟩ := hF0
  obtain ⟨a, rfl⟩ := tree_ref hv
  refine Con.intro ?_
  intro dp un gd cn cs fa ccd cl outer A₀ base h₀ L m s mean mg mb Q E B F X N Tp hk hd hu fin
  have f1 := ho _ (.head _)
  have f2 := ho _ (.tail _ (.head _))
  have f3 := ho _ (.tail _ (.tail _ (.head _)))
  clear ho
  simp only [List.cons_append, List.nil_append] at N f1 f2 f3
  refine wpAny_call ?_
  w_strict (
    k_dflt ktr_enter
    k_steps)
  refine' fin (stM w sd nz lz _ _ _ _ _ _ _) _ _ _ _ (by k_asm) (by k_asm) ?M ?Y (fun Y₁ hs => ?P)
  case M => tb_start
  case Y => tb_start
  case P =>
    rw [body_leaf hK]
    refine' ⟨_, _, _, _, _, _, rfl, FSt.mono ?s ?h, TIn.mono ?s ?r⟩
    case h => assumption
    case r => assumption
    case s => exact fun p q c => hs p (.tail _ (.tail _ (.tail _ (.tail _ q)))) c
set_option maxHeartbeats 8000000 in
theorem body_con (w : World) (LC : FuseC w 108 12 100 LeafK thingsT leafB) (CC : FuseC w 115 20 140 CalOk calL calB) : ∀ nn, nn ≤ 3 → BodyC w nn := by
  intro nn
  induction nn with
  | zero => exact fun _ fz fd sz sd nz lz t v ls t4 tk xs n3 ys n4 Y hK o3 hls hv hF hst ho => hK.elim (fun h => body_leafC w LC 0 fz fd sz sd nz lz t v ls t4 tk xs n3 ys n4 Y (leaf_kind h) o3 hls hv hF hst ho) fun h => h.elim
  | succ nn ih =>
  intro hn fz fd sz sd nz lz t v ls t4 tk xs n3 ys n4 Y hK o3 hls hv hF hst ho
  rcases hK with hK | ⟨c, ps, rfl, hc, hlen1, hlen3, hps⟩
  · exact body_leafC w LC (nn + 1) fz fd sz sd nz lz t v ls t4 tk xs n3 ys n4 Y (leaf_kind hK) o3 hls hv hF hst ho
  have IH : FuseC w 120 (30 + 8 * nn) (160 + 60 * nn) (TreeOk nn) thingsT bodyT := ih (by omega)
  have he : isEx (.ex (kS "dotcall") (c :: ps)) (kS "dotcall") = true := by simp [isEx]
  have hth : thingsT (.ex (kS "dotcall") (c :: ps)) = calL c ++ thingsTs ps := by
    unfold thingsT
    rw [if_pos rfl]
    rfl
  rw [hth] at hls ⊢
  have hcl : ls.length + (calL c).length ≤ 60 := by
    rw [List.length_append] at hls
    omega
  have hF0 := hF
  obtain ⟨hF1, ⟨t1, t2, t3, hF2⟩, hF3⟩ := hF0
  obtain ⟨a, n, t5, t6, b, vs, k, rfl, hm, hm2, hT⟩ := ex_inv hv
  cases hT with
  | @cons cv vs _ _ hcv hT =>
  have hvl := hT.length
  rw [dats_len] at hvl
  obtain ⟨p1, ps1, eps⟩ : ∃ p1 ps1, ps = p1 :: ps1 := by
    cases ps with
    | nil => simp at hlen1
    | cons p q => exact ⟨p, q, rfl⟩
  have he1 : isEx p1 (kS "parameters") = false := tree_not (hps p1 (by rw [eps]; exact .head _))
  obtain ⟨v1, vs1, evs, hv1⟩ : ∃ v1 vs1, vs = v1 :: vs1 ∧ TIn Y v1 p1.dat := by
    rw [eps] at hT
    cases hT with
    | cons a b => exact ⟨_, _, rfl, a⟩
  subst evs
  have hvl2 : vs1.length ≤ 2 := by
    rw [List.length_cons] at hvl
    omega
  have hlv2 : 2 ≤ (cv :: v1 :: vs1).length := by simp
  refine Con.intro ?_
  intro dp un gd cn cs fa ccd cl outer A₀ base h₀ L m s mean mg mb Q E B F X N Tp hk hd hu fin
  have f1 := ho _ (.head _)
  have f2 := ho _ (.tail _ (.head _))
  have f3 := ho _ (.tail _ (.tail _ (.head _)))
  clear ho
  simp only [List.cons_append, List.nil_append] at N f1 f2 f3
  refine wpAny_call ?_
  w_strict (
    k_dflt ktr_enter
    k_steps)
  unfold Hold
  rename Fr _ _ _ _ => F1
  rename News _ _ _ _ => N1
  refine' comp_tup F1 ?hh ?hclos ?hcell ?hkind ?hnames ?hx ?h ?hs
  case hh => rfl
  case hclos => with_unfolding_all rfl
  case hcell => decide
  case hkind => rfl
  case hnames => decide
  case hx => rfl
  case hs => (intro _; with_unfolding_all rfl)
  case h =>
    w_strict (
      k_steps)
    refine' csrc_fuse (w := w) (sd := sd) (nz := nz) (lz := lz) (ls1 := ls ++ calL c) (vs := v1 :: vs1) (ps := ps) ?F ?N ?hm ?hc ?y1 ?y2 ?y3 ?hst ?hax ?hz (TAll.mono ?sub hT) ?turn ?fin
    case hst => assumption
    case F => k_asm
    case N => k_asm
    case hm => tb_start
    case hc => kqd_sub
    case y1 => k_all
    case y2 => k_all
    case y3 => k_all
    case hax => lsm_bools
    case hz => (simp only [sizeLine_eq, List.length_cons]; omega)
    case sub => exact subT_of (by tb_start)
    case turn =>
      intro i ys nw v p I oI C oC D m₂ h tk' t4 tk xs n3 ys4 n4 hp hsub hpv hT' hst' j4 j5 j6 hoI hoC hx F' N' off ne
      have hpm := List.mem_of_getElem? hp
      have hpo : TreeOk nn p := hps p hpm
      have hYn : ∀ p ∈ Y, p ∈ nw := fun p hp => hsub p (.tail _ (.tail _ (.tail _ (GrowT.mem (by assumption) hp))))
      have hcell := hsub _ (.tail _ (.tail _ (.head _)))
      have hFn := hF.mono hYn
      have hF1n := hYn _ hF1
      have hF2n := hYn _ hF2
      have hln : (ls ++ calL c ++ thingsTs (ps.take i)).length + (thingsT p).length ≤ 60 := by
        have := thingsTs_take_le ps hp
        simp only [List.length_append] at hls ⊢
        omega
      simp only [List.cons_append, List.nil_append] at N'
      have off' := off
      simp only [List.cons_append, List.nil_append, LCg.Off3] at off'
      k_sweep
      w_strict (
        k_steps)
      refine' fuse_end ?F ?N ?I ?C ?D ?M ?hY ?g off hoI (nsObj_not hoC) ?hS hp hsub hT' ?hst ?hr j4 j5 j6
      case g => assumption
      case F => k_asm
      case N => k_asm
      case hst => assumption
      case hr => assumption
      case I => lsm_bools
      case C => lsm_bools
      case D => lsm_bools
      case M => tb_start
      case hY => tb_start
      case hS => exact hsub _ (.head _)
    case fin =>
      intro ys nw D h tk' t4 tk xs n3 ys4 n4 hsub hT' hst' j4 j5 j6 F' N'
      have hyl : ys.length = ps.length := by
        have := hT'.length
        rw [dats_len, bodyTs_len] at this
        exact this
      have hD1 := hsub _ (.tail _ (.head _))
      simp only [List.cons_append, List.nil_append] at N'
      rw [List.append_assoc] at hst' N'
      have hr1 : TIn nw _ (calB c ls.length).dat := TIn.mono (subT_of (sub3 hsub)) (by assumption)
      k_sweep
      w_strict (
        k_steps)
      refine' fin (stM w sd nz lz _ _ _ _ _ _ _) _ _ _ _ (by k_asm) (by k_asm) ?M ?Y (fun Y₁ hs => ?P)
      case M => tb_start
      case Y => exact fun p hp => (show ∀ p ∈ nw, p ∈ _ by tb_start) p (hsub p (.tail _ (.tail _ (.tail _ (GrowT.mem (by assumption) hp)))))
      case P =>
        have e : bodyT (.ex (kS "dotcall") (c :: ps)) ls.length = .ex (kS "call") (calB c ls.length :: bodyTs ps (ls.length + (calL c).length)) := by
          unfold bodyT
          rw [if_pos rfl]
        rw [e]
        refine' ⟨_, _, _, _, _, _, rfl, FSt.mono ?s hst', TIn.mono hs ?r⟩
        case s => exact fun p q c => hs p ((show ∀ p ∈ nw, p ∈ _ by tb_start) p q) c
        case r =>
          show TIn _ _ (.tuple [sS "expr", sS "call", .tuple ((calB c ls.length).dat :: T.dats (bodyTs ps (ls.length + (calL c).length)))])
          rw [← List.length_append]
          tb_rel
end

section
-- Plainlaw
/-- the table's pairs: the names of places, the things -/
def tabOf (ls : List T) : List (T × T) := ((namesN ls.length).map T.sym).zip ls
theorem dotN_inj_small : ∀ i j : Fin 41, dotN ((i.val : Int) + 1) = dotN ((j.val : Int) + 1) → i = j := by decide +kernel
theorem nodup_map_of {α β : Type} {f : α → β} : ∀ {l : List α}, l.Nodup → (∀ a ∈ l, ∀ b ∈ l, f a = f b → a = b) → (l.map f).Nodup
  | [], _, _ => List.nodup_nil
  | x :: l, h, hf => by
    rw [List.nodup_cons] at h
    rw [List.map_cons, List.nodup_cons]
    refine ⟨fun hm => ?_, nodup_map_of h.2 fun a ha b hb => hf a (.tail _ ha) b (.tail _ hb)⟩
    obtain ⟨y, hy, e⟩ := List.mem_map.mp hm
    have := hf y (.tail _ hy) x (.head _) e
    subst this
    exact h.1 hy
theorem names_nodup {n : Nat} (h : n ≤ 41) : ((namesN n).map T.sym).Nodup := by
  unfold namesN
  rw [List.map_map]
  refine nodup_map_of List.nodup_range fun i hi j hj e => ?_
  have hi' := List.mem_range.mp hi
  have hj' := List.mem_range.mp hj
  simp only [Function.comp, T.sym.injEq] at e
  have := dotN_inj_small ⟨i, by omega⟩ ⟨j, by omega⟩ e
  simpa using this
theorem look_zip : ∀ {ks vs : List T} {i : Nat} {x v : T}, ks.Nodup → ks[i]? = some x → vs[i]? = some v → lookT (ks.zip vs) x = some v
  | [], _, i, x, v, _, h, _ => by simp at h
  | _ :: _, [], i, x, v, _, _, h => by simp at h
  | k :: ks, w :: vs, 0, x, v, _, h1, h2 => by
    simp only [List.getElem?_cons_zero, Option.some.injEq] at h1 h2
    subst h1 h2
    simp [lookT]
  | k :: ks, w :: vs, i + 1, x, v, hn, h1, h2 => by
    simp only [List.getElem?_cons_succ] at h1 h2
    rw [List.nodup_cons] at hn
    have hne : ¬ k = x := fun e => hn.1 (e ▸ List.mem_of_getElem? h1)
    have ih := look_zip hn.2 h1 h2
    simp only [lookT, List.zip_cons_cons, List.find?_cons, hne, decide_false] at ih ⊢
    exact ih
theorem look_none {ks vs : List T} {x : T} (h : x ∉ ks) : lookT (ks.zip vs) x = none := by
  have : ((ks.zip vs).find? fun y => @decide (y.1 = x) (tdec y.1 x)) = none := by
    rw [List.find?_eq_none]
    intro y hy he
    have e : y.1 = x := @of_decide_eq_true _ (tdec y.1 x) he
    exact h (e ▸ (List.of_mem_zip (a := y.1) (b := y.2) hy).1)
  simp [lookT, this]
theorem dotN_head (j : Int) : (dotN j).cps[0]? = some 100 := by
  unfold dotN
  show ((Str.ofString "dot.").cps ++ _)[0]? = _
  rw [Array.getElem?_append_left (by decide)]
  decide
theorem ops_not {x : Str} (h : x ∈ opsL) (j : Int) : x ≠ dotN j := by
  intro e
  have hd := dotN_head j
  rw [← e] at hd
  simp only [opsL, List.mem_cons, List.not_mem_nil, or_false] at h
  rcases h with rfl | rfl | rfl | rfl <;> exact absurd hd (by decide)
/-- a table that gives t's things back -/
structure Gives (tb : List (T × T)) (L : List T) (k : Nat) : Prop where
  found : ∀ i x, L[i]? = some x → lookT tb (.sym (dotN (((k + i : Nat) : Int) + 1))) = some x
  none : ∀ t : T, (∀ j : Int, t ≠ .sym (dotN j)) → lookT tb t = none
theorem Gives.left {tb : List (T × T)} {L M : List T} {k : Nat} (g : Gives tb (L ++ M) k) : Gives tb L k := ⟨fun i x h => g.found i x (by rw [List.getElem?_append_left (List.getElem?_eq_some_iff.mp h).1]; exact h), g.none⟩
theorem Gives.right {tb : List (T × T)} {L M : List T} {k : Nat} (g : Gives tb (L ++ M) k) : Gives tb M (k + L.length) := ⟨fun i x h => by
  have := g.found (L.length + i) x (by rw [List.getElem?_append_right (by omega)]; simpa using h)
  rw [← Nat.add_assoc] at this
  exact this, g.none⟩
theorem put_leaf {tb : List (T × T)} {t : T} {k : Nat} (h : LeafK t) (g : Gives tb (thingsT t) k) : putT tb (bodyT t k) = plainT t := by
  cases h with
  | sym x =>
    have := g.found 0 (.sym x) rfl
    exact putT_some this
  | int i =>
    have := g.none (.int i) (fun j e => T.noConfusion e)
    show putT tb (.int i) = _
    simp only [putT, this, Option.getD_none, plainT]
  | text b =>
    have := g.none (.text b) (fun j e => T.noConfusion e)
    show putT tb (.text b) = _
    simp only [putT, this, Option.getD_none, plainT]
  | ex h ps h1 =>
    have := g.found 0 (.ex h ps) (by rw [things_leaf h1]; rfl)
    have e : bodyT (.ex h ps) k = .sym (dotN ((k : Int) + 1)) := by unfold bodyT; rw [if_neg h1]
    rw [e]
    refine (putT_some this).trans ?_
    simp only [plainT, if_neg h1]
theorem put_cal {tb : List (T × T)} {c : T} {k : Nat} (h : CalOk c) (g : Gives tb (calL c) k) : putT tb (calB c k) = plainT c := by
  rcases h with ⟨x, hx, rfl⟩ | rfl
  · have := g.none (.sym x) (fun j e => ops_not hx j (T.sym.inj e))
    show putT tb (.sym x) = _
    simp only [putT, this, Option.getD_none, plainT]
  · have := g.found 0 _ rfl
    show putT tb (.sym (dotN ((k : Int) + 1))) = _
    refine (putT_some this).trans ?_
    simp only [plainT, if_neg (show ¬ Str.ofString "." = kS "dotcall" by decide)]
theorem put_bodies {tb : List (T × T)} : ∀ (ps : List T) (k : Nat), (∀ p ∈ ps, ∀ k, Gives tb (thingsT p) k → putT tb (bodyT p k) = plainT p) → Gives tb (thingsTs ps) k → putTs tb (bodyTs ps k) = plainTs ps
  | [], _, _, _ => rfl
  | p :: ps, k, h, g => by
    simp only [bodyTs, putTs, plainTs]
    rw [h p (.head _) k g.left, put_bodies ps _ (fun q hq => h q (.tail _ hq)) g.right]
theorem put_body {tb : List (T × T)} : ∀ (n : Nat) (t : T) (k : Nat), TreeOk n t → Gives tb (thingsT t) k → putT tb (bodyT t k) = plainT t
  | 0, t, k, h, g => h.elim (fun h => put_leaf (leaf_kind h) g) fun h => h.elim
  | n + 1, t, k, h, g => by
    rcases h with h | ⟨c, ps, rfl, hc, _, _, hp⟩
    · exact put_leaf (leaf_kind h) g
    · have eth : thingsT (.ex (kS "dotcall") (c :: ps)) = calL c ++ thingsTs ps := by unfold thingsT; rw [if_pos rfl]; rfl
      have eb : bodyT (.ex (kS "dotcall") (c :: ps)) k = .ex (kS "call") (calB c k :: bodyTs ps (k + (calL c).length)) := by unfold bodyT; rw [if_pos rfl]
      rw [eth] at g
      rw [show (Str.ofString "dotcall") = kS "dotcall" from rfl, eb]
      have hn := g.none (.ex (kS "call") (calB c k :: bodyTs ps (k + (calL c).length))) (fun j e => T.noConfusion e)
      simp only [putT, hn, Option.getD_none, putTs, plainT, if_true, plainTs]
      rw [put_cal hc g.left, put_bodies ps _ (fun p q k => put_body n p k (hp p q)) g.right]
theorem tab_gives {ls : List T} (h : ls.length ≤ 41) : Gives (tabOf ls) ls 0 := by
  refine ⟨fun i x hx => ?_, fun t ht => look_none fun hm => ?_⟩
  · have hi := (List.getElem?_eq_some_iff.mp hx).1
    refine look_zip (names_nodup h) (i := i) ?_ hx
    simp [namesN, hi]
  · obtain ⟨x, hx, rfl⟩ := List.mem_map.mp hm
    obtain ⟨i, _, rfl⟩ := List.mem_map.mp hx
    exact ht _ rfl
/-- the plain law -/
theorem plain_law {n : Nat} {t : T} (hn : n ≤ 3) (h : TreeOk n t) : putT (tabOf (thingsT t)) (bodyT t 0) = plainT t :=
  put_body n t 0 h (tab_gives (Nat.le_trans (things_len n t h) (Nat.le_trans (cntB_le hn) (by decide))))
end

section
-- RightDef
/-- what fused hands back: broadcast or broadcast!, the function, what is ahead, the things -/
def ToldIn (Y : List (Addr × Obj)) (r : Value) (bc : Addr) (fn : T) (ls : List T) : Prop :=
  ∃ a n t1 t2 b k f lvs, r = .ref a ∧ (a, tupObj [.str (kS "expr") t1, .str (kS "call") t2, .ref b] n) ∈ Y ∧ (b, tupObj (.ref bc :: f :: lvs) k) ∈ Y ∧ TIn Y f fn.dat ∧ TAll Y lvs (T.dats ls)
def fnT (n : Nat) (B : T) : T := .ex (kS "->") [.ex (kS "tuple") ((namesN n).map T.sym), B]
section
variable {prog : Program} {w : World} {A : Around} {E : Value → Shared → Prop} {s : Shared} {h₀ : Heap} {L : Addr} {m : Str → Option Value} {news : List (Addr × Obj)} {K : Frag} {Q : Value → Shared → Prop}
theorem ne_val {c c2 D D2 : Addr} {x : Str} {t1 t3 t4 t5 t7 t8 : Tok} {n1 n2 n3 n4 : Nat} (X : K.In s.heap) (N : News h₀ L s.heap news) (e1 : K.lookup c = some (tupObj [.str (Str.ofString "value") t1, .ref c2] n1)) (e2 : K.lookup c2 = some (tupObj [.str (Str.ofString "builtin") t3, .str x t4] n2))
    (h1 : (D, tupObj [.str (Str.ofString "value") t5, .ref D2] n3) ∈ news) (h2 : (D2, tupObj [.str (Str.ofString "builtin") t7, .str x t8] n4) ∈ news) (hu : A.units + 30 < cLine) (h : Q (.bool false) s) : wpAny (model prog w) A (compareOp .NotEq (.ref c) (.ref D)) Q E s := by
  have H := heldK (heldK (heldOf N) X e2) X e1
  have hc : cmpDs [sS "value", .tuple [sS "builtin", .str x]] [sS "value", .tuple [sS "builtin", .str x]] = some true := by
    simp [cmpDs, cmpD]
  exact ne_dat H (.tuple (.head _) (.cons (.str _ _) (.cons (.tuple (.tail _ (.head _)) (.cons (.str _ _) (.cons (.str _ _) .nil))) .nil))) (.tuple (.tail _ (.tail _ h1)) (.cons (.str _ _) (.cons (.tuple (.tail _ (.tail _ h2)) (.cons (.str _ _) (.cons (.str _ _) .nil))) .nil))) hc (by simp [depDs, depD]) hu h
end
mutual
theorem tin_dat {Y : List (Addr × Obj)} : ∀ {v : Value} {d : Dat}, TIn Y v d → DatIn Y v d
  | _, _, .int i t => .int i t
  | _, _, .str x t => .str x t
  | _, _, .bytes b t => .bytes b t
  | _, _, .tuple m r => .tuple m (tall_dat r)
theorem tall_dat {Y : List (Addr × Obj)} : ∀ {vs : List Value} {ds : List Dat}, TAll Y vs ds → DatAll Y vs ds
  | _, _, .nil => .nil
  | _, _, .cons a r => .cons (tin_dat a) (tall_dat r)
end
theorem oks_dats {ls : List T} (h : ∀ t ∈ ls, kqdOk 8 t.dat = true) : ∀ d ∈ T.dats ls, kqdOk 8 d = true := by
  induction ls with
  | nil => exact fun d hd => nomatch hd
  | cons t ls ih =>
    intro d hd
    rcases List.mem_cons.mp hd with rfl | hd
    · exact h t (.head _)
    · exact ih (fun q hq => h q (.tail _ hq)) d hd
/-- the kinds of a thing -/
def thingAll : List T := [tS "a", tS "b", tS "c", leafT 3, leafT 4, tE "." [tS "m", tS "h"]]
theorem things_all_leaf {t : T} (h : LeafOk t) : ∀ x ∈ thingsT t, x ∈ thingAll := by
  obtain ⟨k, hk, rfl⟩ := h
  intro x hx
  match k with
  | 0 => rw [List.mem_singleton.mp hx]; simp [thingAll, leafT]
  | 1 => rw [List.mem_singleton.mp hx]; simp [thingAll, leafT]
  | 2 => rw [List.mem_singleton.mp hx]; simp [thingAll, leafT]
  | 3 =>
    rw [leafT, things_leaf (by decide)] at hx
    rw [List.mem_singleton.mp hx]; simp [thingAll, leafT]
  | 4 =>
    rw [leafT, things_leaf (by decide)] at hx
    rw [List.mem_singleton.mp hx]; simp [thingAll, leafT]
  | 5 => exact nomatch hx
  | 6 => exact nomatch hx
  | k + 7 => omega
theorem thingsTs_mem : ∀ {ps : List T} {x : T}, x ∈ thingsTs ps → ∃ p ∈ ps, x ∈ thingsT p
  | p :: ps, x, h => by
    simp only [thingsTs, List.mem_append] at h
    rcases h with h | h
    · exact ⟨p, .head _, h⟩
    · obtain ⟨q, hq, hx⟩ := thingsTs_mem h
      exact ⟨q, .tail _ hq, hx⟩
theorem things_all : ∀ (n : Nat) (t : T), TreeOk n t → ∀ x ∈ thingsT t, x ∈ thingAll
  | 0, t, h => h.elim things_all_leaf fun h => h.elim
  | n + 1, t, h => by
    rcases h with h | ⟨c, ps, rfl, hc, _, _, hp⟩
    · exact things_all_leaf h
    · intro x hx
      unfold thingsT at hx
      rw [if_pos rfl] at hx
      rcases List.mem_append.mp hx with hx | hx
      · rcases hc with ⟨y, hy, rfl⟩ | rfl
        · exact nomatch hx
        · rw [List.mem_singleton.mp hx]; simp [thingAll]
      · obtain ⟨p, q, hx⟩ := thingsTs_mem hx
        exact things_all n p (hp p q) x hx
theorem things_kqd {n : Nat} {t : T} (h : TreeOk n t) : ∀ x ∈ thingsT t, kqdOk 8 x.dat = true := fun x hx => by
  have hm := things_all n t h x hx
  simp only [thingAll, List.mem_cons, List.not_mem_nil, or_false] at hm
  rcases hm with rfl | rfl | rfl | rfl | rfl | rfl <;> decide +kernel
section
variable {prog : Program} {w : World} {A : Around} {E : Value → Shared → Prop} {s : Shared} {h₀ : Heap} {L : Addr} {m : Str → Option Value} {news : List (Addr × Obj)} {Q : Value → Shared → Prop}
theorem ne_list {a b : Addr} {xs ys : List Value} {ka kb : Nat} {ls : List T} (N : News h₀ L s.heap news) (ma : (a, listOf (List.toArray xs) ka) ∈ news) (mb : (b, listOf (List.toArray ys) kb) ∈ news) (Da : TAll news xs (T.dats ls)) (Db : TAll news ys (T.dats ls)) (ok : ∀ t ∈ ls, kqdOk 8 t.dat = true)
    (hu : A.units + 64 < cLine) (h : Q (.bool false) s) : wpAny (model prog w) A (compareOp .NotEq (.ref a) (.ref b)) Q E s := by
  classical
  exact kqd_ne N ma rfl rfl (tall_dat Da) (fun _ h => h) mb rfl rfl (tall_dat Db) (fun _ h => h) (oks_dats ok) (oks_dats ok) hu (by simpa using h)
theorem len_listK {t : Addr} {vs : List Value} {n : Nat} (N : News h₀ L s.heap news) (ht : (t, listOf (List.toArray vs) n) ∈ news) (hz : vs.length ≤ sizeLine) (h : ∀ tk tk', Q (.int (vs.length : Int) tk) { s with toks := tk' }) : wpAny (model prog w) A (call (.builtin "len") [.ref t]) Q E s := by
  refine len_list (News.isList N ht) ?_ ?_
  · rw [List.size_toArray]
    rw [sizeLine_eq] at hz
    omega
  · rw [List.size_toArray]; exact h _ _
theorem list_upto {value slice : PySem.Expr} {l : Addr} {vs zs : List Value} {n k : Nat} {u : Tok} (F : Fr h₀ L s.heap m) (N : News h₀ L s.heap news) (hl : (l, listOf (List.toArray vs) n) ∈ news) (e : vs.take k = zs)
    (h : ∀ D h', Fr h₀ L h' m → News h₀ L h' ((D, listOf (List.toArray zs) 0) :: news) → (∀ p ∈ news, p.1 < D) → Q (.ref D) { s with heap := h' })
    (hs : subscripted slice false (.ref l) (.ref s.heap.objs.size) = operate [.ref s.heap.objs.size, .ref l] (getItem (.ref l) (.ref s.heap.objs.size))) (ht : ∀ r, letTemporaryGo value (.ref l) r = pure ()) (hz : vs.length ≤ sizeLine) :
    wpAny (model prog w) A (subscriptTail value slice (.ref l) (.ref s.heap.objs.size)) Q E { s with heap := s.heap.push { cls := .type "slice", data := .fields #[.none, .int (k : Int) u, .none] } } := by
  refine kmk_slice_lit F N (News.isList N hl) .none (.int _ _) (zs := zs) ?_ h hs ht (by simpa using hz)
  have q := kmk_pick_nat (lo := none) (hi := some (k : Int)) (List.toArray vs) (a := 0) (b := min k vs.length) (by
    simp only [sliceBounds, Option.getD_none, show (1 : Int) > 0 by decide, if_true, if_neg (show ¬ ((k : Int) < 0) by omega), List.size_toArray]
    congr 1
    congr 1
    omega)
  rw [q]
  show (vs.drop 0).take (min k vs.length - 0) = zs
  rw [List.drop_zero, Nat.sub_zero, kmk_take_min, e]
theorem list_from {value slice : PySem.Expr} {l : Addr} {vs zs : List Value} {n k : Nat} {u : Tok} (F : Fr h₀ L s.heap m) (N : News h₀ L s.heap news) (hl : (l, listOf (List.toArray vs) n) ∈ news) (e : vs.drop k = zs)
    (h : ∀ D h', Fr h₀ L h' m → News h₀ L h' ((D, listOf (List.toArray zs) 0) :: news) → (∀ p ∈ news, p.1 < D) → Q (.ref D) { s with heap := h' })
    (hs : subscripted slice false (.ref l) (.ref s.heap.objs.size) = operate [.ref s.heap.objs.size, .ref l] (getItem (.ref l) (.ref s.heap.objs.size))) (ht : ∀ r, letTemporaryGo value (.ref l) r = pure ()) (hz : vs.length ≤ sizeLine) :
    wpAny (model prog w) A (subscriptTail value slice (.ref l) (.ref s.heap.objs.size)) Q E { s with heap := s.heap.push { cls := .type "slice", data := .fields #[.int (k : Int) u, .none, .none] } } := by
  refine kmk_slice_lit F N (News.isList N hl) (.int _ _) .none (zs := zs) ?_ h hs ht (by simpa using hz)
  have q := kmk_pick_nat (lo := some (k : Int)) (hi := none) (List.toArray vs) (a := min k vs.length) (b := vs.length) (by
    simp only [sliceBounds, Option.getD_none, show (1 : Int) > 0 by decide, if_true, if_neg (show ¬ ((k : Int) < 0) by omega), List.size_toArray]
    congr 1
    omega)
  rw [q]
  show (vs.drop (min k vs.length)).take (vs.length - min k vs.length) = zs
  rw [kmk_drop_min, List.take_of_length_le (by rw [List.length_drop]; omega), e]
end
theorem tall_split {Y : List (Addr × Obj)} : ∀ {xs ys : List T} {vs : List Value}, TAll Y vs (T.dats (xs ++ ys)) → ∃ l1 l2, vs = l1 ++ l2 ∧ TAll Y l1 (T.dats xs) ∧ TAll Y l2 (T.dats ys)
  | [], _, vs, h => ⟨[], vs, rfl, .nil, h⟩
  | x :: xs, ys, _, .cons a r => by
    obtain ⟨l1, l2, rfl, h1, h2⟩ := tall_split r
    exact ⟨_ :: l1, l2, rfl, .cons a h1, h2⟩
end

section
-- Zip
section
variable {prog : Program} {w : World} {A : Around} {E : Value → Shared → Prop} {s : Shared}
theorem wpAny_loadIfAlive {a : Addr} {Q : Option Obj → Shared → Prop} (h : Q (s.heap.get? a) s) : wpAny (model prog w) A (loadIfAlive a) Q E s := fun Γ p _ => h
theorem nextOf_tup {it t : Addr} {i : Nat} {items} {x : Value} {Q : Value → Shared → Prop} (hit : s.heap.IsTupleIter it t i)
    (ht : s.heap.IsTuple t items) (hx : items[i]? = some x)
    (hQ : ∀ h', h'.IsTupleIter it t (i + 1) → Heap.SameBut it s.heap h' → Q x { s with heap := h' }) :
    wpAny (model prog w) A (Builtin.SmallTypes.nextOf (.ref it)) Q E s := by
  obtain ⟨o, ho, hc, hd⟩ := id hit
  obtain ⟨ol, hol, _, nl, hdl⟩ := ht
  unfold Builtin.SmallTypes.nextOf
  refine wpAny_bind (wpAny_callSpecial?_slot (name := Str.ofString "__next__") hit.typeIs F.slot_tuple_iterator_next
    (wpAny_call_entry F.slot_tuple_iterator_next hit.typeIs F.entry_tuple_iterator_next ?_ (F.args_tuple_iterator_next_1 _)))
  show wpAny _ _ (field (.ref it) 0 >>= _) _ _ s
  refine wpAny_bind (wpAny_field ho hd (x := .ref t) rfl ?_)
  show wpAny _ _ (if (Value.ref t == Value.none) = true then _ else _) _ _ s
  rw [if_neg (show ¬ ((Value.ref t == Value.none) = true) from Bool.false_ne_true)]
  show wpAny _ _ (field (.ref it) 1 >>= _) _ _ s
  refine wpAny_bind (wpAny_field ho hd (x := .int i 0) rfl ?_)
  show wpAny _ _ (seqItems? (.ref t) >>= _) _ _ s
  refine wpAny_bind (wpAny_seqItems hol hdl ?_)
  simp only [Int.toNat_natCast, hx]
  refine wpAny_bind (wpAny_setField ho hd (by simp) (wpAny_pure ⟨x, rfl, wpAny_pure (hQ _ ?_ (Heap.SameBut.update ..))⟩))
  exact ⟨_, Heap.get?_update_self _ ho (Obj.isFreed_of_fields (Obj.data_mapFields hd _)), (Obj.cls_mapFields ..).trans hc, by
    rw [Obj.data_mapFields hd]; simp [rawInt]⟩
theorem nextOf_tup_end {it t : Addr} {i : Nat} {items} {Q : Value → Shared → Prop} (hh : A.handled = none)
    (hit : s.heap.IsTupleIter it t i) (ht : s.heap.IsTuple t items) (hx : items[i]? = none)
    (hE : ∀ h' e, Heap.ExtBut it s.heap h' → (∃ o, h'.get? e = some o ∧ o.cls = .type "StopIteration") → E (.ref e) { s with heap := h' }) :
    wpAny (model prog w) A (Builtin.SmallTypes.nextOf (.ref it)) Q E s := by
  obtain ⟨o, ho, hc, hd⟩ := id hit
  obtain ⟨ol, hol, _, nl, hdl⟩ := ht
  unfold Builtin.SmallTypes.nextOf
  refine wpAny_bind (wpAny_callSpecial?_slot (name := Str.ofString "__next__") hit.typeIs F.slot_tuple_iterator_next
    (wpAny_call_entry F.slot_tuple_iterator_next hit.typeIs F.entry_tuple_iterator_next ?_ (F.args_tuple_iterator_next_1 _)))
  show wpAny _ _ (field (.ref it) 0 >>= _) _ _ s
  refine wpAny_bind (wpAny_field ho hd (x := .ref t) rfl ?_)
  show wpAny _ _ (if (Value.ref t == Value.none) = true then _ else _) _ _ s
  rw [if_neg (show ¬ ((Value.ref t == Value.none) = true) from Bool.false_ne_true)]
  show wpAny _ _ (field (.ref it) 1 >>= _) _ _ s
  refine wpAny_bind (wpAny_field ho hd (x := .int i 0) rfl ?_)
  show wpAny _ _ (seqItems? (.ref t) >>= _) _ _ s
  refine wpAny_bind (wpAny_seqItems hol hdl ?_)
  simp only [Int.toNat_natCast, hx]
  refine wpAny_bind (wpAny_rule (wpAny_bind (wpAny_setField ho hd (by simp) ?_)))
  show wpAny _ _ (newExc (.type "StopIteration") [] >>= _) _ _ _
  refine wpAny_bind ?_
  simp only [newExc, newTuple]
  refine wpAny_bind (wpAny_newObj_type ?_ (by size_fits))
  refine wpAny_bind (m := firstArgMember _ _) (wpAny_of_eq (a := Value.none) (by first | rfl | (simp only [firstArgMember]; rfl)) ?_)
  refine wpAny_newObj_type ?_ (by size_fits)
  simp only [raiseNew]
  refine wpAny_bind (wpAny_handled ?_)
  first | rw [show A.in1.handled = none from hh] | rw [hh]
  refine wpAny_bind (wpAny_pure (wpAny_throw ?_))
  exact hE _ _ (((Heap.SameBut.update ..).extBut.push _).push _) ⟨_, Heap.get?_push_size _ rfl, rfl⟩
abbrev IsZip2 (h : Heap) (z TI TO : Addr) (f0 : Value) (b : Bool) : Prop :=
  h.get? z = some { cls := .type "zip", dict := none, data := .fields #[f0, .bool b, .bool false, .ref TI, .ref TO], slots := #[] }
/-- a zip of a tuple and a list -/
structure ZipS (h : Heap) (z TI TO i1 i2 t l : Addr) (vs ys : Array Value) (k : Nat) : Prop where
  hz : ∃ f0 b, IsZip2 h z TI TO f0 b ∧ (f0 = .none ∨ ∃ a, f0 = rawInt a)
  hTI : IsPair h TI (.ref i1) (.ref i2)
  hTO : ∃ a b, IsPair h TO a b
  h1 : h.IsTupleIter i1 t k
  h2 : h.IsListIter i2 l k
  ht : h.IsTuple t vs
  hl : h.IsList l ys
theorem tup_at {h h' : Heap} {a : Addr} {xs : Array Value} (x : h.IsTuple a xs) (hk : ∀ o, h.get? a = some o → h'.get? a = some o) : h'.IsTuple a xs := let ⟨o, ho, r⟩ := x; ⟨o, hk o ho, r⟩
theorem tit_at {h h' : Heap} {a t : Addr} {i : Nat} (x : h.IsTupleIter a t i) (hk : ∀ o, h.get? a = some o → h'.get? a = some o) : h'.IsTupleIter a t i := let ⟨o, ho, r⟩ := x; ⟨o, hk o ho, r⟩
/-- the second half of a draw: once the owned tuple is out of hand -/
theorem zipS_item {z TI TO i1 i2 t l : Addr} {k : Nat} {vs ys : Array Value} {x y : Value} {Q : Value → Shared → Prop} (D : ZipApart z TI TO i1 i2 t l)
    (S : ZipS s.heap z TI TO i1 i2 t l vs ys k) (hx : vs[k]? = some x) (hy : ys[k]? = some y)
    (hQ : ∀ h', ZipS h' z TI TO i1 i2 t l vs ys (k + 1) → IsPair h' s.heap.objs.size x y → h'.objs.size = s.heap.objs.size + 1 →
      (∀ c o, c ≠ z → c ≠ TO → c ≠ i1 → c ≠ i2 → s.heap.get? c = some o → h'.get? c = some o) → Q (.ref s.heap.objs.size) { s with heap := h' }) :
    wpAny (model prog w) A (Builtin.«zip.__next__» ⟨[.ref z], []⟩) (fun fin s' => ∃ v, fin = .done (.ret v) ∧ Q v s') E s := by
  obtain ⟨⟨f0, fb, hz, hf⟩, hTI, ⟨a, b, hTO⟩, h1, h2, hl1, hl2⟩ := S
  show wpAny _ _ (field (.ref z) 2 >>= _) _ _ _
  refine wpAny_bind (wpAny_field hz rfl (x := .bool false) rfl ?_)
  show wpAny _ _ (field (.ref z) 3 >>= _) _ _ _
  refine wpAny_bind (wpAny_field hz rfl (x := .ref TI) rfl ?_)
  refine wpAny_bind (wpAny_seqItems hTI rfl ?_)
  show wpAny _ _ (Builtin.SmallTypes.ownedTupleIsFree (.ref z) >>= _) _ _ _
  refine wpAny_bind ?_
  have free : ∀ {R : Bool → Shared → Prop}, R true s → (∀ h', (∃ b, IsZip2 h' z TI TO f0 b) → Heap.SameBut z s.heap h' → R false { s with heap := h' }) → wpAny (model prog w) A (Builtin.SmallTypes.ownedTupleIsFree (.ref z)) R E s := by
    intro R r1 r2
    unfold Builtin.SmallTypes.ownedTupleIsFree
    refine wpAny_bind (wpAny_field hz rfl (x := f0) rfl ?_)
    rcases hf with rfl | ⟨n, rfl⟩
    · exact wpAny_pure r1
    · show wpAny _ _ (loadIfAlive _ >>= _) _ _ _
      refine wpAny_bind (wpAny_loadIfAlive ?_)
      split
      · exact wpAny_pure r1
      · refine wpAny_bind (wpAny_field hz rfl (x := .bool fb) rfl ?_)
        split
        · refine wpAny_bind (wpAny_setField_rec hz (by simp) fun h₁ hz₁ hs₁ => ?_)
          exact wpAny_pure (r2 h₁ ⟨_, hz₁⟩ hs₁)
        · exact wpAny_pure (r2 _ ⟨_, hz⟩ (Heap.SameBut.refl _ _))
  refine free ?_ ?_
  · simp only [if_true]
    refine wpAny_bind (wpAny_rule ?_)
    refine wpAny_bind (wpAny_field hz rfl (x := .ref TO) rfl ?_)
    refine wpAny_bind (wpAny_setField_rec hz (by simp) fun h₁ hz₁ hs₁ => ?_)
    replace hz₁ : IsZip2 h₁ z TI TO .ellipsis fb := hz₁
    refine wpAny_bind ?_
    simp only [List.zipIdx_cons, List.zipIdx_nil, List.forIn_cons, List.forIn_nil]
    refine wpAny_bind (wpAny_bind (wpAny_onRaise ?_))
    show wpAny _ _ (Builtin.SmallTypes.nextOf (.ref i1) >>= _) _ _ _
    refine wpAny_bind (nextOf_tup (h1.extBut hs₁.extBut D.i1z) (hl1.extBut hs₁.extBut D.l1z) hx fun h₂ h1₂ hs₂ => wpAny_pure ?_)
    have hTO₂ : IsPair h₂ TO a b := hs₂.extBut _ _ D.TOi1 (hs₁.extBut _ _ D.TOz hTO)
    refine wpAny_bind (wpAny_seqItems hTO₂ rfl ?_)
    refine wpAny_bind (wpAny_updateSeq_pair hTO₂ fun h₃ hTO₃ hs₃ => ?_)
    replace hTO₃ : IsPair h₃ TO x b := hTO₃
    refine wpAny_bind (wpAny_letGo (wpAny_pure ?_))
    refine wpAny_bind (wpAny_bind (wpAny_onRaise ?_))
    show wpAny _ _ (Builtin.SmallTypes.nextOf (.ref i2) >>= _) _ _ _
    refine wpAny_bind (wpAny_nextOf_list_item (((h2.extBut hs₁.extBut D.i2z).extBut hs₂.extBut D.i12.symm).extBut hs₃.extBut D.TOi2.symm)
      (((hl2.extBut hs₁.extBut D.l2z).extBut hs₂.extBut D.l2i1).extBut hs₃.extBut D.l2TO) hy fun h₄ h2₄ hs₄ => wpAny_pure ?_)
    have hTO₄ : IsPair h₄ TO x b := hs₄.extBut _ _ D.TOi2 hTO₃
    refine wpAny_bind (wpAny_seqItems hTO₄ rfl ?_)
    refine wpAny_bind (wpAny_updateSeq_pair hTO₄ fun h₅ hTO₅ hs₅ => ?_)
    replace hTO₅ : IsPair h₅ TO x y := hTO₅
    refine wpAny_bind (wpAny_letGo (wpAny_pure (wpAny_pure ?_)))
    refine wpAny_bind (wpAny_seqItems hTO₅ rfl ?_)
    refine wpAny_bind (wpAny_newTuple ?_)
    have hsz : h₅.objs.size = s.heap.objs.size := by rw [hs₅.1, hs₄.1, hs₃.1, hs₂.1, hs₁.1]
    have hz₅ : IsZip2 h₅ z TI TO .ellipsis fb := hs₅.extBut _ _ D.TOz.symm (hs₄.extBut _ _ D.i2z.symm (hs₃.extBut _ _ D.TOz.symm (hs₂.extBut _ _ D.i1z.symm hz₁)))
    have hk₅ : ∀ c o, c ≠ z → c ≠ TO → c ≠ i1 → c ≠ i2 → s.heap.get? c = some o → h₅.get? c = some o := fun c o c1 c2 c3 c4 e =>
      hs₅.extBut _ _ c2 (hs₄.extBut _ _ c4 (hs₃.extBut _ _ c2 (hs₂.extBut _ _ c3 (hs₁.extBut _ _ c1 e))))
    have h1₅ : h₅.IsTupleIter i1 t (k + 1) := ((h1₂.extBut hs₃.extBut D.TOi1.symm).extBut hs₄.extBut D.i12).extBut hs₅.extBut D.TOi1.symm
    have h2₅ : h₅.IsListIter i2 l (k + 1) := h2₄.extBut hs₅.extBut D.TOi2.symm
    have hzlt : z < h₅.objs.size := Heap.lt_size hz₅
    show wpAny _ _ (Builtin.SmallTypes.ownedTupleHandOut (.ref z) (.ref h₅.objs.size) >>= _) _ _ _
    refine wpAny_bind ?_
    unfold Builtin.SmallTypes.ownedTupleHandOut
    have hz₆ : IsZip2 (h₅.push { cls := .type "tuple", data := .seq #[x, y] }) z TI TO .ellipsis fb := Heap.get?_push_of_some _ hz₅
    refine wpAny_bind (wpAny_setField_rec hz₆ (by simp) fun h₇ hz₇ hs₇ => ?_)
    replace hz₇ : IsZip2 h₇ z TI TO (rawInt h₅.objs.size) fb := hz₇
    refine wpAny_setField_rec hz₇ (by simp) fun h₈ hz₈ hs₈ => ?_
    replace hz₈ : IsZip2 h₈ z TI TO (rawInt h₅.objs.size) false := hz₈
    have up : ∀ c o, c ≠ z → h₅.get? c = some o → h₈.get? c = some o := fun c o c1 e => hs₈.extBut _ _ c1 (hs₇.extBut _ _ c1 (Heap.get?_push_of_some _ e))
    have hT₈ : IsPair h₈ h₅.objs.size x y := hs₈.extBut _ _ (Nat.ne_of_gt hzlt) (hs₇.extBut _ _ (Nat.ne_of_gt hzlt) (Heap.get?_push_size _ rfl))
    have hz8 : h₈.objs.size = h₅.objs.size + 1 := by rw [hs₈.1, hs₇.1, Heap.size_push]
    rw [hsz] at hz₈ hT₈ hz8
    refine wpAny_pure ⟨_, rfl, ?_⟩
    show Q (.ref h₅.objs.size) _
    rw [hsz]
    have kp : ∀ c o, c ≠ z → c ≠ TO → c ≠ i1 → c ≠ i2 → s.heap.get? c = some o → h₈.get? c = some o := fun c o c1 c2 c3 c4 e => up c o c1 (hk₅ c o c1 c2 c3 c4 e)
    exact hQ h₈ ⟨⟨_, _, hz₈, .inr ⟨_, rfl⟩⟩, kp _ _ D.TIz D.TITO D.TIi1 D.TIi2 hTI, ⟨_, _, up _ _ D.TOz hTO₅⟩, tit_at h1₅ (fun o e => up _ o D.i1z e), h2₅.at (fun o e => up _ o D.i2z e),
      tup_at hl1 (fun o e => kp _ o D.l1z D.l1TO D.l1i1 D.l1i2 e), hl2.at (fun o e => kp _ o D.l2z D.l2TO D.l2i1 D.l2i2 e)⟩ hT₈ hz8 kp
  · rintro h₁ ⟨fb', hz₁⟩ hs₁
    simp only [Bool.false_eq_true, if_false]
    refine wpAny_bind ?_
    simp only [List.forIn_toArray, List.forIn_cons, List.forIn_nil]
    refine wpAny_bind (wpAny_bind (wpAny_holding ?_))
    show wpAny _ _ (Builtin.SmallTypes.nextOf (.ref i1) >>= _) _ _ _
    refine wpAny_bind (nextOf_tup (h1.extBut hs₁.extBut D.i1z) (hl1.extBut hs₁.extBut D.l1z) hx fun h₂ h1₂ hs₂ => wpAny_pure ?_)
    refine wpAny_pure ?_
    refine wpAny_bind (wpAny_bind (wpAny_holding ?_))
    show wpAny _ _ (Builtin.SmallTypes.nextOf (.ref i2) >>= _) _ _ _
    refine wpAny_bind (wpAny_nextOf_list_item ((h2.extBut hs₁.extBut D.i2z).extBut hs₂.extBut D.i12.symm)
      ((hl2.extBut hs₁.extBut D.l2z).extBut hs₂.extBut D.l2i1) hy fun h₄ h2₄ hs₄ => wpAny_pure ?_)
    refine wpAny_pure (wpAny_pure ?_)
    have hsz : h₄.objs.size = s.heap.objs.size := by rw [hs₄.1, hs₂.1, hs₁.1]
    have k₄ : ∀ c o, c ≠ z → c ≠ i1 → c ≠ i2 → s.heap.get? c = some o → h₄.get? c = some o := fun c o c1 c3 c4 e =>
      hs₄.extBut _ _ c4 (hs₂.extBut _ _ c3 (hs₁.extBut _ _ c1 e))
    show wpAny _ _ (newTuple [x, y] >>= _) _ _ _
    refine wpAny_bind (wpAny_newTuple ?_)
    refine wpAny_pure ⟨_, rfl, ?_⟩
    show Q (.ref h₄.objs.size) _
    rw [hsz]
    have kp : ∀ c o, c ≠ z → c ≠ TO → c ≠ i1 → c ≠ i2 → s.heap.get? c = some o → (h₄.push { cls := .type "tuple", data := .seq #[x, y] }).get? c = some o := fun c o c1 c2 c3 c4 e => Heap.get?_push_of_some _ (k₄ c o c1 c3 c4 e)
    have hT := Heap.get?_push_size (h := h₄) (o := { cls := .type "tuple", data := .seq #[x, y] }) (by rfl)
    rw [hsz] at hT
    exact hQ _ ⟨⟨_, _, Heap.get?_push_of_some _ (hs₄.extBut _ _ D.i2z.symm (hs₂.extBut _ _ D.i1z.symm hz₁)), hf⟩, kp _ _ D.TIz D.TITO D.TIi1 D.TIi2 hTI, ⟨_, _, Heap.get?_push_of_some _ (k₄ _ _ D.TOz D.TOi1 D.TOi2 hTO)⟩,
      tit_at (h1₂.extBut hs₄.extBut D.i12) (fun o e => Heap.get?_push_of_some _ e), h2₄.at (fun o e => Heap.get?_push_of_some _ e),
      tup_at hl1 (fun o e => kp _ o D.l1z D.l1TO D.l1i1 D.l1i2 e), hl2.at (fun o e => kp _ o D.l2z D.l2TO D.l2i1 D.l2i2 e)⟩ hT (by rw [Heap.size_push, hsz]) kp
end
end

section
-- ZipKeys
theorem zip_getattr_none : typeLookup (.type "zip") "__getattr__" = pure none := by rw [typeLookup_type, builtinLookup_eq_fast]; kernel_rfl
theorem zip_keys_none : typeLookup (.type "zip") (Str.ofString "keys") = pure none := by rw [typeLookup_type, builtinLookup_eq_fast]; kernel_rfl
theorem entry_zip_getattribute : entryFor table "zip.__getattribute__" = some Builtin.«object.__getattribute__» :=
  entryFor_alias (id' := "object.__getattribute__") (by kernel_rfl) (by decide +kernel) (by decide +kernel) (by kernel_rfl)
theorem keys_plain : (["__module__", "__name__", "__qualname__", "__doc__", "__annotations__"] : List Str).contains (Str.ofString "keys") = false := by decide +kernel
theorem meets_zip_miss (a : Addr) (xs : Array Value) (sl : Array (Option Value)) (name : Str) (u : Tok) (hmiss : typeLookup (.type "zip") name = pure none) (hname : (["__module__", "__name__", "__qualname__", "__doc__", "__annotations__"] : List Str).contains name = false) (hsz : name.length + 100 ≤ sizeLine) :
    Meets (Builtin.«object.__getattribute__» ⟨[.ref a, .str name u], []⟩) (fun A R s => s.heap.get? a = some { cls := .type "zip", dict := none, data := .fields xs, slots := sl } ∧ raisesAttr (.ref a) name A R s) :=
  Meets.of_wp fun prog w A R s hs => by
    obtain ⟨hp, g, d, tk, os⟩ := s
    obtain ⟨hx, hs⟩ := hs
    have hT : (⟨hp, g, d, tk, os⟩ : Shared).TypeIs (.ref a) "zip" := ⟨_, hx, rfl⟩
    unfold Builtin.«object.__getattribute__»
    repeat (any_goals (first | assumption | wp_step))
    simp only [hname, Bool.false_eq_true, if_false]
    repeat (any_goals (first | assumption | wp_step))
    exact wpAny_raiseAttrError hs.1 hs.2 (attrMsg_fits (by decide +kernel) hsz)
set_option maxRecDepth 8000 in
theorem zip_no_attr {prog : Program} {w : World} {A : Around} {E : Value → Shared → Prop} {s : Shared} {a : Addr} {xs : Array Value} {sl : Array (Option Value)} {Q : Option Value → Shared → Prop} {name : Str}
    (hmiss : typeLookup (.type "zip") name = pure none) (hname : (["__module__", "__name__", "__qualname__", "__doc__", "__annotations__"] : List Str).contains name = false) (hsz : name.length + 100 ≤ sizeLine)
    (hx : s.heap.get? a = some { cls := .type "zip", dict := none, data := .fields xs, slots := sl }) (hA : A.handled = none)
    (h : ∀ h' tk, (∀ b ob, s.heap.get? b = some ob → h'.get? b = some ob) → Q none { s with heap := h', toks := tk }) :
    wpAny (model prog w) A (getAttr? (.ref a) name) Q E s := by
  obtain ⟨hp, g, d, tk, os⟩ := s
  have hT : ∀ tk', (⟨hp, g, d, tk', os⟩ : Shared).TypeIs (.ref a) "zip" := fun _ => ⟨_, hx, rfl⟩
  have f1 := sub_AttributeError
  have f3 := F.slot_zip_getattribute.lookup
  have f4 := F.slot_zip_getattribute.bind (.ref a)
  have f5 := zip_getattr_none
  unfold getAttr? getAttrBy? getAttrBy
  repeat (any_goals (first | assumption | exact hT _ | ((with_reducible show wpAny _ _ (call (Value.builtin "zip.__getattribute__") _ _) _ _ _); refine call_meets F.slot_zip_getattribute (hT _) entry_zip_getattribute (F.args_zip_getattribute_2 _ _) (meets_zip_miss a xs sl name _ hmiss hname hsz) ⟨hx, hA, fun h' tk' e hx' => ?_⟩) | wp_step))
  obtain ⟨t', u', he⟩ := hx'.there
  show wpAny _ _ (getattributeRaised _ _ _ _ _ _ _) _ _ _
  unfold getattributeRaised
  repeat (any_goals (first | assumption | wp_step))
  exact h _ _ hx'.keeps
theorem zip_no_keys {prog : Program} {w : World} {A : Around} {E : Value → Shared → Prop} {s : Shared} {a : Addr} {xs : Array Value} {sl : Array (Option Value)} {Q : Option Value → Shared → Prop}
    (hx : s.heap.get? a = some { cls := .type "zip", dict := none, data := .fields xs, slots := sl }) (hA : A.handled = none)
    (h : ∀ h' tk, (∀ b ob, s.heap.get? b = some ob → h'.get? b = some ob) → Q none { s with heap := h', toks := tk }) :
    wpAny (model prog w) A (getAttr? (.ref a) "keys") Q E s := zip_no_attr zip_keys_none keys_plain (by decide +kernel) hx hA h
end

section
-- ZipDict
section
variable {prog : Program} {w : World} {A : Around} {E : Value → Shared → Prop} {s : Shared}
theorem zipS_end {z TI TO i1 i2 t l : Addr} {k : Nat} {vs ys : Array Value} {Q : Fin → Shared → Prop} (hh : A.handled = none) (D : ZipApart z TI TO i1 i2 t l)
    (S : ZipS s.heap z TI TO i1 i2 t l vs ys k) (hx : vs[k]? = none)
    (hE : ∀ h' e, (∀ c o, c ≠ z → c ≠ TO → c ≠ i1 → c ≠ i2 → s.heap.get? c = some o → h'.get? c = some o) → (∃ o, h'.get? e = some o ∧ o.cls = .type "StopIteration") → E (.ref e) { s with heap := h' }) :
    wpAny (model prog w) A (Builtin.«zip.__next__» ⟨[.ref z], []⟩) Q E s := by
  obtain ⟨⟨f0, fb, hz, hf⟩, hTI, ⟨a, b, hTO⟩, h1, h2, hl1, hl2⟩ := S
  show wpAny _ _ (field (.ref z) 2 >>= _) _ _ _
  refine wpAny_bind (wpAny_field hz rfl (x := .bool false) rfl ?_)
  show wpAny _ _ (field (.ref z) 3 >>= _) _ _ _
  refine wpAny_bind (wpAny_field hz rfl (x := .ref TI) rfl ?_)
  refine wpAny_bind (wpAny_seqItems hTI rfl ?_)
  show wpAny _ _ (Builtin.SmallTypes.ownedTupleIsFree (.ref z) >>= _) _ _ _
  refine wpAny_bind ?_
  have free : ∀ {R : Bool → Shared → Prop}, R true s → (∀ h', (∃ b, IsZip2 h' z TI TO f0 b) → Heap.SameBut z s.heap h' → R false { s with heap := h' }) → wpAny (model prog w) A (Builtin.SmallTypes.ownedTupleIsFree (.ref z)) R E s := by
    intro R r1 r2
    unfold Builtin.SmallTypes.ownedTupleIsFree
    refine wpAny_bind (wpAny_field hz rfl (x := f0) rfl ?_)
    rcases hf with rfl | ⟨n, rfl⟩
    · exact wpAny_pure r1
    · show wpAny _ _ (loadIfAlive _ >>= _) _ _ _
      refine wpAny_bind (wpAny_loadIfAlive ?_)
      split
      · exact wpAny_pure r1
      · refine wpAny_bind (wpAny_field hz rfl (x := .bool fb) rfl ?_)
        split
        · refine wpAny_bind (wpAny_setField_rec hz (by simp) fun h₁ hz₁ hs₁ => ?_)
          exact wpAny_pure (r2 h₁ ⟨_, hz₁⟩ hs₁)
        · exact wpAny_pure (r2 _ ⟨_, hz⟩ (Heap.SameBut.refl _ _))
  refine free ?_ ?_
  · simp only [if_true]
    refine wpAny_bind (wpAny_rule ?_)
    refine wpAny_bind (wpAny_field hz rfl (x := .ref TO) rfl ?_)
    refine wpAny_bind (wpAny_setField_rec hz (by simp) fun h₁ hz₁ hs₁ => ?_)
    replace hz₁ : IsZip2 h₁ z TI TO .ellipsis fb := hz₁
    refine wpAny_bind ?_
    simp only [List.zipIdx_cons, List.zipIdx_nil, List.forIn_cons, List.forIn_nil]
    refine wpAny_bind (wpAny_bind (wpAny_onRaise ?_))
    show wpAny _ _ (Builtin.SmallTypes.nextOf (.ref i1) >>= _) _ _ _
    refine wpAny_bind (nextOf_tup_end hh (h1.extBut hs₁.extBut D.i1z) (hl1.extBut hs₁.extBut D.l1z) hx fun h₂ e hs₂ he => ?_)
    obtain ⟨oe, hoe, hce⟩ := he
    have hz₂ : IsZip2 h₂ z TI TO .ellipsis fb := hs₂ _ _ D.i1z.symm hz₁
    have hez : e ≠ z := fun x => by subst x; rw [hz₂] at hoe; cases hoe; simp at hce
    refine wpAny_setField_rec hz₂ (by simp) fun h₃ _ hs₃ => hE h₃ e (fun c o c1 _ c3 _ x => hs₃.extBut _ _ c1 (hs₂ _ _ c3 (hs₁.extBut _ _ c1 x))) ⟨oe, hs₃.extBut _ _ hez hoe, hce⟩
  · rintro h₁ ⟨fb', hz₁⟩ hs₁
    simp only [Bool.false_eq_true, if_false]
    refine wpAny_bind ?_
    simp only [List.forIn_toArray, List.forIn_cons, List.forIn_nil]
    refine wpAny_bind (wpAny_bind (wpAny_holding ?_))
    show wpAny _ _ (Builtin.SmallTypes.nextOf (.ref i1) >>= _) _ _ _
    refine wpAny_bind (nextOf_tup_end hh (h1.extBut hs₁.extBut D.i1z) (hl1.extBut hs₁.extBut D.l1z) hx fun h₂ e hs₂ he => ?_)
    exact hE h₂ e (fun c o c1 _ c3 _ x => hs₂ _ _ c3 (hs₁.extBut _ _ c1 x)) he
theorem zipS_type {z TI TO i1 i2 t l : Addr} {k : Nat} {vs ys : Array Value} (S : ZipS s.heap z TI TO i1 i2 t l vs ys k) : s.TypeIs (.ref z) "zip" := by
  obtain ⟨f0, fb, hz, _⟩ := S.hz
  exact ⟨_, hz, rfl⟩
theorem zipS_next {z TI TO i1 i2 t l : Addr} {k : Nat} {vs ys : Array Value} {x y : Value} {Q : Option Value → Shared → Prop} (D : ZipApart z TI TO i1 i2 t l)
    (S : ZipS s.heap z TI TO i1 i2 t l vs ys k) (hx : vs[k]? = some x) (hy : ys[k]? = some y)
    (hQ : ∀ h', ZipS h' z TI TO i1 i2 t l vs ys (k + 1) → IsPair h' s.heap.objs.size x y → h'.objs.size = s.heap.objs.size + 1 →
      (∀ c o, c ≠ z → c ≠ TO → c ≠ i1 → c ≠ i2 → s.heap.get? c = some o → h'.get? c = some o) → Q (some (.ref s.heap.objs.size)) { s with heap := h' }) :
    wpAny (model prog w) A (pyNext (.ref z)) Q E s := by
  have hT := zipS_type S
  unfold pyNext
  exact wpAny_bind (wpAny_attempt (wpAny_callSpecial?_slot (name := Str.ofString "__next__") hT F.slot_zip_next
    (wpAny_call_entry F.slot_zip_next hT F.entry_zip_next
      (zipS_item D S hx hy fun h' a1 a2 a3 a4 => wpAny_pure (hQ h' a1 a2 a3 a4)) (F.args_zip_next_1 _))))
theorem zipS_next_end {z TI TO i1 i2 t l : Addr} {k : Nat} {vs ys : Array Value} {Q : Option Value → Shared → Prop} (hh : A.handled = none) (D : ZipApart z TI TO i1 i2 t l)
    (S : ZipS s.heap z TI TO i1 i2 t l vs ys k) (hx : vs[k]? = none)
    (hQ : ∀ h', (∀ c o, c ≠ z → c ≠ TO → c ≠ i1 → c ≠ i2 → s.heap.get? c = some o → h'.get? c = some o) → Q none { s with heap := h' }) : wpAny (model prog w) A (pyNext (.ref z)) Q E s := by
  have hT := zipS_type S
  unfold pyNext
  refine wpAny_bind (wpAny_attempt (wpAny_callSpecial?_slot (name := Str.ofString "__next__") hT F.slot_zip_next
    (wpAny_call_entry F.slot_zip_next hT F.entry_zip_next (zipS_end hh D S hx fun h' e hk he => ?_) (F.args_zip_next_1 _))))
  obtain ⟨o, ho, hc⟩ := he
  refine wpAny_bind (wpAny_isInstance (T := "StopIteration") (b := true) ⟨o, ho, hc⟩ isSubtype_stop ?_)
  exact wpAny_pure (hQ _ hk)
theorem zipS_iter {z TI TO i1 i2 t l : Addr} {k : Nat} {vs ys : Array Value} {Q : Value → Shared → Prop} (S : ZipS s.heap z TI TO i1 i2 t l vs ys k) (h : Q (.ref z) s) : wpAny (model prog w) A (pyIter (.ref z)) Q E s := by
  have hT := zipS_type S
  refine wpAny_pyIter_slot hT F.slot_zip_iter (wpAny_call_entry F.slot_zip_iter hT F.entry_zip_iter ?_ (F.args_zip_iter_1 _))
  show wpAny _ _ (ret (.ref z)) _ _ s
  exact wpAny_pure ⟨_, rfl, "zip", _, hT, F.slot_zip_next.lookup, h⟩
end
theorem ZipS.to {h h' : Heap} {z TI TO i1 i2 t l : Addr} {k : Nat} {vs ys : Array Value} (S : ZipS h z TI TO i1 i2 t l vs ys k) (hk : ∀ c o, (c = z ∨ c = TI ∨ c = TO ∨ c = i1 ∨ c = i2 ∨ c = t ∨ c = l) → h.get? c = some o → h'.get? c = some o) : ZipS h' z TI TO i1 i2 t l vs ys k := by
  obtain ⟨⟨f0, fb, hz, hf⟩, hTI, ⟨a, b, hTO⟩, h1, h2, hl1, hl2⟩ := S
  exact ⟨⟨f0, fb, hk _ _ (by simp) hz, hf⟩, hk _ _ (by simp) hTI, ⟨a, b, hk _ _ (by simp) hTO⟩, tit_at h1 (fun o e => hk _ o (by simp) e), h2.at (fun o e => hk _ o (by simp) e), tup_at hl1 (fun o e => hk _ o (by simp) e), hl2.at (fun o e => hk _ o (by simp) e)⟩
abbrev tzH1 (h : Heap) (l1 : Addr) : Heap := h.push { cls := .type "tuple_iterator", data := .fields #[.ref l1, .int 0 0] }
abbrev tzH2 (h : Heap) (l1 l2 : Addr) : Heap := (tzH1 h l1).push { cls := .type "list_iterator", data := .fields #[.ref l2, .int 0 0] }
abbrev tzH3 (h : Heap) (l1 l2 : Addr) : Heap := (tzH2 h l1 l2).push { cls := .type "tuple", data := .seq #[.ref h.objs.size, .ref (tzH1 h l1).objs.size] }
abbrev tzH4 (h : Heap) (l1 l2 : Addr) : Heap := (tzH3 h l1 l2).push { cls := .type "tuple", data := .seq #[.none, .none] }
abbrev tzH5 (h : Heap) (l1 l2 : Addr) : Heap := (tzH4 h l1 l2).push { cls := .type "zip", data := .fields #[.none, .bool false, .bool false, .ref (tzH2 h l1 l2).objs.size, .ref (tzH3 h l1 l2).objs.size] }
theorem meets_zip_tl (l1 l2 : Addr) (xs ys : Array Value) :
    Meets (Builtin.«zip.__new__» ⟨[.type "zip", .ref l1, .ref l2], []⟩) (fun _ R s => s.heap.IsTuple l1 xs ∧ s.heap.IsList l2 ys ∧
      R (.ok (.ret (.ref (tzH4 s.heap l1 l2).objs.size))) { s with heap := tzH5 s.heap l1 l2 }) :=
  .of_wp fun prog w A R s h => by
    obtain ⟨hp, g, d, tk, os⟩ := s; obtain ⟨hl1, hl2, h⟩ := h
    have hsub := sub_zip
    have hL1 : Heap.IsTuple (Shared.heap ⟨hp, g, d, tk, os⟩) l1 xs := hl1
    have hL2 : Heap.IsList (Shared.heap ⟨hp.push { cls := .type "tuple_iterator", data := .fields #[.ref l1, .int 0 0] }, g, d, tk, os⟩) l2 ys := Heap.IsList.push hl2 _
    wp_walk using wpAny_pyIter_tuple hL1, wpAny_pyIter_list hL2
    exact ⟨_, rfl, h⟩
section
variable {prog : Program} {w : World} {A : Around} {E : Value → Shared → Prop} {s : Shared}
theorem call_zip_tl {l1 l2 : Addr} {xs ys : Array Value} {Q : Value → Shared → Prop} (hl1 : s.heap.IsTuple l1 xs) (hl2 : s.heap.IsList l2 ys)
    (h : ∀ h', ZipS h' (s.heap.objs.size + 4) (s.heap.objs.size + 2) (s.heap.objs.size + 3) s.heap.objs.size (s.heap.objs.size + 1) l1 l2 xs ys 0 → h'.objs.size = s.heap.objs.size + 5 →
      (∀ c o, s.heap.get? c = some o → h'.get? c = some o) → Q (.ref (s.heap.objs.size + 4)) { s with heap := h' }) :
    wpAny (model prog w) A (call (.type "zip") [.ref l1, .ref l2]) Q E s := by
  refine callType_new F.called_zip (by decide) (F.typeCall_zip_2 _ _) (F.newCall_zip_2 _ _) (fun obj => F.args_object_init_3 obj _ _) F.entry_zip_new
    (meets_zip_tl l1 l2 xs ys) ⟨hl1, hl2, ?_⟩
  have z1 : (tzH1 s.heap l1).objs.size = s.heap.objs.size + 1 := Heap.size_push ..
  have z2 : (tzH2 s.heap l1 l2).objs.size = s.heap.objs.size + 2 := by rw [Heap.size_push, z1]
  have z3 : (tzH3 s.heap l1 l2).objs.size = s.heap.objs.size + 3 := by rw [Heap.size_push, z2]
  have z4 : (tzH4 s.heap l1 l2).objs.size = s.heap.objs.size + 4 := by rw [Heap.size_push, z3]
  have z5 : (tzH5 s.heap l1 l2).objs.size = s.heap.objs.size + 5 := by rw [Heap.size_push, z4]
  have g5 : (tzH5 s.heap l1 l2).get? (tzH4 s.heap l1 l2).objs.size = some _ := Heap.get?_push_size _ rfl
  have g4 : (tzH5 s.heap l1 l2).get? (tzH3 s.heap l1 l2).objs.size = some _ := Heap.get?_push_of_some _ (Heap.get?_push_size _ rfl)
  have g3 : (tzH5 s.heap l1 l2).get? (tzH2 s.heap l1 l2).objs.size = some _ := Heap.get?_push_of_some _ (Heap.get?_push_of_some _ (Heap.get?_push_size _ rfl))
  have g2 : (tzH5 s.heap l1 l2).get? (tzH1 s.heap l1).objs.size = some _ := Heap.get?_push_of_some _ (Heap.get?_push_of_some _ (Heap.get?_push_of_some _ (Heap.get?_push_size _ rfl)))
  have g1 : (tzH5 s.heap l1 l2).get? s.heap.objs.size = some _ := Heap.get?_push_of_some _ (Heap.get?_push_of_some _ (Heap.get?_push_of_some _ (Heap.get?_push_of_some _ (Heap.get?_push_size _ rfl))))
  show _ ∧ _
  rw [z2, z3, z4] at g5
  rw [z1, z2] at g3
  rw [z3] at g4
  rw [z1] at g2
  rw [z4]
  have up : ∀ c o, s.heap.get? c = some o → (tzH5 s.heap l1 l2).get? c = some o := fun c o x =>
    Heap.get?_push_of_some _ (Heap.get?_push_of_some _ (Heap.get?_push_of_some _ (Heap.get?_push_of_some _ (Heap.get?_push_of_some _ x))))
  exact ⟨⟨_, g5, rfl⟩, h _ ⟨⟨_, _, g5, .inl rfl⟩, g3, ⟨_, _, g4⟩, ⟨_, g1, rfl, rfl⟩, ⟨_, g2, rfl, rfl⟩, tup_at hl1 (fun o e => up _ o e), hl2.at (fun o e => up _ o e)⟩ z5 up⟩
end
end

section
-- ZipTab
theorem plain_update_loop : plainId "dict.update.loop" = true := by decide +kernel
theorem entry_update_loop : entryFor table "dict.update.loop" = some Builtin.«dict.update.loop» := entryFor_of_fast (by kernel_rfl)
/-- a dict of these entries -/
def DAt (w : World) (h : Heap) (d : Addr) (xs : List (T × Addr × Value)) : Prop := ∃ o es ep, h.get? d = some o ∧ o.ExactDict ∧ o.data = .dict es ep ∧ es.toList = xs.map (entK w)
theorem DAt.at' {w : World} {h h' : Heap} {d : Addr} {xs : List (T × Addr × Value)} (x : DAt w h d xs) (hk : ∀ o, h.get? d = some o → h'.get? d = some o) : DAt w h' d xs := by
  obtain ⟨o, es, ep, h1, r⟩ := x
  exact ⟨o, es, ep, hk _ h1, r⟩
theorem DAt.full {w : World} {h : Heap} {d : Addr} {news : List (Addr × Obj)} {xs : List (T × Addr × Value)} {tb : List (T × T)} (x : DAt w h d xs) (H : Held h news) (e : All2 (EntryIn news) xs tb) (hn : (tb.map (·.1)).Nodup) : @Heap.DictOfH rwProg w T tdec (knd w) h d xs := by
  obtain ⟨o, es, ep, h1, h2, h3, h4⟩ := x
  refine ⟨o, es, ep, h1, h2, h3, h4, ?_, by rw [keys_eq e]; exact hn⟩
  clear hn h4
  induction e with
  | nil => exact fun x hx => nomatch hx
  | cons a b ih =>
    intro x hx
    rcases List.mem_cons.mp hx with rfl | hx
    · exact ⟨news, H, a.key ▸ a.keyIn, a.key ▸ a.dep⟩
    · exact ih x hx
theorem All2.snoc {α β : Type} {R : α → β → Prop} {a : α} {b : β} : ∀ {xs : List α} {ys : List β}, All2 R xs ys → R a b → All2 R (xs ++ [a]) (ys ++ [b])
  | _, _, .nil, h => .cons h .nil
  | _, _, .cons x r, h => .cons x (All2.snoc r h)
theorem take_zip_snoc {ks ls : List T} {i : Nat} {a b : T} (ha : ks[i]? = some a) (hb : ls[i]? = some b) : (ks.zip ls).take (i + 1) = (ks.zip ls).take i ++ [(a, b)] := by
  rw [List.take_add_one]
  have : (ks.zip ls)[i]? = some (a, b) := List.getElem?_zip_eq_some.mpr ⟨ha, hb⟩
  rw [this]; rfl
theorem nodup_take_zip {ks ls : List T} (h : ks.Nodup) (he : ks.length = ls.length) (i : Nat) : (((ks.zip ls).take i).map (·.1)).Nodup := by
  have e : ((ks.zip ls).take i).map (·.1) = ks.take i := by
    rw [List.map_take]
    congr 1
    exact List.map_fst_zip (by omega)
  rw [e]
  exact h.sublist (List.take_sublist _ _)
theorem storedH_new {xs : List (T × Addr × Value)} {k : T} {a : Addr} {v : Value} (h : k ∉ xs.map (·.1)) : @storedH T tdec xs k a v = xs ++ [(k, a, v)] := by
  unfold storedH
  have : @atKey T tdec xs k = none := by
    classical
    unfold atKey
    rw [Option.map_eq_none_iff, List.find?_eq_none]
    intro x hx e
    exact h (List.mem_map.mpr ⟨x, hx, of_decide_eq_true e⟩)
  rw [this]; rfl
theorem tall_at {Y : List (Addr × Obj)} : ∀ {ts : List T} {vs : List Value} {i : Nat} {t : T}, TAll Y vs (T.dats ts) → ts[i]? = some t → ∃ v, vs[i]? = some v ∧ TIn Y v t.dat
  | [], _, i, t, _, h => by simp at h
  | x :: ts, _, 0, t, .cons a r, h => by simp at h; subst h; exact ⟨_, rfl, a⟩
  | x :: ts, _, i + 1, t, .cons a r, h => by
    simp only [List.getElem?_cons_succ] at h
    obtain ⟨v, h1, h2⟩ := tall_at r h
    exact ⟨v, by simpa using h1, h2⟩
theorem adr_ne {a b : Nat} (h : a < b ∨ b < a) : @Ne Addr a b := fun e => by have : a = b := e; omega
theorem held_low {h h' : Heap} {news : List (Addr × Obj)} {n0 : Nat} (H : Held h news) (low : ∀ p ∈ news, p.1 < n0) (hk : ∀ (c : Nat) o, c < n0 → h.get? c = some o → h'.get? c = some o) : Held h' news := fun p hp => hk _ _ (low p hp) (H p hp)
section
variable {w : World} {A : Around} {E : Value → Shared → Prop} {s : Shared}
theorem upd_loop {R : Result → Shared → Prop} {n0 d t l : Nat} {news : List (Addr × Obj)} {ks ls : List T} {kv tv : List Value} (hd : n0 + 5 ≤ d) (ht : t < n0) (hl : l < n0) (low : ∀ p ∈ news, p.1 < n0) (hh : A.handled = none) (hu : A.units + 40 < cLine)
    (hk : TAll news kv (T.dats ks)) (hv : TAll news tv (T.dats ls)) (he : ks.length = ls.length) (hn : ks.Nodup) (hdep : ∀ k ∈ ks, k.dep ≤ 3) (hsz : ks.length ≤ sizeLine) :
    ∀ (k i : Nat) (j : Int) (s : Shared) (xs : List (T × Addr × Value)), ks.length - i = k → i ≤ ks.length → ZipS s.heap (n0 + 4) (n0 + 2) (n0 + 3) n0 (n0 + 1) t l (List.toArray kv) (List.toArray tv) i → Held s.heap news → DAt w s.heap d xs →
      All2 (EntryIn news) xs ((ks.zip ls).take i) →
      (∀ h' tk xs', DAt w h' d xs' → All2 (EntryIn news) xs' (ks.zip ls) → (∀ (c : Nat) o, c < n0 → s.heap.get? c = some o → h'.get? c = some o) → R (.ok (.ret .none)) { s with heap := h', toks := tk }) →
      codeAny (model rwProg w) A (.builtin "dict.update.loop" ⟨[.ref d, .ref (n0 + 4), .int j 0, .none], []⟩) R s := by
  have D : ZipApart (n0 + 4) (n0 + 2) (n0 + 3) n0 (n0 + 1) t l := by constructor <;> (intro e; simp only [Addr] at e; omega)
  have lk := hk.length
  have lv := hv.length
  rw [dats_len] at lk lv
  intro k
  induction k with
  | zero =>
    intro i j s xs hki hi S H Dd Ex hR
    have hin : i = ks.length := by omega
    subst hin
    refine codeAny_builtin entry_update_loop ?_
    rw [Around.under_plainId plain_update_loop _]
    show wpAny _ A.in1 (pyNext (.ref (n0 + 4)) >>= _) _ _ s
    refine wpAny_bind (zipS_next_end (show A.in1.handled = none from hh) D S (by (rw [List.getElem?_toArray]; exact List.getElem?_eq_none (by omega))) fun h' hk' => ?_)
    show wpAny _ _ (Builtin.Dict.addKeywords d [] >>= _) _ _ _
    refine wpAny_bind (wpAny_pure (wpAny_pure ?_))
    rw [List.take_of_length_le (by rw [List.length_zip]; omega)] at Ex
    have := hR h' s.toks xs (Dd.at' fun o e => hk' _ o (adr_ne (by omega)) (adr_ne (by omega)) (adr_ne (by omega)) (adr_ne (by omega)) e) Ex (fun c o hc e => hk' c o (adr_ne (by omega)) (adr_ne (by omega)) (adr_ne (by omega)) (adr_ne (by omega)) e)
    exact this
  | succ k ih =>
    intro i j s xs hki hi S H Dd Ex hR
    have hlt : i < ks.length := by omega
    refine codeAny_builtin entry_update_loop ?_
    rw [Around.under_plainId plain_update_loop _]
    obtain ⟨kx, hkx⟩ : ∃ x, ks[i]? = some x := ⟨_, List.getElem?_eq_getElem hlt⟩
    obtain ⟨lx, hlx⟩ : ∃ x, ls[i]? = some x := ⟨_, List.getElem?_eq_getElem (he ▸ hlt)⟩
    obtain ⟨kvx, hkv, hkd⟩ := tall_at hk hkx
    obtain ⟨tvx, htv, htd⟩ := tall_at hv hlx
    show wpAny _ A.in1 (pyNext (.ref (n0 + 4)) >>= _) _ _ s
    refine wpAny_bind (zipS_next D S (x := kvx) (y := tvx) (by simpa using hkv) (by simpa using htv) fun h' S' hP hs' hk' => ?_)
    have Dd' : DAt w h' d xs := Dd.at' fun o e => hk' _ o (adr_ne (by omega)) (adr_ne (by omega)) (adr_ne (by omega)) (adr_ne (by omega)) e
    have H' : Held h' news := held_low H low fun c o hc e => hk' c o (adr_ne (by omega)) (adr_ne (by omega)) (adr_ne (by omega)) (adr_ne (by omega)) e
    obtain ⟨ka, rfl⟩ := tree_ref hkd
    refine wpAny_bind (wpAny_holding ?_)
    refine wpAny_bind (wpAny_tryCatch ?_)
    unfold Builtin.Dict.pairItems
    refine wpAny_bind (wpAny_typeOf (T := "tuple") ⟨_, hP, rfl⟩ ?_)
    rw [if_pos (by decide)]
    refine wpAny_bind (wpAny_seqItems hP rfl (wpAny_pure ?_))
    show wpAny _ _ (holding [Value.ref ka, tvx] (dictSet d (.ref ka) tvx)) _ _ _
    refine wpAny_holding ?_
    have kin : kx ∈ ks := List.mem_of_getElem? hkx
    have kat : TreeAt h' kx ka := ⟨news, H', hkd, hdep _ kin⟩
    have kno : kx ∉ xs.map (·.1) := by
      rw [keys_eq Ex]
      have e : ((ks.zip ls).take i).map (·.1) = ks.take i := by
        rw [List.map_take]
        congr 1
        exact List.map_fst_zip (by omega)
      rw [e]
      intro hm
      obtain ⟨q, hq, e⟩ := List.mem_take_iff_getElem.mp hm
      have e2 := (List.getElem?_eq_some_iff.mp hkx).2
      have := (List.getElem_inj hn).mp (e.trans e2.symm)
      omega
    have lxs : xs.length = i := by
      have := congrArg List.length (keys_eq Ex)
      simp only [List.length_map, List.length_take, List.length_zip] at this
      omega
    refine @wpAny_dictSet_heap rwProg w T tdec (knd w) _ _ _ d ka xs kx tvx _ (by show A.in1.units + 20 < cLine; simp only [Around.in1_units]; omega) kat (Dd'.full H' Ex (nodup_take_zip hn he i)) (fun h2 hD2 hs2 => ?_) (by omega)
    rw [storedH_new kno] at hD2
    obtain ⟨o2, es2, ep2, q1, q2, q3, q4, _, _⟩ := hD2
    refine wpAny_pure ⟨plainId_quiet plain_update_loop _, ?_⟩
    have nd : ∀ c o, c ≠ d → h'.get? c = some o → h2.get? c = some o := fun c o hc e => (hs2.2 c hc).trans e
    refine ih (i + 1) (j + 1) _ (xs ++ [(kx, ka, tvx)]) (by omega) (by omega) (S'.to fun c o hc e => nd c o (by rcases hc with rfl | rfl | rfl | rfl | rfl | rfl | rfl <;> exact adr_ne (by omega)) e) (fun p hp => nd _ _ (adr_ne (by have hlow : @LT.lt Nat _ p.1 n0 := low p hp; exact .inl (Nat.lt_of_lt_of_le hlow (by omega)))) (H' p hp)) ⟨o2, es2, ep2, q1, q2, q3, q4⟩ ?_ fun h3 tk3 xs3 a1 a2 a3 => ?_
    · rw [take_zip_snoc hkx hlx]
      exact Ex.snoc ⟨rfl, hkd, hdep _ kin, htd⟩
    · exact hR h3 tk3 xs3 a1 a2 fun c o hc e => a3 c o hc (nd c o (adr_ne (by omega)) (hk' c o (adr_ne (by omega)) (adr_ne (by omega)) (adr_ne (by omega)) (adr_ne (by omega)) e))
end
end

section
-- ZipUse
/-- a zip at hand: what stands once it is made -/
structure ZipF (h₀ : Heap) (L : Addr) (m : Str → Option Value) (news : List (Addr × Obj)) (t l : Addr) (vs ys : List Value) (n0 : Nat) (h : Heap) : Prop where
  S : ZipS h (n0 + 4) (n0 + 2) (n0 + 3) n0 (n0 + 1) t l (List.toArray vs) (List.toArray ys) 0
  size : n0 + 5 ≤ h.objs.size
  tlow : @LT.lt Nat _ t n0
  llow : @LT.lt Nat _ l n0
  low : ∀ p ∈ news, p.1 < n0
  above : @LT.lt Nat _ L n0
  big : h₀.objs.size ≤ L
  keep : ∀ h', (∀ (c : Nat) o, c < n0 → h.get? c = some o → h'.get? c = some o) → Fr h₀ L h' m ∧ News h₀ L h' news
section
variable {w : World} {A : Around} {E : Value → Shared → Prop} {s : Shared} {h₀ : Heap} {L : Addr} {m : Str → Option Value} {news : List (Addr × Obj)}
theorem zip_tl {t l : Addr} {vs ys : List Value} {kt kl : Nat} {Q : Value → Shared → Prop} (F : Fr h₀ L s.heap m) (N : News h₀ L s.heap news) (ht : (t, tupObj vs kt) ∈ news) (hl : (l, listOf (List.toArray ys) kl) ∈ news)
    (h : ∀ n0 h', ZipF h₀ L m news t l vs ys n0 h' → Q (.ref (n0 + 4)) { s with heap := h' }) :
    wpAny (model rwProg w) A (call (.type "zip") [.ref t, .ref l]) Q E s := by
  have gt := (N _ ht).1
  have gl := (N _ hl).1
  refine call_zip_tl (xs := List.toArray vs) (ys := List.toArray ys) ⟨_, gt, rfl, _, rfl⟩ (News.isList N hl) fun h' S hs hk => h s.heap.objs.size h' ⟨S, Nat.le_of_eq hs.symm, Heap.lt_size gt, Heap.lt_size gl, fun p hp => Heap.lt_size (N p hp).1, F.ns.lt, F.above, fun h2 k2 => ?_⟩
  have kp : ∀ b o, s.heap.get? b = some o → h2.get? b = some o := fun b o e => k2 b o (Heap.lt_size e) (hk b o e)
  exact ⟨F.keptAll kp, fun p hp => ⟨kp _ _ (N p hp).1, (N p hp).2⟩⟩
theorem dict_zip {t l : Addr} {vs ys : List Value} {n0 : Nat} {ks ls : List T} {Q : Value → Shared → Prop} (Z : ZipF h₀ L m news t l vs ys n0 s.heap) (hbig : sysModules < h₀.objs.size)
    (hk : TAll news vs (T.dats ks)) (hv : TAll news ys (T.dats ls)) (he : ks.length = ls.length) (hn : ks.Nodup) (hdep : ∀ k ∈ ks, k.dep ≤ 3) (hsz : ks.length ≤ sizeLine) (hh : A.handled = none) (hu : A.units + 60 < cLine)
    (h : ∀ D h' tk (xs : List (T × Addr × Value)) n, Fr h₀ L h' m → News h₀ L h' ((D, dictOf (xs.map (entK w)) n) :: news) → TabIn w ((D, dictOf (xs.map (entK w)) n) :: news) D (ks.zip ls) → xs.length = ks.length → (∀ p ∈ news, p.1 < D) → Q (.ref D) { s with heap := h', toks := tk }) :
    wpAny (model rwProg w) A (call (.type "dict") [.ref (n0 + 4)]) Q E s := by
  obtain ⟨S, size, tlow, llow, low, above, big, keep⟩ := Z
  refine callType_codes (Q₁ := fun obj s₁ => obj = .ref s.heap.objs.size ∧ s₁ = { s with heap := s.heap.push { cls := .type "dict", data := .dict #[] } }) F.kt_called_dict (F.kt_typeCall_dict_1 _) F.entry_dict_init (kt_code_dict_new _ ⟨rfl, rfl⟩) ?_
  rintro obj s₁ ⟨rfl, rfl⟩
  have hnew : (s.heap.push { cls := .type "dict", data := .dict #[] }).get? s.heap.objs.size = some { cls := .type "dict", data := .dict #[] } := Heap.get?_push_size _ rfl
  have hT : Shared.TypeIs { s with heap := s.heap.push { cls := .type "dict", data := .dict #[] } } (.ref s.heap.objs.size) "dict" := ⟨_, hnew, rfl⟩
  have S1 : ZipS (s.heap.push { cls := .type "dict", data := .dict #[] }) (n0 + 4) (n0 + 2) (n0 + 3) n0 (n0 + 1) t l (List.toArray vs) (List.toArray ys) 0 := S.to fun c o _ e => Heap.get?_push_of_some _ e
  refine ⟨hT, F.args_dict_init_2 _ _, ?_⟩
  unfold Builtin.«dict.__init__»
  refine wpAny_bind ?_
  unfold Builtin.Dict.selfAndRest
  refine wpAny_bind (wpAny_notOrdered_dict hT ?_)
  show wpAny _ _ (pure (s.heap.objs.size, [Value.ref (n0 + 4)])) _ _ _
  refine wpAny_pure ?_
  show wpAny _ _ (Builtin.Dict.updateFrom "dict.__init__" s.heap.objs.size (.ref (n0 + 4)) [] .none) _ _ _
  unfold Builtin.Dict.updateFrom
  refine wpAny_bind (wpAny_typeOf (zipS_type (s := { s with heap := s.heap.push { cls := .type "dict", data := .dict #[] } }) S1) ?_)
  rw [if_pos (by decide)]
  obtain ⟨f0, fb, hz, _⟩ := S1.hz
  refine wpAny_bind (zip_no_keys hz (show A.in1.in1.handled = none from hh) fun h2 tk2 k2 => ?_)
  show wpAny _ _ (rule _ >>= _) _ _ _
  refine wpAny_bind (wpAny_rule ?_)
  refine wpAny_bind (zipS_iter (s := { s with heap := h2, toks := tk2 }) (S1.to fun c o _ e => k2 c o e) ?_)
  refine wpAny_pure ⟨plainId_quiet plain_update_loop _, ?_⟩
  have kp2 : ∀ (c : Nat) o, c < n0 → s.heap.get? c = some o → h2.get? c = some o := fun c o _ e => k2 _ _ (Heap.get?_push_of_some _ e)
  have kl := hk.length
  have ll := hv.length
  refine upd_loop (w := w) (news := news) (ks := ks) (ls := ls) (kv := vs) (tv := ys) size tlow llow low (show A.in1.handled = none from hh) (by show A.in1.units + 40 < cLine; rw [Around.in1_units]; omega) hk hv he hn hdep hsz ks.length 0 0 _ [] rfl (Nat.zero_le _) (S1.to fun c o _ e => k2 c o e)
    (fun p hp => ((keep _ kp2).2 p hp).1) ⟨_, _, _, k2 _ _ hnew, ⟨rfl, rfl, rfl⟩, rfl, rfl⟩ .nil fun h3 tk3 xs D3 E3 k3 => ?_
  obtain ⟨o, es, ep, g1, ⟨c1, c2, c3⟩, g3, g4⟩ := D3
  obtain ⟨oc, od, oda, osl⟩ := o
  simp only at c1 c2 c3 g3
  subst c1 c2 c3 g3
  have ees : es = (xs.map (entK w)).toArray := by rw [← g4]
  subst ees
  obtain ⟨F3, N3⟩ := keep h3 fun c o hc e => k3 c o hc (kp2 c o hc e)
  have dl : @LT.lt Nat _ L s.heap.objs.size := Nat.lt_of_lt_of_le above (by omega)
  have low' : ∀ p ∈ news, p.1 < s.heap.objs.size := fun p hp => Nat.lt_of_lt_of_le (low p hp) (by omega)
  have sz : xs.length = ks.length := by
    have := congrArg List.length (keys_eq E3)
    simp only [List.length_map, List.length_zip] at this
    omega
  refine ⟨rfl, h s.heap.objs.size h3 tk3 xs ep F3 ?_ ⟨?_, xs, ep, .head _, forall2_mono (fun _ _ e => e.mono (subT_of fun p hp => .tail _ hp)) E3, ?_⟩ sz low'⟩
  · intro p hp
    rcases List.mem_cons.mp hp with rfl | hp
    · exact ⟨g1, Nat.ne_of_gt dl, Heap.get?_none_of_le (Nat.le_of_lt (Nat.lt_of_le_of_lt big dl))⟩
    · exact N3 p hp
  · exact beq_eq_false_iff_ne.mpr (Nat.ne_of_gt (Nat.lt_trans hbig (Nat.lt_of_le_of_lt big dl)))
  · have e : (ks.zip ls).map (·.1) = ks := List.map_fst_zip (by omega)
    rw [e]; exact hn
theorem meets_len_es (w : World) (d : Addr) (hd : (d == sysModules) = false) (es : List DictEntry) :
    MeetsIn rwProg w (Builtin.«dict.__len__» ⟨[.ref d], []⟩) (fun _ R s => (∃ n, s.heap.get? d = some (dictOf es n)) ∧ R (.ok (.ret (.int es.length s.toks))) { s with toks := s.toks + 1 }) :=
  .of_wp fun A R s ⟨⟨n, ho⟩, h⟩ => by
    show wpAny _ _ (dictSize d >>= _) _ _ s
    unfold dictSize
    refine wpAny_bind (wpAny_bind (wpAny_dictEntries ho rfl (wpAny_pure ?_)))
    show wpAny _ _ (Builtin.Dict.pendingCount d >>= _) _ _ s
    refine wpAny_bind (wpAny_pendingCount_other hd ?_)
    refine wpAny_ret_mkInt ?_
    have : es.toArray.size = es.length := by simp
    rw [Nat.add_zero, this]; exact h
/-- len of a table -/
theorem len_tab {d : Addr} {tb : List (T × T)} {Q : Value → Shared → Prop} (N : News h₀ L s.heap news) (tab : TabIn w news d tb) (hz : tb.length ≤ 1000)
    (h : ∀ tk tk', Q (.int (tb.length : Int) tk) { s with toks := tk' }) : wpAny (model rwProg w) A (call (.builtin "len") [.ref d]) Q E s := by
  obtain ⟨hm, xs, n, hd, hf, _⟩ := tab
  have g := (N _ hd).1
  have hT : s.TypeIs (.ref d) "dict" := ⟨_, g, rfl⟩
  have lx : xs.length = tb.length := by
    have := congrArg List.length (keys_eq hf)
    simpa only [List.length_map] using this
  refine Calls.call_function_entry kind_len plain_len entry_len (args_len1 _) ?_
  unfold Builtin.«len»
  refine wpAny_bind (m := oneArg "len" _) (wpAny_pure ?_)
  refine wpAny_bind (m := callSpecial? (.ref d) (Str.ofString "__len__")) (wpAny_callSpecial?_slot (name := Str.ofString "__len__") hT F.slot_dict_len
    (call_meetsIn F.slot_dict_len hT F.entry_dict_len (F.args_dict_len_1 _) (meets_len_es w d hm (xs.map (entK w))) ⟨⟨n, g⟩, ?_⟩))
  rw [List.length_map, lx]
  show wpAny _ _ _ _ _ { s with toks := s.toks + 1 }
  refine wpAny_bind (wpAny_holding (wpAny_pure ?_))
  refine wpAny_bind (wpAny_letGo ?_)
  show wpAny _ _ (if ((tb.length : Nat) : Int) < 0 then _ else _) _ _ _
  rw [if_neg (by omega)]
  show wpAny _ _ (if ((tb.length : Nat) : Int) ≥ 2 ^ 63 then _ else _) _ _ _
  rw [if_neg (by omega)]
  exact wpAny_bind (wpAny_mkInt (wpAny_pure ⟨_, rfl, h _ _⟩))
end
section
variable {w : World} {A : Around} {E : Value → Shared → Prop} {s : Shared} {h₀ : Heap} {L : Addr} {m : Str → Option Value} {news : List (Addr × Obj)}
theorem tabOf_len (ls : List T) : (tabOf ls).length = ls.length := by
  unfold tabOf
  rw [List.length_zip, List.length_map, namesN_len, Nat.min_self]
theorem dict_zipT {t l : Addr} {vs ys : List Value} {n0 : Nat} {ts : List T} {Q : Value → Shared → Prop} (Z : ZipF h₀ L m news t l vs ys n0 s.heap) (hbig : sysModules < h₀.objs.size)
    (hk : TAll news vs (T.dats ((namesN ts.length).map T.sym))) (hv : TAll news ys (T.dats ts)) (hlen : ts.length ≤ 40) (hh : A.handled = none) (hu : A.units + 60 < cLine)
    (h : ∀ D h' tk (xs : List (T × Addr × Value)) n, Fr h₀ L h' m → News h₀ L h' ((D, dictOf (xs.map (entK w)) n) :: news) → TabIn w ((D, dictOf (xs.map (entK w)) n) :: news) D (tabOf ts) → (∀ p ∈ news, p.1 < D) → Q (.ref D) { s with heap := h', toks := tk }) :
    wpAny (model rwProg w) A (call (.type "dict") [.ref (n0 + 4)]) Q E s := by
  refine dict_zip Z hbig hk hv (by rw [List.length_map, namesN_len]) (names_nodup (by omega)) (fun k hk => ?_) (by rw [List.length_map, namesN_len, sizeLine_eq]; omega) hh hu fun D h' tk xs n F N T _ l => h D h' tk xs n F N T l
  obtain ⟨x, _, rfl⟩ := List.mem_map.mp hk
  simp [T.dep]
theorem ne_int_same {a b : Int} {t u : Tok} {Q : Value → Shared → Prop} (e : a = b) (h : Q (.bool false) s) : wpAny (model rwProg w) A (compareOp .NotEq (.int a t) (.int b u)) Q E s :=
  P.ne_int (by rw [e]; simpa using h)
theorem eq_int_same {a b : Int} {t u : Tok} {Q : Value → Shared → Prop} (e : a = b) (h : Q (.bool true) s) : wpAny (model rwProg w) A (compareOp .Eq (.int a t) (.int b u)) Q E s :=
  P.eq_int (by rw [e]; simpa using h)
end
section
variable {w : World} {Y news ex : List (Addr × Obj)}
  {dp un : Nat} {gd : Option (List Code)} {cn : Str} {cs : Scope} {fa : Addr} {ccd : Value} {cl : List (Str × Addr)} {outer : List Env} {A₀ : Around} {base h₀ : Heap} {L : Addr} {m : Str → Option Value} {s : Shared}
  {mean : ExcName → Option Value} {mg mb : Str → Option Value} {Q E : Value → Shared → Prop}
theorem put_use2 {t : T} {v : Value} {d : Addr} {tb : List (T × T)} (C : PutC w tb t) (ho : t.ok) (hdep : t.dep ≤ 3) (B : Below A₀ base outer h₀) (F : Fr h₀ L s.heap m) (X : (hd.heap_39 w.params).In h₀) (N : News h₀ L s.heap news) (hv : TIn news v t.dat) (ht : TabIn w news d tb)
    (Tp : Top hd.view_39 (looseW hd.view_39 [Str.ofString "RowsError"]) mean mg mb h₀) (hk : cs.kind = .function)
    (hd : dp + (8 + 6 * t.dep) < recursionLimit) (hu : un + (80 + 40 * t.dep) < cLine)
    (ret : ∀ r Y₂ h' tk', GrowT news Y₂ → Fr h₀ L h' m → News h₀ L h' Y₂ → TIn Y₂ r (putT tb t).dat → Q r { s with heap := h', toks := tk' }) :
    wpAny (model PySem.Challenge.rw_pq0689_01.row.prog w) (ktrTop dp un gd cn cs L fa ccd cl outer) (call (.ref 245) [v, .ref d]) Q E s :=
  put_use C ho hdep hv ht B F X N Tp hk Cut.tail hd hu fun r Y₂ h' tk' g F' N' hr => ret r Y₂ h' tk' g F' N' hr
end
end

section
-- Facts
theorem oks_of {ps : List T} (h : ∀ p ∈ ps, p.ok) : T.oks ps := by
  induction ps with
  | nil => exact trivial
  | cons p ps ih => exact ⟨h p (.head _), ih fun q hq => h q (.tail _ hq)⟩
theorem deps_of {ps : List T} {d : Nat} (h : ∀ p ∈ ps, p.dep ≤ d) : T.deps ps ≤ d := by
  induction ps with
  | nil => exact Nat.zero_le _
  | cons p ps ih => exact Nat.max_le.mpr ⟨h p (.head _), ih fun q hq => h q (.tail _ hq)⟩
theorem leaf_ok {t : T} (h : LeafOk t) : t.ok ∧ t.dep ≤ 1 := by
  obtain ⟨k, hk, rfl⟩ := h
  match k with
  | 0 | 1 | 2 | 3 | 4 | 5 | 6 => simp [leafT, T.ok, T.oks, T.dep, T.deps]
  | k + 7 => omega
theorem cal_ok {t : T} (h : CalOk t) : t.ok ∧ t.dep ≤ 1 := by
  rcases h with ⟨x, _, rfl⟩ | rfl <;> simp [T.ok, T.oks, T.dep, T.deps]
theorem tree_ok : ∀ (n : Nat) (t : T), TreeOk n t → t.ok ∧ t.dep ≤ n + 1
  | 0, t, h => h.elim (fun h => leaf_ok h) fun h => h.elim
  | n + 1, t, h => by
    rcases h with h | ⟨c, ps, rfl, hc, _, h3, hp⟩
    · have := leaf_ok h
      exact ⟨this.1, by omega⟩
    · have h1 := cal_ok hc
      have h2 : ∀ q ∈ c :: ps, q.ok ∧ q.dep ≤ n + 1 := fun q hq => by
        rcases List.mem_cons.mp hq with rfl | hq
        · exact ⟨h1.1, by omega⟩
        · exact tree_ok n q (hp q hq)
      refine ⟨⟨?_, oks_of fun q hq => (h2 q hq).1⟩, Nat.succ_le_succ (deps_of fun q hq => (h2 q hq).2)⟩
      rw [List.length_cons]
      omega
theorem bodyTs_all {P : T → Prop} : ∀ {ps : List T} {k : Nat}, (∀ p ∈ ps, ∀ k, P (bodyT p k)) → ∀ q ∈ bodyTs ps k, P q
  | p :: ps, k, h, q, hq => by
    rcases List.mem_cons.mp hq with rfl | hq
    · exact h p (.head _) k
    · exact bodyTs_all (fun r hr => h r (.tail _ hr)) q hq
theorem leafB_ok {t : T} {k : Nat} : (leafB t k).ok ∧ (leafB t k).dep ≤ 0 := by
  unfold leafB
  cases t <;> simp [isLitT, T.ok, T.dep]
theorem calB_ok {t : T} {k : Nat} : (calB t k).ok ∧ (calB t k).dep ≤ 0 := by
  unfold calB
  cases t <;> simp [isSymT, T.ok, T.dep]
theorem body_ok : ∀ (n : Nat) (t : T) (k : Nat), TreeOk n t → (bodyT t k).ok ∧ (bodyT t k).dep ≤ n
  | 0, t, k, h => h.elim (fun h => by rw [body_leaf (leaf_kind h)]; exact leafB_ok) fun h => h.elim
  | n + 1, t, k, h => by
    rcases h with h | ⟨c, ps, rfl, hc, _, h3, hp⟩
    · rw [body_leaf (leaf_kind h)]
      have := leafB_ok (t := t) (k := k)
      exact ⟨this.1, by omega⟩
    · unfold bodyT
      rw [if_pos rfl]
      have h2 : ∀ q ∈ calB c k :: bodyTs ps (k + (calL c).length), q.ok ∧ q.dep ≤ n := fun q hq => by
        rcases List.mem_cons.mp hq with rfl | hq
        · exact ⟨calB_ok.1, Nat.le_trans calB_ok.2 (Nat.zero_le _)⟩
        · exact bodyTs_all (P := fun q => q.ok ∧ q.dep ≤ n) (fun p hm k => body_ok n p k (hp p hm)) q hq
      refine ⟨⟨?_, oks_of fun q hq => (h2 q hq).1⟩, Nat.succ_le_succ (deps_of fun q hq => (h2 q hq).2)⟩
      rw [List.length_cons, bodyTs_len]
      omega
mutual
theorem plain_dep : ∀ t : T, (plainT t).dep ≤ t.dep
  | .sym _ => Nat.le_refl _
  | .int _ => Nat.le_refl _
  | .text _ => Nat.le_refl _
  | .ex h ps => by
    unfold plainT
    split
    · exact Nat.succ_le_succ (plains_dep ps)
    · exact Nat.le_refl _
theorem plains_dep : ∀ ts : List T, T.deps (plainTs ts) ≤ T.deps ts
  | [] => Nat.le_refl _
  | t :: ts => by
    have h1 := plain_dep t
    have h2 := plains_dep ts
    simp only [plainTs, T.deps]
    omega
end
section
variable {prog : Program} {w : World} {A : Around} {E : Value → Shared → Prop} {s : Shared} {h₀ : Heap} {L : Addr} {news : List (Addr × Obj)} {Q : Value → Shared → Prop}
theorem eq_treeV {x y : T} {v u : Value} (N : News h₀ L s.heap news) (D1 : TIn news v x.dat) (D2 : TIn news u y.dat) (hd : x.dep ≤ 4) (hu : A.units + 30 < cLine) (e : x = y) (h : Q (.bool true) s) : wpAny (model prog w) A (compareOp .Eq v u) Q E s := by
  classical
  subst e
  obtain ⟨a, rfl⟩ := tree_ref D1
  obtain ⟨b, rfl⟩ := tree_ref D2
  have hc := cmpT x x
  have hdep := depD_le x
  have key : ∀ {ds : List Dat}, x.dat = .tuple ds → wpAny (model prog w) A (compareOp .Eq (.ref a) (.ref b)) Q E s := by
    intro ds e1
    rw [e1] at D1 hdep D2 hc
    simp only [cmpD] at hc
    simp only [depD] at hdep
    exact eq_dat (heldOf N) D1 D2 hc (by omega) hu (by simpa using h)
  cases x <;> exact key rfl
end
end

section
-- Right
theorem reset_Right : True := by
  w_top off
  trivial
local macro_rules | `(tactic| lsm_bools) => `(tactic| first | exact List.Mem.head _ | assumption | (refine' List.Mem.tail _ ?_; lsm_bools) | (refine' GrowT.mem ?g ?h; (case g => assumption); (case h => lsm_bools)) | fail "no entry")
local macro_rules | `(tactic| k_mem) => `(tactic| first | lsm_bools | fail "no entry")
local macro_rules | `(tactic| tb_start) => `(tactic| first
  | exact List.forall_mem_nil _
  | (refine' List.forall_mem_cons.mpr ⟨?a, ?b⟩; (case a => lsm_bools); (case b => tb_start))
  | (intro p hp; repeat (first | exact hp | refine List.mem_cons_of_mem _ ?_ | refine List.Mem.tail _ ?_ | refine GrowT.mem' (by assumption) ?_ | refine GrowT.mem (by assumption) ?_ | fail "no entry"))
  | fail "not within")
local macro_rules | `(tactic| k_all) => `(tactic| first
  | assumption
  | (refine' GrowT.off ?g ?o ?N ?s ?m ?c; (case g => assumption); (case o => k_all); (case N => k_asm); (case s => tb_start); (case m => lsm_bools); (case c => rfl))
  | (refine' offLt ?h ?s; (case h => assumption); (case s => tb_start))
  | fail "not apart")
local macro_rules | `(tactic| k_lt $h:ident) => `(tactic| (have hl9 := $h; replace $h := allLt_of $h; simp only [AllLt, and_true] at $h:ident))
local macro_rules | `(tactic| kqd_sub) => `(tactic| first
  | (refine' Cut.own ?m ?r; (case m => lsm_bools); (case r => kqd_sub))
  | (refine' Cut.oth ?o ?r; (case o => k_all); (case r => kqd_sub))
  | exact Cut.tail
  | fail "no cut")
local macro_rules | `(tactic| ktr_rel) => `(tactic| first
  | exact subT_nil
  | exact subT_of (fun _ hp => hp)
  | assumption
  | (refine' subT_skip ?a ?b; (case a => rfl); (case b => ktr_rel))
  | (refine' subT_cons ?a ?b; (case a => lsm_bools); (case b => ktr_rel))
  | (refine' subT_of ?h; (case h => tb_start))
  | (refine' subT_app ?a ?b; (case a => ktr_rel); (case b => ktr_rel))
  | fail "tuples not within")
local macro_rules | `(tactic| k_room) => `(tactic| ktr_room)
local macro_rules | `(tactic| k_units) => `(tactic| ktr_units)
local macro_rules | `(tactic| tb_rel) => `(tactic| first
  | exact TAll.nil
  | exact TIn.str _ _
  | exact TIn.int _ _
  | exact TIn.bytes _ _
  | assumption
  | (refine' TIn.mono ?s ?h; (case h => assumption); (case s => ktr_rel))
  | (refine' TAll.mono ?s ?h; (case h => assumption); (case s => ktr_rel))
  | (refine' TIn.tuple ?m ?r; (case m => lsm_bools); (case r => tb_rel))
  | (refine' TAll.cons ?h ?t; (case h => tb_rel); (case t => tb_rel))
  | fail "no tree")
local macro_rules | `(tactic| walk_at "compareOp In str ref") => `(tactic| (k_here; k_dflt (refine' in_tupL ?ht ?hi ?_; (case ht => (refine' tupK ?X ?l; (case X => k_in); (case l => k_is))); (case hi => exact rfl))))
local macro_rules | `(tactic| walk_at "compareOp Eq ref ref") => `(tactic| (k_here; k_dflt (first
  | (refine' eq_dat (r := false) ?H ?d1 ?d2 ?hc ?hd ?hu ?_; (case H => exact heldOf (by k_asm)); (case d1 => tb_rel); (case d2 => tb_rel); (case hc => with_unfolding_all rfl); (case hd => exact Nat.le_of_ble_eq_true rfl); (case hu => ktr_units))
  | (refine' eq_dat (r := true) ?H ?d1 ?d2 ?hc ?hd ?hu ?_; (case H => exact heldOf (by k_asm)); (case d1 => tb_rel); (case d2 => tb_rel); (case hc => with_unfolding_all rfl); (case hd => exact Nat.le_of_ble_eq_true rfl); (case hu => ktr_units)))))
local macro_rules | `(tactic| walk_at "compareOp NotEq ref ref") => `(tactic| (k_here; k_dflt (first
  | (refine' ne_dat (r := false) ?H ?d1 ?d2 ?hc ?hd ?hu ?_; (case H => exact heldOf (by k_asm)); (case d1 => tb_rel); (case d2 => tb_rel); (case hc => with_unfolding_all rfl); (case hd => exact Nat.le_of_ble_eq_true rfl); (case hu => ktr_units))
  | (refine' ne_dat (r := true) ?H ?d1 ?d2 ?hc ?hd ?hu ?_; (case H => exact heldOf (by k_asm)); (case d1 => tb_rel); (case d2 => tb_rel); (case hc => with_unfolding_all rfl); (case hd => exact Nat.le_of_ble_eq_true rfl); (case hu => ktr_units)))))
local macro_rules | `(tactic| walk_at "subscriptTail Name Constant ref int") => `(tactic| (k_here; k_dflt (refine' item_tupleT ?t ?a ?b ?c ?d ?_; (case t => exact News.isTup (by k_asm) (by k_mem)); (case a => decide); (case b => decide); (case c => rfl); (case d => rfl); k_whole)))
local macro_rules | `(tactic| walk_at "ite") => `(tactic| (k_closed; k_dflt (first | (refine' ite_pos ?c ?_; (case c => decide)) | (refine' ite_neg ?c ?_; (case c => decide)))))
local macro_rules | `(tactic| walk_at "call type:range cons nil") => `(tactic| (k_here; k_dflt (refine' range1_rows ?F ?N ?_; (case F => k_asm); (case N => k_asm); k_whole; intro h' tk' t1' u1' v1' hR' F' N' hst'; (try k_fold))))
local macro_rules | `(tactic| walk_at "pyIter ref") => `(tactic| (k_here; (with_reducible show wpAny _ _ (pyIter (Value.ref _)) (fun it s₂ => LoopAtV _ _ _ _ _ _ _ _ _ it s₂) _ _); refine' Hold.of ?_))
local macro_rules | `(tactic| walk_at "binaryOp Add ref ref") => `(tactic| (k_here; k_dflt (refine' add_cat ?F ?N ?a ?b ?z ?_; (case F => k_asm); (case N => k_asm); (case a => lsm_bools); (case b => lsm_bools); (case z => (simp only [sizeLine_eq, List.length_cons, List.length_nil]; omega)); k_whole; intro D' h' F' N' l1; (try k_lt l1); (try k_sweep))))
local macro_rules | `(tactic| walk_at "subscriptTail Name Slice ref ref") => `(tactic| (k_here; k_dflt (first
  | (refine' slice_whole ?F ?N ?t ?l ?z ?_ ?hs ?hg; (case F => k_asm); (case N => k_asm); (case t => lsm_bools); (case l => exact Nat.le_of_ble_eq_true rfl); (case z => exact Nat.le_of_ble_eq_true rfl); (case hs => with_unfolding_all rfl); (case hg => (intro _; with_unfolding_all rfl)); k_whole; intro h' F' N'; (try k_sweep))
  | (refine' slice_upto ?F ?N ?t ?l ?z ?_ ?hs ?hg; (case F => k_asm); (case N => k_asm); (case t => lsm_bools); (case l => exact Nat.le_of_ble_eq_true rfl); (case z => exact Nat.le_of_ble_eq_true rfl); (case hs => with_unfolding_all rfl); (case hg => (intro _; with_unfolding_all rfl)); k_whole; intro D' h' F' N' l1; (try k_lt l1); (try k_sweep)))))
local macro_rules | `(tactic| walk_at "subscriptTail Name Slice ref ref") => `(tactic| (k_here; k_dflt
  (refine' slice_from ?F ?N ?t ?o ?l ?z ?_ ?hs ?hg; (case F => k_asm); (case N => k_asm); (case t => lsm_bools); (case o => exact Nat.le_of_ble_eq_true rfl); (case l => (simp only [List.length_cons]; omega)); (case z => (simp only [sizeLine_eq, List.length_cons]; omega)); (case hs => with_unfolding_all rfl); (case hg => (intro _; with_unfolding_all rfl)); k_whole; intro D' h' F' N' l1; (try k_lt l1); (try k_sweep))))
local macro_rules | `(tactic| walk_at "subscriptTail Subscript Name Constant Slice ref ref") => `(tactic| (k_here; k_dflt
  (refine' slice_from ?F ?N ?t ?o ?l ?z ?_ ?hs ?hg; (case F => k_asm); (case N => k_asm); (case t => lsm_bools); (case o => exact Nat.le_of_ble_eq_true rfl); (case l => (simp only [List.length_cons]; omega)); (case z => (simp only [sizeLine_eq, List.length_cons]; omega)); (case hs => with_unfolding_all rfl); (case hg => (intro _; with_unfolding_all rfl)); k_whole; intro D' h' F' N' l1; (try k_lt l1); (try k_sweep))))
local macro_rules | `(tactic| walk_at "call type:tuple cons nil") => `(tactic| (k_here; k_dflt (refine' tuple_of ?F ?N ?t ?z ?_; (case F => k_asm); (case N => k_asm); (case t => lsm_bools); (case z => first | exact Nat.le_of_ble_eq_true rfl | (simp only [sizeLine_eq, List.length_append, List.length_cons, List.length_nil]; omega)); k_whole; intro D' h' F' N' l1; (try k_lt l1); (try k_sweep))))
local macro_rules | `(tactic| walk_at "subscriptTail Name Constant ref int") => `(tactic| (k_here; k_dflt (refine' item_tupI ?N ?m ?a ?b ?c ?_; (case N => k_asm); (case m => lsm_bools); (case a => decide); (case b => decide); (case c => exact rfl); k_whole)))
local macro_rules | `(tactic| walk_at "subscriptTail Subscript Name Constant Constant ref int") => `(tactic| (k_here; k_dflt (refine' item_tupI ?N ?m ?a ?b ?c ?_; (case N => k_asm); (case m => lsm_bools); (case a => decide); (case b => decide); (case c => exact rfl); k_whole)))
local macro_rules | `(tactic| walk_at "subscriptTail Subscript Subscript Constant Constant ref int") => `(tactic| (k_here; k_dflt (refine' item_tupI ?N ?m ?a ?b ?c ?_; (case N => k_asm); (case m => lsm_bools); (case a => decide); (case b => decide); (case c => exact rfl); k_whole)))
local macro_rules | `(tactic| walk_at "subscriptTail Call Name cons nil Constant ref int") => `(tactic| (k_here; k_dflt (refine' item_tupI ?N ?m ?a ?b ?c ?_; (case N => k_asm); (case m => lsm_bools); (case a => decide); (case b => decide); (case c => exact rfl); k_whole)))
local macro_rules | `(tactic| walk_at "binaryOp Add ref ref") => `(tactic| (k_here; k_dflt (refine' add_tupC ?F ?N ?a ?b ?l1 ?l2 ?z ?_; (case F => k_asm); (case N => k_asm); (case a => lsm_bools); (case b => lsm_bools); (case l1 => (simp only [List.length_cons, List.length_nil]; omega)); (case l2 => omega); (case z => (simp only [sizeLine_eq, List.length_cons, List.length_nil]; omega)); k_whole; intro D' h' F' N' l1; (try k_lt l1); (try k_sweep))))
local macro_rules | `(tactic| walk_at "call type:tuple cons nil") => `(tactic| (k_here; k_dflt (refine' tuple_same ?N ?t ?_; (case N => k_asm); (case t => lsm_bools); k_whole)))
local macro_rules | `(tactic| walk_at "call builtin:len cons nil") => `(tactic| (k_here; k_dflt (refine' len_tupK ?N ?t ?z ?_; (case N => k_asm); (case t => lsm_bools); (case z => (simp only [sizeLine_eq, List.length_cons, List.length_nil]; omega)); k_whole; intro tk1' tk2')))
local macro_rules | `(tactic| walk_at "eval ListComp") => `(tactic| (k_here; refine' Hold.of ?_))
local macro_rules | `(tactic| walk_at "compareOp NotEq ref ref") => `(tactic| (k_here; k_dflt (refine' ne_dat (r := false) ?H ?d1 ?d2 ?hc ?hd ?hu ?_; (case H => exact heldOf (by k_asm)); (case d1 => tb_rel); (case d2 => tb_rel); (case hc => exact cmp_head (by assumption) _); (case hd => exact Nat.le_of_ble_eq_true rfl); (case hu => ktr_units))))
local macro_rules | `(tactic| walk_at "call ref") => `(tactic| (k_here; (with_reducible show wpAny _ _ (call (Value.ref 233) [_] _) _ _ _); k_dflt (refine' plain_use ?C ?ho ?hv ?B ?F ?X ?N ?T ?hk ?hc ?hd ?hu ?_; (case C => assumption); (case ho => assumption); (case hv => assumption); (case B => k_asm); (case F => k_asm); (case X => k_asm); (case N => k_asm); (case T => k_asm); (case hk => first | rfl | assumption); (case hc => kqd_sub); (case hd => ktr_room); (case hu => ktr_units); k_whole; intro r' Y' h' tk' g' F' N' hr'; (try simp only [List.cons_append, List.nil_append] at N'); (try k_fold))))
local macro_rules | `(tactic| walk_at "call ref") => `(tactic| (k_here; (with_reducible show wpAny _ _ (call (Value.ref 240) [_] _) _ _ _); k_dflt (refine' things_use ?C ?ho ?hv ?B ?F ?X ?N ?T ?hk ?hc ?hd ?hu ?_; (case C => assumption); (case ho => assumption); (case hv => assumption); (case B => k_asm); (case F => k_asm); (case X => k_asm); (case N => k_asm); (case T => k_asm); (case hk => first | rfl | assumption); (case hc => kqd_sub); (case hd => ktr_room); (case hu => ktr_units); k_whole; intro a' vs' k' Y' h' tk' g' F' N' hr' hrl'; (try simp only [List.cons_append, List.nil_append] at N'); (try k_fold))))
local macro_rules | `(tactic| walk_at "exec For Name Subscript") => `(tactic| (k_here; (rename Fr _ _ _ _ => lF'); (with_unfolding_all refine' For_invVF lF' ?k1 ?k2 ?_; (case k1 => exact rfl); (case k2 => exact rfl); k_whole)))
local macro_rules | `(tactic| walk_at "compareOp Eq ref ref") => `(tactic| (k_here; k_dflt (refine' eq_dat (r := false) ?H ?d1 ?d2 ?hc ?hd ?hu ?_; (case H => exact heldOf (by k_asm)); (case d1 => tb_rel); (case d2 => tb_rel); (case hc => exact cmp_head (by assumption) _); (case hd => exact Nat.le_of_ble_eq_true rfl); (case hu => ktr_units))))
local macro_rules | `(tactic| walk_at "compareOp Eq str str") => `(tactic| (k_here; k_dflt (refine' eq_str_no ?h ?_; (case h => assumption); k_whole)))
local macro_rules | `(tactic| walk_at "compareOp In ref ref") => `(tactic| (k_here; k_dflt (first
  | (refine' in_tab_some ?hl ?N ?hv ?ht ?tab ?hu ?_; (case hl => assumption); (case N => k_asm); (case hv => (refine' TIn.mono ?s ?h; (case h => assumption); (case s => exact subT_of (by tb_start)))); (case ht => assumption); (case tab => (refine' TabIn.mono ?s ?h; (case h => assumption); (case s => tb_start))); (case hu => ktr_units); k_whole; intro tk')
  | (refine' in_tab_none ?hl ?N ?hv ?ht ?tab ?hu ?_; (case hl => assumption); (case N => k_asm); (case hv => (refine' TIn.mono ?s ?h; (case h => assumption); (case s => exact subT_of (by tb_start)))); (case ht => assumption); (case tab => (refine' TabIn.mono ?s ?h; (case h => assumption); (case s => tb_start))); (case hu => ktr_units); k_whole; intro tk'))))
local macro_rules | `(tactic| walk_at "subscriptTail Name Name ref ref") => `(tactic| (k_here; k_dflt (refine' item_tab ?N ?hv ?ht ?tab ?hl ?hu ?_ ?hs ?hg; (case hl => assumption); (case N => k_asm); (case hv => (refine' TIn.mono ?s ?h; (case h => assumption); (case s => exact subT_of (by tb_start)))); (case ht => assumption); (case tab => (refine' TabIn.mono ?s ?h; (case h => assumption); (case s => tb_start))); (case hu => ktr_units); (case hs => with_unfolding_all rfl); (case hg => (intro _; with_unfolding_all rfl)); k_whole; intro tk' r' hr')))
local macro_rules | `(tactic| walk_at "call ref") => `(tactic| (k_here; (with_reducible show wpAny _ _ (call (Value.ref 245) [_, Value.ref _] _) _ _ _); k_dflt (refine' put_use ?C ?ho ?hdep ?hv ?ht ?B ?F ?X ?N ?T ?hk ?hc ?hd ?hu ?_; (case C => assumption); (case ho => assumption); (case hdep => assumption); (case hv => assumption); (case ht => assumption); (case B => k_asm); (case F => k_asm); (case X => k_asm); (case N => k_asm); (case T => k_asm); (case hk => first | rfl | assumption); (case hc => kqd_sub); (case hd => ktr_room); (case hu => ktr_units); k_whole; intro r' Y' h' tk' g' F' N' hr'; (try simp only [List.cons_append, List.nil_append] at N'); (try k_fold))))
local macro_rules | `(tactic| walk_at "compareOp NotEq ref ref") => `(tactic| (k_here; k_dflt (refine' ne_val ?X ?N ?e1 ?e2 ?h1 ?h2 ?hu ?_; (case X => k_in); (case N => k_asm); (case e1 => first | assumption | k_is); (case e2 => first | assumption | k_is); (case h1 => lsm_bools); (case h2 => lsm_bools); (case hu => ktr_units); k_whole)))
local macro_rules | `(tactic| walk_at "compareOp NotEq ref ref") => `(tactic| (k_here; k_dflt (refine' ne_list ?N ?h1 ?h2 ?d1 ?d2 ?ok ?hu ?_; (case N => k_asm); (case h1 => lsm_bools); (case h2 => lsm_bools); (case d1 => (refine' TAll.mono ?s ?h; (case h => assumption); (case s => exact subT_of (by tb_start)))); (case d2 => (refine' TAll.mono ?s ?h; (case h => assumption); (case s => exact subT_of (by tb_start)))); (case ok => assumption); (case hu => ktr_units); k_whole)))
local macro_rules | `(tactic| walk_at "call builtin:len cons nil") => `(tactic| (k_here; k_dflt (refine' len_listK ?N ?t ?z ?_; (case N => k_asm); (case t => lsm_bools); (case z => (rw [sizeLine_eq]; omega)); k_whole; intro tk1' tk2')))
local macro_rules | `(tactic| walk_at "subscriptTail Name Slice ref ref") => `(tactic| (k_here; k_dflt (first
  | (refine' list_upto ?F ?N ?t ?e ?_ ?hs ?hg ?z; (case F => k_asm); (case N => k_asm); (case t => lsm_bools); (case e => assumption); (case z => (simp only [sizeLine_eq]; first | omega | (simp; omega))); (case hs => with_unfolding_all rfl); (case hg => (intro _; with_unfolding_all rfl)); k_whole; intro D' h' F' N' l1; (try k_lt l1); (try k_sweep))
  | (refine' list_from ?F ?N ?t ?e ?_ ?hs ?hg ?z; (case F => k_asm); (case N => k_asm); (case t => lsm_bools); (case e => assumption); (case z => (simp only [sizeLine_eq]; first | omega | (simp; omega))); (case hs => with_unfolding_all rfl); (case hg => (intro _; with_unfolding_all rfl)); k_whole; intro D' h' F' N' l1; (try k_lt l1); (try k_sweep)))))
local macro_rules | `(tactic| walk_at "compareOp NotEq int int") => `(tactic| (k_here; k_dflt (refine' ne_int_same ?e ?_; (case e => omega); k_whole)))
local macro_rules | `(tactic| walk_at "compareOp Eq int int") => `(tactic| (k_here; k_dflt (refine' eq_int_same ?e ?_; (case e => omega); k_whole)))
local macro_rules | `(tactic| walk_at "call type:zip") => `(tactic| (k_here; k_dflt (refine' zip_tl ?F ?N ?t ?l ?_; (case F => k_asm); (case N => k_asm); (case t => lsm_bools); (case l => lsm_bools); k_whole; intro n0' h' Z')))
local macro_rules | `(tactic| walk_at "call type:dict") => `(tactic| (k_here; k_dflt (refine' dict_zipT ?Z ?b ?hk ?hv ?l ?hh ?hu ?_; (case Z => assumption); (case b => exact modules_low (Top.nolimit (by assumption))); (case hk => (refine' TAll.mono ?s ?h; (case h => assumption); (case s => exact subT_of (by tb_start)))); (case hv => (refine' TAll.mono ?s ?h; (case h => assumption); (case s => exact subT_of (by tb_start)))); (case l => assumption); (case hh => rfl); (case hu => ktr_units); k_whole; intro D' h' tk' xs' n' F' N' T' l1; (try k_lt l1); (try k_sweep))))
local macro_rules | `(tactic| walk_at "call builtin:len cons nil") => `(tactic| (k_here; k_dflt (refine' len_tab ?N ?t ?z ?_; (case N => k_asm); (case t => (refine' TabIn.mono ?s ?h; (case h => assumption); (case s => tb_start))); (case z => (simp only [tabOf_len]; omega)); k_whole; intro tk1' tk2'; try simp only [tabOf_len])))
local macro_rules | `(tactic| walk_at "call ref") => `(tactic| (k_here; (with_reducible show wpAny _ _ (call (Value.ref 245) [_, Value.ref _] _) _ _ _); k_dflt (refine' put_use2 ?C ?ho ?hdep ?B ?F ?X ?N ?hv ?ht ?T ?hk ?hd ?hu ?_; (case C => assumption); (case ho => assumption); (case hdep => assumption); (case B => k_asm); (case F => k_asm); (case X => k_asm); (case N => k_asm); (case hv => (refine' TIn.mono ?s ?h; (case h => assumption); (case s => exact subT_of (by tb_start)))); (case ht => (refine' TabIn.mono ?s ?h; (case h => assumption); (case s => tb_start))); (case T => k_asm); (case hk => first | rfl | assumption); (case hd => ktr_room); (case hu => ktr_units); k_whole; intro r' Y' h' tk' g' F' N' hr'; (try simp only [List.cons_append, List.nil_append] at N'); (try k_fold))))
local macro_rules | `(tactic| walk_at "call ref") => `(tactic| (k_here; (with_reducible show wpAny _ _ (call (Value.ref 233) [_] _) _ _ _); k_dflt (refine' plain_use ?C ?ho ?hv ?B ?F ?X ?N ?T ?hk ?hc ?hd ?hu ?_; (case C => assumption); (case ho => assumption); (case B => k_asm); (case F => k_asm); (case X => k_asm); (case N => k_asm); (case T => k_asm); (case hk => first | rfl | assumption); (case hc => kqd_sub); (case hv => (refine' TIn.mono ?s ?h; (case h => assumption); (case s => exact subT_of (by tb_start)))); (case hd => ktr_room); (case hu => ktr_units); k_whole; intro r' Y' h' tk' g' F' N' hr'; (try simp only [List.cons_append, List.nil_append] at N'); (try k_fold))))
local macro_rules | `(tactic| walk_at "compareOp Eq") => `(tactic| (k_here; k_dflt (refine' eq_treeV ?N ?d1 ?d2 ?hd ?hu ?e ?_; (case N => k_asm); (case d1 => (refine' TIn.mono ?s ?h; (case h => assumption); (case s => exact subT_of (by tb_start)))); (case d2 => (refine' TIn.mono ?s ?h; (case h => assumption); (case s => exact subT_of (by tb_start)))); (case hd => assumption); (case hu => ktr_units); (case e => assumption); k_whole)))
set_option maxHeartbeats 8000000 in
theorem right_con (w : World) (told tv : Value) (wd : Str) (tw : Tok) (al bc c2 : Addr) (u1 u3 u4 : Tok) (m1 m2 : Nat) (avs : List Value) (an : Nat) (ah : List T) (t : T) (nn : Nat) (Y : List (Addr × Obj)) (hb1 : (hd.heap_39 w.params).lookup bc = some (tupObj [.str (Str.ofString "value") u1, .ref c2] m1))
    (hb2 : (hd.heap_39 w.params).lookup c2 = some (tupObj [.str (Str.ofString "builtin") u3, .str wd u4] m2)) (hnn : nn ≤ 3) (ht : TreeOk nn t) (hal : (al, listOf (List.toArray avs) an) ∈ Y) (hah : TAll Y avs (T.dats ah)) (hah1 : ah.length ≤ 1) (hahk : ∀ t ∈ ah, kqdOk 8 t.dat = true)
    (htold : ToldIn Y told bc (fnT (thingsT t).length (bodyT t 0)) (ah ++ thingsT t)) (htv : TIn Y tv t.dat) (PC : ∀ t, PutC w (tabOf (thingsT t)) (bodyT t 0)) (LC : PlainC w t) (TC : ThingsC w nn) :
    Con w 252 [told, .str wd tw, .ref al, tv] 50 400 [] Y (fun M' Y₁ r => M' = [] ∧ r = .bool true) := by
  have hto : t.ok := (tree_ok nn t ht).1
  have htd : t.dep ≤ 4 := Nat.le_trans (tree_ok nn t ht).2 (by omega)
  have hbo : (bodyT t 0).ok := (body_ok nn t 0 ht).1
  have hbd : (bodyT t 0).dep ≤ 3 := Nat.le_trans (body_ok nn t 0 ht).2 hnn
  obtain ⟨a, n, t1, t2, b, k, f, lvs, rfl, ha, hb, hf, hl⟩ := htold
  obtain ⟨f, n2, t3, t4, g, gvs, k2, rfl, hf1, hf2, hg⟩ := ex_inv hf
  cases hg with
  | @cons nm _ _ _ hnm hg =>
  cases hg with
  | @cons bv _ _ _ hbv hg =>
  cases hg
  obtain ⟨nm, n3, t5, t6, q, qs, k3, rfl, hn1, hn2, hq⟩ := ex_inv hnm
  obtain ⟨tv, rfl⟩ := tree_ref htv
  have hl60 : lvs.length ≤ 60 := by
    have := hl.length
    have := things_len nn t ht
    have := cntB_le hnn
    rw [dats_len, List.length_append] at *
    omega
  have hav := hah.length
  rw [dats_len] at hav
  have hthk := things_kqd ht
  obtain ⟨l1, l2, rfl, hL1, hL2⟩ := tall_split hl
  have e1 := hL1.length
  have e2 := hL2.length
  rw [dats_len] at e1 e2
  have htk : (l1 ++ l2).take avs.length = l1 := by rw [hav, ← e1]; simp
  have hdr : (l1 ++ l2).drop avs.length = l2 := by rw [hav, ← e1]; simp
  have hqs : qs.length = (thingsT t).length := by
    have := hq.length
    rw [dats_len, List.length_map, namesN_len] at this
    exact this
  have hl3 : (thingsT t).length ≤ 40 := Nat.le_trans (things_len nn t ht) (cntB_le hnn)
  have PCt := PC t
  have hzz := plain_law hnn ht
  have hzd : (putT (tabOf (thingsT t)) (bodyT t 0)).dep ≤ 4 := by rw [hzz]; exact Nat.le_trans (plain_dep t) htd
  refine Con.intro ?_
  intro dp un gd cn cs fa ccd cl outer A₀ base h₀ L m s mean mg mb Q E B0 F X N Tp hk hd hu fin
  simp only [List.nil_append] at N
  refine wpAny_call ?_
  w_strict (
    k_dflt ktr_enter
    k_steps)
  refine' fin [] _ _ _ _ (by k_asm) (by k_asm) (List.forall_mem_nil _) ?Y (fun Y₁ hs => ⟨rfl, rfl⟩)
  case Y => tb_start
end

section
-- FunOver
theorem reset_FunOver : True := by
  w_top off
  trivial
local macro_rules | `(tactic| lsm_bools) => `(tactic| first | exact List.Mem.head _ | assumption | (refine' List.Mem.tail _ ?_; lsm_bools) | (refine' GrowT.mem ?g ?h; (case g => assumption); (case h => lsm_bools)) | fail "no entry")
local macro_rules | `(tactic| k_mem) => `(tactic| first | lsm_bools | fail "no entry")
local macro_rules | `(tactic| tb_start) => `(tactic| first
  | exact List.forall_mem_nil _
  | (refine' List.forall_mem_cons.mpr ⟨?a, ?b⟩; (case a => lsm_bools); (case b => tb_start))
  | (intro p hp; repeat (first | exact hp | refine List.mem_cons_of_mem _ ?_ | refine List.Mem.tail _ ?_ | refine GrowT.mem' (by assumption) ?_ | refine GrowT.mem (by assumption) ?_ | fail "no entry"))
  | fail "not within")
local macro_rules | `(tactic| k_all) => `(tactic| first
  | assumption
  | (refine' GrowT.off ?g ?o ?N ?s ?m ?c; (case g => assumption); (case o => k_all); (case N => k_asm); (case s => tb_start); (case m => lsm_bools); (case c => rfl))
  | (refine' offLt ?h ?s; (case h => assumption); (case s => tb_start))
  | fail "not apart")
local macro_rules | `(tactic| k_lt $h:ident) => `(tactic| (have hl9 := $h; replace $h := allLt_of $h; simp only [AllLt, and_true] at $h:ident))
local macro_rules | `(tactic| kqd_sub) => `(tactic| first
  | (refine' Cut.own ?m ?r; (case m => lsm_bools); (case r => kqd_sub))
  | (refine' Cut.oth ?o ?r; (case o => k_all); (case r => kqd_sub))
  | exact Cut.tail
  | fail "no cut")
local macro_rules | `(tactic| ktr_rel) => `(tactic| first
  | exact subT_nil
  | exact subT_of (fun _ hp => hp)
  | assumption
  | (refine' subT_skip ?a ?b; (case a => rfl); (case b => ktr_rel))
  | (refine' subT_cons ?a ?b; (case a => lsm_bools); (case b => ktr_rel))
  | (refine' subT_of ?h; (case h => tb_start))
  | (refine' subT_app ?a ?b; (case a => ktr_rel); (case b => ktr_rel))
  | fail "tuples not within")
local macro_rules | `(tactic| k_room) => `(tactic| ktr_room)
local macro_rules | `(tactic| k_units) => `(tactic| ktr_units)
local macro_rules | `(tactic| tb_rel) => `(tactic| first
  | exact TAll.nil
  | exact TIn.str _ _
  | exact TIn.int _ _
  | exact TIn.bytes _ _
  | assumption
  | (refine' TIn.mono ?s ?h; (case h => assumption); (case s => ktr_rel))
  | (refine' TAll.mono ?s ?h; (case h => assumption); (case s => ktr_rel))
  | (refine' TIn.tuple ?m ?r; (case m => lsm_bools); (case r => tb_rel))
  | (refine' TAll.cons ?h ?t; (case h => tb_rel); (case t => tb_rel))
  | fail "no tree")
local macro_rules | `(tactic| walk_at "compareOp In str ref") => `(tactic| (k_here; k_dflt (refine' in_tupL ?ht ?hi ?_; (case ht => (refine' tupK ?X ?l; (case X => k_in); (case l => k_is))); (case hi => exact rfl))))
local macro_rules | `(tactic| walk_at "compareOp Eq ref ref") => `(tactic| (k_here; k_dflt (first
  | (refine' eq_dat (r := false) ?H ?d1 ?d2 ?hc ?hd ?hu ?_; (case H => exact heldOf (by k_asm)); (case d1 => tb_rel); (case d2 => tb_rel); (case hc => with_unfolding_all rfl); (case hd => exact Nat.le_of_ble_eq_true rfl); (case hu => ktr_units))
  | (refine' eq_dat (r := true) ?H ?d1 ?d2 ?hc ?hd ?hu ?_; (case H => exact heldOf (by k_asm)); (case d1 => tb_rel); (case d2 => tb_rel); (case hc => with_unfolding_all rfl); (case hd => exact Nat.le_of_ble_eq_true rfl); (case hu => ktr_units)))))
local macro_rules | `(tactic| walk_at "compareOp NotEq ref ref") => `(tactic| (k_here; k_dflt (first
  | (refine' ne_dat (r := false) ?H ?d1 ?d2 ?hc ?hd ?hu ?_; (case H => exact heldOf (by k_asm)); (case d1 => tb_rel); (case d2 => tb_rel); (case hc => with_unfolding_all rfl); (case hd => exact Nat.le_of_ble_eq_true rfl); (case hu => ktr_units))
  | (refine' ne_dat (r := true) ?H ?d1 ?d2 ?hc ?hd ?hu ?_; (case H => exact heldOf (by k_asm)); (case d1 => tb_rel); (case d2 => tb_rel); (case hc => with_unfolding_all rfl); (case hd => exact Nat.le_of_ble_eq_true rfl); (case hu => ktr_units)))))
local macro_rules | `(tactic| walk_at "subscriptTail Name Constant ref int") => `(tactic| (k_here; k_dflt (refine' item_tupleT ?t ?a ?b ?c ?d ?_; (case t => exact News.isTup (by k_asm) (by k_mem)); (case a => decide); (case b => decide); (case c => rfl); (case d => rfl); k_whole)))
local macro_rules | `(tactic| walk_at "ite") => `(tactic| (k_closed; k_dflt (first | (refine' ite_pos ?c ?_; (case c => decide)) | (refine' ite_neg ?c ?_; (case c => decide)))))
local macro_rules | `(tactic| walk_at "call type:range cons nil") => `(tactic| (k_here; k_dflt (refine' range1_rows ?F ?N ?_; (case F => k_asm); (case N => k_asm); k_whole; intro h' tk' t1' u1' v1' hR' F' N' hst'; (try k_fold))))
local macro_rules | `(tactic| walk_at "pyIter ref") => `(tactic| (k_here; (with_reducible show wpAny _ _ (pyIter (Value.ref _)) (fun it s₂ => LoopAtV _ _ _ _ _ _ _ _ _ it s₂) _ _); refine' Hold.of ?_))
local macro_rules | `(tactic| walk_at "binaryOp Add ref ref") => `(tactic| (k_here; k_dflt (refine' add_cat ?F ?N ?a ?b ?z ?_; (case F => k_asm); (case N => k_asm); (case a => lsm_bools); (case b => lsm_bools); (case z => (simp only [sizeLine_eq, List.length_cons, List.length_nil]; omega)); k_whole; intro D' h' F' N' l1; (try k_lt l1); (try k_sweep))))
local macro_rules | `(tactic| walk_at "subscriptTail Name Slice ref ref") => `(tactic| (k_here; k_dflt (first
  | (refine' slice_whole ?F ?N ?t ?l ?z ?_ ?hs ?hg; (case F => k_asm); (case N => k_asm); (case t => lsm_bools); (case l => exact Nat.le_of_ble_eq_true rfl); (case z => exact Nat.le_of_ble_eq_true rfl); (case hs => with_unfolding_all rfl); (case hg => (intro _; with_unfolding_all rfl)); k_whole; intro h' F' N'; (try k_sweep))
  | (refine' slice_upto ?F ?N ?t ?l ?z ?_ ?hs ?hg; (case F => k_asm); (case N => k_asm); (case t => lsm_bools); (case l => exact Nat.le_of_ble_eq_true rfl); (case z => exact Nat.le_of_ble_eq_true rfl); (case hs => with_unfolding_all rfl); (case hg => (intro _; with_unfolding_all rfl)); k_whole; intro D' h' F' N' l1; (try k_lt l1); (try k_sweep)))))
local macro_rules | `(tactic| walk_at "subscriptTail Name Slice ref ref") => `(tactic| (k_here; k_dflt
  (refine' slice_from ?F ?N ?t ?o ?l ?z ?_ ?hs ?hg; (case F => k_asm); (case N => k_asm); (case t => lsm_bools); (case o => exact Nat.le_of_ble_eq_true rfl); (case l => (simp only [List.length_cons]; omega)); (case z => (simp only [sizeLine_eq, List.length_cons]; omega)); (case hs => with_unfolding_all rfl); (case hg => (intro _; with_unfolding_all rfl)); k_whole; intro D' h' F' N' l1; (try k_lt l1); (try k_sweep))))
local macro_rules | `(tactic| walk_at "subscriptTail Subscript Name Constant Slice ref ref") => `(tactic| (k_here; k_dflt
  (refine' slice_from ?F ?N ?t ?o ?l ?z ?_ ?hs ?hg; (case F => k_asm); (case N => k_asm); (case t => lsm_bools); (case o => exact Nat.le_of_ble_eq_true rfl); (case l => (simp only [List.length_cons]; omega)); (case z => (simp only [sizeLine_eq, List.length_cons]; omega)); (case hs => with_unfolding_all rfl); (case hg => (intro _; with_unfolding_all rfl)); k_whole; intro D' h' F' N' l1; (try k_lt l1); (try k_sweep))))
local macro_rules | `(tactic| walk_at "call type:tuple cons nil") => `(tactic| (k_here; k_dflt (refine' tuple_of ?F ?N ?t ?z ?_; (case F => k_asm); (case N => k_asm); (case t => lsm_bools); (case z => first | exact Nat.le_of_ble_eq_true rfl | (simp only [sizeLine_eq, List.length_append, List.length_cons, List.length_nil]; omega)); k_whole; intro D' h' F' N' l1; (try k_lt l1); (try k_sweep))))
local macro_rules | `(tactic| walk_at "subscriptTail Name Constant ref int") => `(tactic| (k_here; k_dflt (refine' item_tupI ?N ?m ?a ?b ?c ?_; (case N => k_asm); (case m => lsm_bools); (case a => decide); (case b => decide); (case c => exact rfl); k_whole)))
local macro_rules | `(tactic| walk_at "subscriptTail Subscript Name Constant Constant ref int") => `(tactic| (k_here; k_dflt (refine' item_tupI ?N ?m ?a ?b ?c ?_; (case N => k_asm); (case m => lsm_bools); (case a => decide); (case b => decide); (case c => exact rfl); k_whole)))
local macro_rules | `(tactic| walk_at "subscriptTail Subscript Subscript Constant Constant ref int") => `(tactic| (k_here; k_dflt (refine' item_tupI ?N ?m ?a ?b ?c ?_; (case N => k_asm); (case m => lsm_bools); (case a => decide); (case b => decide); (case c => exact rfl); k_whole)))
local macro_rules | `(tactic| walk_at "subscriptTail Call Name cons nil Constant ref int") => `(tactic| (k_here; k_dflt (refine' item_tupI ?N ?m ?a ?b ?c ?_; (case N => k_asm); (case m => lsm_bools); (case a => decide); (case b => decide); (case c => exact rfl); k_whole)))
local macro_rules | `(tactic| walk_at "binaryOp Add ref ref") => `(tactic| (k_here; k_dflt (refine' add_tupC ?F ?N ?a ?b ?l1 ?l2 ?z ?_; (case F => k_asm); (case N => k_asm); (case a => lsm_bools); (case b => lsm_bools); (case l1 => (simp only [List.length_cons, List.length_nil]; omega)); (case l2 => omega); (case z => (simp only [sizeLine_eq, List.length_cons, List.length_nil]; omega)); k_whole; intro D' h' F' N' l1; (try k_lt l1); (try k_sweep))))
local macro_rules | `(tactic| walk_at "call type:tuple cons nil") => `(tactic| (k_here; k_dflt (refine' tuple_same ?N ?t ?_; (case N => k_asm); (case t => lsm_bools); k_whole)))
local macro_rules | `(tactic| walk_at "call builtin:len cons nil") => `(tactic| (k_here; k_dflt (refine' len_tupK ?N ?t ?z ?_; (case N => k_asm); (case t => lsm_bools); (case z => (simp only [sizeLine_eq, List.length_cons, List.length_nil]; omega)); k_whole; intro tk1' tk2')))
local macro_rules | `(tactic| walk_at "eval ListComp") => `(tactic| (k_here; refine' Hold.of ?_))
local macro_rules | `(tactic| walk_at "compareOp NotEq ref ref") => `(tactic| (k_here; k_dflt (refine' ne_dat (r := false) ?H ?d1 ?d2 ?hc ?hd ?hu ?_; (case H => exact heldOf (by k_asm)); (case d1 => tb_rel); (case d2 => tb_rel); (case hc => exact cmp_head (by assumption) _); (case hd => exact Nat.le_of_ble_eq_true rfl); (case hu => ktr_units))))
local macro_rules | `(tactic| walk_at "call ref") => `(tactic| (k_here; (with_reducible show wpAny _ _ (call (Value.ref 233) [_] _) _ _ _); k_dflt (refine' plain_use ?C ?ho ?hv ?B ?F ?X ?N ?T ?hk ?hc ?hd ?hu ?_; (case C => assumption); (case ho => assumption); (case hv => assumption); (case B => k_asm); (case F => k_asm); (case X => k_asm); (case N => k_asm); (case T => k_asm); (case hk => first | rfl | assumption); (case hc => kqd_sub); (case hd => ktr_room); (case hu => ktr_units); k_whole; intro r' Y' h' tk' g' F' N' hr'; (try simp only [List.cons_append, List.nil_append] at N'); (try k_fold))))
local macro_rules | `(tactic| walk_at "call ref") => `(tactic| (k_here; (with_reducible show wpAny _ _ (call (Value.ref 240) [_] _) _ _ _); k_dflt (refine' things_use ?C ?ho ?hv ?B ?F ?X ?N ?T ?hk ?hc ?hd ?hu ?_; (case C => assumption); (case ho => assumption); (case hv => assumption); (case B => k_asm); (case F => k_asm); (case X => k_asm); (case N => k_asm); (case T => k_asm); (case hk => first | rfl | assumption); (case hc => kqd_sub); (case hd => ktr_room); (case hu => ktr_units); k_whole; intro a' vs' k' Y' h' tk' g' F' N' hr' hrl'; (try simp only [List.cons_append, List.nil_append] at N'); (try k_fold))))
local macro_rules | `(tactic| walk_at "exec For Name Subscript") => `(tactic| (k_here; (rename Fr _ _ _ _ => lF'); (with_unfolding_all refine' For_invVF lF' ?k1 ?k2 ?_; (case k1 => exact rfl); (case k2 => exact rfl); k_whole)))
local macro_rules | `(tactic| walk_at "compareOp Eq ref ref") => `(tactic| (k_here; k_dflt (refine' eq_dat (r := false) ?H ?d1 ?d2 ?hc ?hd ?hu ?_; (case H => exact heldOf (by k_asm)); (case d1 => tb_rel); (case d2 => tb_rel); (case hc => exact cmp_head (by assumption) _); (case hd => exact Nat.le_of_ble_eq_true rfl); (case hu => ktr_units))))
local macro_rules | `(tactic| walk_at "compareOp Eq str str") => `(tactic| (k_here; k_dflt (refine' eq_str_no ?h ?_; (case h => assumption); k_whole)))
/-- function_over(names, body) -/
def FoC (w : World) : Prop := ∀ (nz : Addr) (nvs : List Value) (n3 n : Nat) (B : T) (bv : Value) (Y : List (Addr × Obj)), n ≤ 60 → (nz, listOf (List.toArray nvs) n3) ∈ Y → TAll Y nvs ((namesN n).map Dat.str) → TIn Y bv B.dat →
  Con w 151 [.ref nz, bv] 12 100 [] Y (fun M' Y₁ r => M' = [] ∧ TIn Y₁ r (fnT n B).dat)
theorem tall_str {Y : List (Addr × Obj)} {vs : List Value} {xs : List Str} (h : TAll Y vs (xs.map Dat.str)) {i : Nat} {v : Value} (hv : vs[i]? = some v) : ∃ x t, v = .str x t ∧ xs[i]? = some x := by
  induction xs generalizing vs i with
  | nil => cases h; simp at hv
  | cons x xs ih =>
    cases h with
    | cons a b =>
      cases i with
      | zero =>
        cases a with
        | str _ t => exact ⟨x, t, by simpa using hv.symm, rfl⟩
      | succ i => simpa using ih b (by simpa using hv)
open LCg
section
variable {prog : Program} {w : World} {A : Around} {E : Value → Shared → Prop} {s : Shared} {h₀ : Heap} {L : Addr} {m : Str → Option Value} {env : Env}
/-- a comprehension over a list of names -/
theorem lsrc_map {elt : Expr} {x : Str} {scope : Scope} {cl : List (Str × Addr)} {Q : Value → Shared → Prop} {ax : Addr} {vs : List Value} {k : Nat} {news : List (Addr × Obj)} {s₁ : Shared} {xs : List Str} (g : Str → T)
    (hh : A.handled = none) (F : Fr h₀ L s₁.heap m) (N : News h₀ L s₁.heap news) (hm : (ax, listOf (List.toArray vs) k) ∈ news) (hz : vs.length ≤ sizeLine) (hT : TAll news vs (xs.map Dat.str))
    (turn : ∀ (i : Nat) (ys : List Value) (nw : List (Addr × Obj)) (y : Str) (t : Tok) (I : Addr) (oI : Obj) (C : Addr) (oC : Obj) (D : Addr) (m₂ : Str → Option Value) (g9 h : Heap) (tk : Nat) (E' : Value → Shared → Prop), (∀ q ∈ news, q ∈ nw) → TAll nw ys (T.dats ((xs.take i).map g)) → T.dats ((xs.take (i + 1)).map g) = T.dats ((xs.take i).map g) ++ [(g y).dat] →
      NsObj oC m₂ → m₂ x = some (.str y t) → Fr h₀ L h m → News h₀ L h ((I, oI) :: (C, oC) :: (D, lst ys) :: nw) → Off3 I C D nw → ((@Ne Nat I C) ∧ (@Ne Nat I D) ∧ (@Ne Nat C D)) →
      wpAny (model prog w) A (eval elt (compEnvC scope cl C env)) (CompEnd h₀ L m { s₁ with heap := h, toks := tk } I oI C oC D (lst ys) (SrcAt h₀ ax (List.toArray vs)) (fun y nw' => (∀ q ∈ news, q ∈ nw') ∧ TAll nw' (ys ++ [y]) (T.dats ((xs.take (i + 1)).map g)))) E' { s₁ with heap := h, toks := tk })
    (fin : ∀ (ys : List Value) (nw : List (Addr × Obj)) (D : Addr) (h : Heap) (tk : Nat), (∀ q ∈ news, q ∈ nw) → TAll nw ys (T.dats (xs.map g)) → Fr h₀ L h m → News h₀ L h ((D, lst ys) :: nw) → Off1 D nw → Q (.ref D) { s₁ with heap := h, toks := tk }) :
    CompSrc prog w A h₀ L m env elt x scope cl (fun s₂ => FinE h₀ L m s₂ Q) (.ref ax) s₁ := by
  have hl : vs.length = xs.length := by
    have := hT.length
    rwa [List.length_map] at this
  refine CompSrc.ledger hh F N hm (by simpa using hz) fun g9 => compRest_inv (n := (List.toArray vs).size) (fun i ys nw => (∀ q ∈ news, q ∈ nw) ∧ TAll nw ys (T.dats ((xs.take i).map g))) ?_ ?_ _ 0 [] news (by simp) ⟨fun _ h => h, by simpa [T.dats] using TAll.nil⟩
  · rintro i ys nw v I oI C oC D m₂ h tk E' hi ⟨j1, j2⟩ hv hoC hx F' N' off ne
    obtain ⟨y, t, rfl, hy⟩ := tall_str hT (by simpa using hv)
    refine turn i ys nw y t I oI C oC D m₂ g9 h tk E' j1 j2 ?_ hoC hx F' N' off ne
    rw [take_snoc hy, List.map_append, dats_append]
    rfl
  · rintro ys nw ⟨j1, j2⟩ D h tk F' N' o1
    refine fin ys nw D h tk j1 ?_ F' N' o1
    rw [List.size_toArray, hl, List.take_length] at j2
    exact j2
end
theorem comp_end1 {h₀ h' : Heap} {L I C D D' : Addr} {m : Str → Option Value} {s₁ : Shared} {oI oC oD o : Obj} {tk' : Nat} {S : List (Addr × Obj) → Prop} {rest : Value → List (Addr × Obj) → Prop} {y : Value} {nw : List (Addr × Obj)}
    (F : Fr h₀ L h' m) (N : News h₀ L h' ((D', o) :: (I, oI) :: (C, oC) :: (D, oD) :: nw)) (hl : ∀ p ∈ (I, oI) :: (C, oC) :: (D, oD) :: nw, p.1 < D') (off : Off3 I C D nw) (hS : S ((D', o) :: nw)) (r : rest y ((D', o) :: nw)) :
    CompEnd h₀ L m s₁ I oI C oC D oD S rest y { s₁ with heap := h', toks := tk' } := by
  refine CompEnd.intro F N ((D', o) :: nw) (fun p hp => ?_) ⟨⟨Nat.ne_of_gt (hl (I, oI) (.head _)), Nat.ne_of_gt (hl (C, oC) (.tail _ (.head _))), Nat.ne_of_gt (hl (D, oD) (.tail _ (.tail _ (.head _))))⟩, off⟩ hS r
  simp only [List.mem_cons] at hp ⊢
  rcases hp with rfl | rfl | rfl | rfl | hp <;> simp_all
set_option maxHeartbeats 8000000 in
theorem fo_con (w : World) : FoC w := by
  intro nz nvs n3 n B bv Y hn hm hN hv
  have hl := hN.length
  rw [List.length_map, namesN_len] at hl
  refine Con.intro ?_
  intro dp un gd cn cs fa ccd cl outer A₀ base h₀ L m s mean mg mb Q E B0 F X N Tp hk hd hu fin
  simp only [List.nil_append] at N
  refine wpAny_call ?_
  w_strict (
    k_dflt ktr_enter
    k_steps)
  unfold Hold
  rename Fr _ _ _ _ => F1
  rename News _ _ _ _ => N1
  refine' LCg.ListComp_U F1 ?hclos ?hcell ?hkind ?hnames ?hx ?h ?hs
  case hclos => with_unfolding_all rfl
  case hcell => decide
  case hkind => rfl
  case hnames => decide
  case hx => rfl
  case hs => (intro _; with_unfolding_all rfl)
  case h =>
    w_strict (
      k_steps)
    refine' lsrc_map (vs := nvs) (k := n3) (xs := namesN n) T.sym ?hh ?F ?N ?hm ?hz (TAll.mono (subT_of ?sub) hN) ?turn ?fin
    case hh => rfl
    case F => k_asm
    case N => k_asm
    case hm => lsm_bools
    case hz => (rw [sizeLine_eq]; omega)
    case sub => tb_start
    case turn =>
      intro i ys nw y t I oI C oC D m₂ g9 h tk E' hsub hT' he hoC hx F' N' off ne
      k_sweep
      w_strict (
        k_steps)
      refine' comp_end1 (s₁ := _) ?F ?N ?hl off ?hS ?r
      case F => k_asm
      case N => k_asm
      case hl => assumption
      case hS => exact .inr ⟨_, .tail _ (hsub _ hm), rfl, _, rfl⟩
      case r =>
        refine ⟨fun q hq => .tail _ (hsub q hq), ?_⟩
        rw [he]
        refine TAll.append (TAll.mono (subT_of fun q hq => .tail _ hq) hT') (.cons ?_ .nil)
        show TIn _ _ (symD _)
        tb_rel
    case fin =>
      intro ys nw D h tk hsub hT' F' N' o1
      have hvn : TIn nw bv B.dat := TIn.mono (subT_of hsub) hv
      have hyl : ys.length ≤ 60 := by
        have := hT'.length
        rw [dats_len, List.length_map, namesN_len] at this
        omega
      k_sweep
      w_strict (
        k_steps)
      refine' fin [] _ _ _ _ (by k_asm) (by k_asm) (List.forall_mem_nil _) ?Y (fun Y₁ hs => ⟨rfl, ?r⟩)
      case Y => exact fun p hp => (show ∀ p ∈ nw, p ∈ _ by tb_start) p (hsub p hp)
      case r =>
        refine TIn.mono hs ?_
        show TIn _ _ (.tuple [sS "expr", sS "->", .tuple [.tuple [sS "expr", sS "tuple", .tuple (T.dats ((namesN n).map T.sym))], B.dat]])
        tb_rel
end

section
-- FusedDef
theorem Cut.has {Ms Y news ex : List (Addr × Obj)} (c : Cut Ms Y news ex) : ∀ p ∈ news, p ∈ Ms ∨ p ∈ ex ++ Y := by
  induction c with
  | tail => exact fun p h => .inr (by simpa using h)
  | own m _ ih =>
    intro p h
    rcases List.mem_cons.mp h with rfl | h
    · exact .inl m
    · exact ih p h
  | oth _ _ ih =>
    intro p h
    rcases List.mem_cons.mp h with rfl | h
    · exact .inr (.head _)
    · exact (ih p h).elim .inl fun q => .inr (.tail _ q)
theorem FuserIn.cut {w : World} {Y news ex : List (Addr × Obj)} {fz fd sz sd nz lz : Addr} {k : Int} {t4 tk : Tok} {xs ys : Array Value} {n3 n4 : Nat} (h : FuserIn w news fz fd sz sd nz lz) (c : Cut (stM w sd nz lz k t4 tk xs n3 ys n4) Y news ex) : FuserIn w (ex ++ Y) fz fd sz sd nz lz := by
  have key : ∀ p ∈ news, p.2.cls ≠ .type "list" → p.2.data ≠ (dictOf [attrE w "many" t4 (.int k tk)] 1).data → p ∈ ex ++ Y := fun p hp h1 h2 => by
    rcases c.has p hp with q | q
    · simp only [List.mem_cons, List.not_mem_nil, or_false] at q
      rcases q with rfl | rfl | rfl
      · exact absurd rfl h2
      · exact absurd rfl h1
      · exact absurd rfl h1
    · exact q
  obtain ⟨a, ⟨t1, t2, t3, b⟩, d⟩ := h
  refine ⟨key _ a ?_ ?_, ⟨t1, t2, t3, key _ b ?_ ?_⟩, key _ d ?_ ?_⟩
  · intro e; cases e
  · intro e; cases e
  · intro e; exact absurd (Value.type.inj e) (by decide)
  · intro e
    have := (Data.dict.inj e).1
    simp at this
  · intro e; cases e
  · intro e; cases e
section
variable {w : World} {Y news ex : List (Addr × Obj)}
  {dp un : Nat} {gd : Option (List Code)} {cn : Str} {cs : Scope} {fa : Addr} {ccd : Value} {cl : List (Str × Addr)} {outer : List Env} {A₀ : Around} {base h₀ : Heap} {L0 : Addr} {m : Str → Option Value} {s : Shared}
  {mean : ExcName → Option Value} {mg mb : Str → Option Value} {Q E : Value → Shared → Prop}
theorem fuse_useX {f : Addr} {dd uu : Nat} {Ok : T → Prop} {L : T → List T} {b : T → Nat → T} {fz fd sz sd nz lz : Addr} {t : T} {v : Value} {ls : List T} {t4 tk : Tok} {xs : Array Value} {n3 : Nat} {ys : Array Value} {n4 : Nat}
    (C : FuseC w f dd uu Ok L b) (ho : Ok t) (hv : TIn Y v t.dat) (hF : FuserIn w news fz fd sz sd nz lz) (hst : FSt w sd nz lz ls t4 tk xs n3 ys n4 Y) (hne : @Ne Nat nz lz) (hlen : ls.length + (L t).length ≤ 60)
    (hm : ∀ p ∈ stM w sd nz lz (ls.length : Int) t4 tk xs n3 ys n4, p ∈ news) (hc : Cut (stM w sd nz lz (ls.length : Int) t4 tk xs n3 ys n4) Y news ex) (y1 : ∀ p ∈ Y, p.1 ≠ sd) (y2 : ∀ p ∈ Y, p.1 ≠ nz) (y3 : ∀ p ∈ Y, p.1 ≠ lz)
    (B : Below A₀ base outer h₀) (F : Fr h₀ L0 s.heap m) (X : (hd.heap_39 w.params).In h₀) (N : News h₀ L0 s.heap news)
    (Tp : Top hd.view_39 (looseW hd.view_39 [Str.ofString "RowsError"]) mean mg mb h₀) (hk : cs.kind = .function)
    (hd : dp + dd < recursionLimit) (hu : un + uu < cLine)
    (ret : ∀ r t4 tk xs n3 ys n4 Y₂ h' tk', GrowT Y Y₂ → Fr h₀ L0 h' m → News h₀ L0 h' (stM w sd nz lz ((ls ++ L t).length : Int) t4 tk xs n3 ys n4 ++ (ex ++ Y₂)) → FSt w sd nz lz (ls ++ L t) t4 tk xs n3 ys n4 Y₂ → TIn Y₂ r (b t ls.length).dat → Q r { s with heap := h', toks := tk' }) :
    wpAny (model PySem.Challenge.rw_pq0689_01.row.prog w) (ktrTop dp un gd cn cs L0 fa ccd cl outer) (call (.ref f) [.ref fz, v]) Q E s := by
  have hy : ∀ q ∈ stM w sd nz lz (ls.length : Int) t4 tk xs n3 ys n4, ∀ p ∈ Y, p.1 ≠ q.1 := by
    intro q hq
    simp only [List.mem_cons, List.not_mem_nil, or_false] at hq
    rcases hq with rfl | rfl | rfl
    · exact y1
    · exact y2
    · exact y3
  refine Con.use (ex := ex) (fun ho' => C fz fd sz sd nz lz t v ls t4 tk xs n3 ys n4 (ex ++ Y) ho hne hlen (TIn.mono (fun p h _ => List.mem_append.mpr (.inr h)) hv) (hF.cut hc) (hst.mono fun p h _ => List.mem_append.mpr (.inr h)) ho') ?_ hc hm hy B F X N Tp hk hd hu ?_
  · rintro M' X Z r hs ⟨t4, tk, xs, n3, ys, n4, h1, h2, h3⟩
    exact ⟨t4, tk, xs, n3, ys, n4, h1, h2.mono hs, h3.mono hs⟩
  · rintro r M' Y₂ h' tk' g F' N' ⟨t4, tk, xs, n3, ys, n4, rfl, h2, h3⟩
    exact ret r t4 tk xs n3 ys n4 Y₂ h' tk' g F' N' h2 h3
/-- function_over at a call: the rest is the whole ledger -/
theorem fo_use {nz : Addr} {nvs : List Value} {n3 n : Nat} {B : T} {bv : Value} (C : FoC w) (hn : n ≤ 60) (hm : (nz, listOf (List.toArray nvs) n3) ∈ news) (hN : TAll news nvs ((namesN n).map Dat.str)) (hv : TIn news bv B.dat)
    (Bl : Below A₀ base outer h₀) (F : Fr h₀ L0 s.heap m) (X : (hd.heap_39 w.params).In h₀) (N : News h₀ L0 s.heap news)
    (Tp : Top hd.view_39 (looseW hd.view_39 [Str.ofString "RowsError"]) mean mg mb h₀) (hk : cs.kind = .function)
    (hd : dp + 12 < recursionLimit) (hu : un + 100 < cLine)
    (ret : ∀ r Y₂ h' tk', GrowT news Y₂ → Fr h₀ L0 h' m → News h₀ L0 h' Y₂ → TIn Y₂ r (fnT n B).dat → Q r { s with heap := h', toks := tk' }) :
    wpAny (model PySem.Challenge.rw_pq0689_01.row.prog w) (ktrTop dp un gd cn cs L0 fa ccd cl outer) (call (.ref 151) [.ref nz, bv]) Q E s := by
  refine Con.use (ex := []) (Y := news) (fun _ => C nz nvs n3 n B bv _ hn hm hN hv) ?_ .tail (fun _ h => nomatch h) (fun _ h => nomatch h) Bl F X N Tp hk hd hu ?_
  · rintro M' X Z r hs ⟨h1, h2⟩
    exact ⟨h1, h2.mono hs⟩
  · rintro r M' Y₂ h' tk' g F' N' ⟨rfl, h2⟩
    exact ret r Y₂ h' tk' g F' (by simpa using N') h2
end
section
variable {prog : Program} {w : World} {A : Around} {E : Value → Shared → Prop} {s : Shared} {h₀ : Heap} {L : Addr} {m : Str → Option Value} {news : List (Addr × Obj)}
/-- t + u of tuples, u empty or not -/
theorem add_tupE {t b : Addr} {vs us : List Value} {n1 n2 : Nat} {Q : Value → Shared → Prop} (F : Fr h₀ L s.heap m) (N : News h₀ L s.heap news) (ht : (t, tupObj vs n1) ∈ news) (hb : (b, tupObj us n2) ∈ news) (h1 : 0 < vs.length) (hz : vs.length + us.length ≤ sizeLine)
    (h : ∀ D n h', Fr h₀ L h' m → News h₀ L h' ((D, tupObj (vs ++ us) n) :: news) → Q (.ref D) { s with heap := h' }) : wpAny (model prog w) A (binaryOp .Add (.ref t) (.ref b)) Q E s := by
  refine add_tuples F N (News.isTup N ht) (News.isTup N hb) (fun e => ?_) (fun _ e => ?_) (fun _ _ h' F' N' => h _ _ h' F' N') hz
  · rw [e] at h1; cases h1
  · subst e
    refine h t n1 s.heap F fun p hp => ?_
    rcases List.mem_cons.mp hp with rfl | hp
    · rw [List.append_nil]; exact N _ ht
    · exact N p hp
end
def objKey (o : Obj) : Nat := match o.cls with
  | .ref _ => 1000
  | _ => match o.data with
    | .dict es _ => es.size
    | _ => 500
theorem apart_of {h₀ h : Heap} {L a b : Addr} {o o' : Obj} {news : List (Addr × Obj)} (N : News h₀ L h news) (h1 : (a, o) ∈ news) (h2 : (b, o') ∈ news) (hne : Nat.beq (objKey o) (objKey o') = false) : @Ne Nat a b := fun e => by
  have q1 := (N _ h1).1
  have q2 := (N _ h2).1
  simp only at q1 q2
  rw [e] at q1
  rw [q1] at q2
  cases q2
  rw [Nat.beq_refl] at hne
  cases hne
theorem ToldIn.mono {X Y : List (Addr × Obj)} (hs : SubT X Y) {r : Value} {bc : Addr} {fn : T} {ls : List T} (h : ToldIn X r bc fn ls) : ToldIn Y r bc fn ls := by
  obtain ⟨a, n, t1, t2, b, k, f, lvs, rfl, h1, h2, h3, h4⟩ := h
  exact ⟨a, n, t1, t2, b, k, f, lvs, rfl, hs _ h1 rfl, hs _ h2 rfl, h3.mono hs, h4.mono hs⟩
section
variable {w : World} {Y news ex : List (Addr × Obj)}
  {dp un : Nat} {gd : Option (List Code)} {cn : Str} {cs : Scope} {fa : Addr} {ccd : Value} {cl : List (Str × Addr)} {outer : List Env} {A₀ : Around} {base h₀ : Heap} {L0 : Addr} {m : Str → Option Value} {s : Shared}
  {mean : ExcName → Option Value} {mg mb : Str → Option Value} {Q E : Value → Shared → Prop}
/-- the first call of a Fuser's body, told to the end -/
theorem fuse_useE {dd uu : Nat} {Ok : T → Prop} {fz fd sz sd nz lz : Addr} {t : T} {v : Value} {t4 tk : Tok} {xs : Array Value} {n3 : Nat} {ys : Array Value} {n4 : Nat}
    (C : FuseC w 120 dd uu Ok thingsT bodyT) (ho : Ok t) (hv : TIn Y v t.dat) (hlen : (thingsT t).length ≤ 40) (hF : FuserIn w news fz fd sz sd nz lz) (e1 : xs = List.toArray []) (e2 : ys = List.toArray []) (hne : @Ne Nat nz lz)
    (hm : ∀ p ∈ stM w sd nz lz 0 t4 tk xs n3 ys n4, p ∈ news) (hc : Cut (stM w sd nz lz 0 t4 tk xs n3 ys n4) Y news ex) (y1 : ∀ p ∈ Y, p.1 ≠ sd) (y2 : ∀ p ∈ Y, p.1 ≠ nz) (y3 : ∀ p ∈ Y, p.1 ≠ lz)
    (B : Below A₀ base outer h₀) (F : Fr h₀ L0 s.heap m) (X : (hd.heap_39 w.params).In h₀) (N : News h₀ L0 s.heap news)
    (Tp : Top hd.view_39 (looseW hd.view_39 [Str.ofString "RowsError"]) mean mg mb h₀) (hk : cs.kind = .function)
    (hd : dp + dd < recursionLimit) (hu : un + uu < cLine)
    (ret : ∀ r t4 tk nvs n3 lvs n4 Y₂ h' tk', GrowT Y Y₂ → Fr h₀ L0 h' m → News h₀ L0 h' ((sd, dictOf [attrE w "many" t4 (.int ((thingsT t).length : Int) tk)] 1) :: (nz, listOf (List.toArray nvs) n3) :: (lz, listOf (List.toArray lvs) n4) :: (ex ++ Y₂)) → nvs.length ≤ 40 → lvs.length ≤ 40 →
      TAll Y₂ nvs ((namesN (thingsT t).length).map Dat.str) → TAll Y₂ lvs (T.dats (thingsT t)) → TIn Y₂ r (bodyT t 0).dat → Q r { s with heap := h', toks := tk' }) :
    wpAny (model PySem.Challenge.rw_pq0689_01.row.prog w) (ktrTop dp un gd cn cs L0 fa ccd cl outer) (call (.ref 120) [.ref fz, v]) Q E s := by
  subst e1 e2
  refine fuse_useX (ls := []) C ho hv hF ⟨⟨[], rfl, .nil⟩, ⟨[], rfl, .nil⟩⟩ hne (by simpa using Nat.le_trans hlen (by decide)) hm hc y1 y2 y3 B F X N Tp hk hd hu ?_
  rintro r t4 tk xs n3 ys n4 Y₂ h' tk' g F' N' ⟨⟨nvs, rfl, hn⟩, ⟨lvs, rfl, hl⟩⟩ hr
  have z1 := hn.length
  have z2 := hl.length
  rw [List.length_map, namesN_len] at z1
  rw [dats_len] at z2
  simp only [List.nil_append] at z1 z2 hn hl N'
  exact ret r t4 tk nvs n3 lvs n4 Y₂ h' tk' g F' N' (by omega) (by omega) hn hl hr
end
section
variable {prog : Program} {w : World} {A : Around} {E : Value → Shared → Prop} {s : Shared} {h₀ : Heap} {L : Addr} {news : List (Addr × Obj)} {Q : Value → Shared → Prop}
theorem ne_nn {a b : Addr} {ka kb : Nat} (N : News h₀ L s.heap news) (ma : (a, listOf (List.toArray []) ka) ∈ news) (mb : (b, listOf (List.toArray []) kb) ∈ news)
    (hu : A.units + 64 < cLine) (h : Q (.bool false) s) : wpAny (model prog w) A (compareOp .NotEq (.ref a) (.ref b)) Q E s := by
  classical
  exact kqd_ne N ma rfl rfl (tall_dat .nil) (fun _ h => h) mb rfl rfl (tall_dat .nil) (fun _ h => h) (fun _ h => nomatch h) (fun _ h => nomatch h) hu (by simpa using h)
theorem ne_cn {a b : Addr} {v : Value} {vs : List Value} {d : Dat} {ds : List Dat} {ka kb : Nat} (N : News h₀ L s.heap news) (ma : (a, listOf (List.toArray (v :: vs)) ka) ∈ news) (mb : (b, listOf (List.toArray []) kb) ∈ news) (Da : TAll news (v :: vs) (d :: ds)) (ok : (d :: ds).all (kqdOk 8) = true)
    (hu : A.units + 64 < cLine) (h : Q (.bool true) s) : wpAny (model prog w) A (compareOp .NotEq (.ref a) (.ref b)) Q E s := by
  classical
  exact kqd_ne N ma rfl rfl (tall_dat Da) (fun _ h => h) mb rfl rfl (tall_dat .nil) (fun _ h => h) (List.all_eq_true.mp ok) (fun _ h => nomatch h) hu (by simpa using h)
end
section
variable {prog : Program} {w : World} {A : Around} {E : Value → Shared → Prop} {s : Shared} {h₀ : Heap} {L D b : Addr} {m : Str → Option Value} {news news' : List (Addr × Obj)} {its : Array Value} {n k : Nat} {Q : Value → Shared → Prop}
/-- l.extend(()) -/
theorem ext_nilT (F : Fr h₀ L s.heap m) (N : News h₀ L s.heap news) (hb : (b, tupObj [] k) ∈ news) (U : Upd D (listOf its n) (listOf its n) news news') (hz : its.size ≤ 60)
    (h : ∀ h', Fr h₀ L h' m → News h₀ L h' news' → Q .none { s with heap := h' }) : wpAny (model prog w) A (call (.builtin "list.extend") [.ref D, .ref b]) Q E s := by
  obtain ⟨xs, ys, rfl, rfl, hx, hy⟩ := U.split
  have hD := N (D, listOf its n) (List.mem_append.mpr (.inr (.head _)))
  have hroom : ¬(!its.isEmpty && Builtin.List.listTooLong (its.size + (#[] : Array Value).size)) = true := extend_door (by rw [sizeLine_eq]; simpa using Nat.le_trans hz (by decide))
  have hM := PySem.AutoSeq1.list_extend_list_tuple_0 D its n b #[] k hroom (by rw [sizeLine_eq]; exact Nat.le_trans hz (by decide)) (by rw [sizeLine_eq]; simpa using Nat.le_trans hz (by decide))
  refine call_meets PySem.F.slot_list_extend ⟨_, hD.1, rfl⟩ PySem.F.entry_list_extend (PySem.F.args_list_extend_2 _ _) hM ⟨hD.1, (N _ hb).1, ?_⟩
  refine h _ (F.change (Heap.SameBut.update ..) hD.2.1 hD.2.2) ?_
  exact kl_turn0 (fun x => x ++ #[]) N hx hy (by simp) rfl
end
end

section
-- Fused
theorem reset_Fused : True := by
  w_top off
  trivial
local macro_rules | `(tactic| lsm_bools) => `(tactic| first | exact List.Mem.head _ | assumption | (refine' List.Mem.tail _ ?_; lsm_bools) | (refine' GrowT.mem ?g ?h; (case g => assumption); (case h => lsm_bools)) | fail "no entry")
local macro_rules | `(tactic| k_mem) => `(tactic| first | lsm_bools | fail "no entry")
local macro_rules | `(tactic| tb_start) => `(tactic| first
  | exact List.forall_mem_nil _
  | (refine' List.forall_mem_cons.mpr ⟨?a, ?b⟩; (case a => lsm_bools); (case b => tb_start))
  | (intro p hp; repeat (first | exact hp | refine List.mem_cons_of_mem _ ?_ | refine List.Mem.tail _ ?_ | refine GrowT.mem' (by assumption) ?_ | refine GrowT.mem (by assumption) ?_ | fail "no entry"))
  | fail "not within")
local macro_rules | `(tactic| k_all) => `(tactic| first
  | assumption
  | (refine' GrowT.off ?g ?o ?N ?s ?m ?c; (case g => assumption); (case o => k_all); (case N => k_asm); (case s => tb_start); (case m => lsm_bools); (case c => rfl))
  | (refine' offLt ?h ?s; (case h => assumption); (case s => tb_start))
  | fail "not apart")
local macro_rules | `(tactic| k_lt $h:ident) => `(tactic| (have hl9 := $h; replace $h := allLt_of $h; simp only [AllLt, and_true] at $h:ident))
local macro_rules | `(tactic| kqd_sub) => `(tactic| first
  | (refine' Cut.own ?m ?r; (case m => lsm_bools); (case r => kqd_sub))
  | (refine' Cut.oth ?o ?r; (case o => k_all); (case r => kqd_sub))
  | exact Cut.tail
  | fail "no cut")
local macro_rules | `(tactic| ktr_rel) => `(tactic| first
  | exact subT_nil
  | exact subT_of (fun _ hp => hp)
  | assumption
  | (refine' subT_skip ?a ?b; (case a => rfl); (case b => ktr_rel))
  | (refine' subT_cons ?a ?b; (case a => lsm_bools); (case b => ktr_rel))
  | (refine' subT_of ?h; (case h => tb_start))
  | (refine' subT_app ?a ?b; (case a => ktr_rel); (case b => ktr_rel))
  | fail "tuples not within")
local macro_rules | `(tactic| k_room) => `(tactic| ktr_room)
local macro_rules | `(tactic| k_units) => `(tactic| ktr_units)
local macro_rules | `(tactic| tb_rel) => `(tactic| first
  | exact TAll.nil
  | exact TIn.str _ _
  | exact TIn.int _ _
  | exact TIn.bytes _ _
  | assumption
  | (refine' TIn.mono ?s ?h; (case h => assumption); (case s => ktr_rel))
  | (refine' TAll.mono ?s ?h; (case h => assumption); (case s => ktr_rel))
  | (refine' TIn.tuple ?m ?r; (case m => lsm_bools); (case r => tb_rel))
  | (refine' TAll.cons ?h ?t; (case h => tb_rel); (case t => tb_rel))
  | fail "no tree")
local macro_rules | `(tactic| walk_at "compareOp In str ref") => `(tactic| (k_here; k_dflt (refine' in_tupL ?ht ?hi ?_; (case ht => (refine' tupK ?X ?l; (case X => k_in); (case l => k_is))); (case hi => exact rfl))))
local macro_rules | `(tactic| walk_at "compareOp Eq ref ref") => `(tactic| (k_here; k_dflt (first
  | (refine' eq_dat (r := false) ?H ?d1 ?d2 ?hc ?hd ?hu ?_; (case H => exact heldOf (by k_asm)); (case d1 => tb_rel); (case d2 => tb_rel); (case hc => with_unfolding_all rfl); (case hd => exact Nat.le_of_ble_eq_true rfl); (case hu => ktr_units))
  | (refine' eq_dat (r := true) ?H ?d1 ?d2 ?hc ?hd ?hu ?_; (case H => exact heldOf (by k_asm)); (case d1 => tb_rel); (case d2 => tb_rel); (case hc => with_unfolding_all rfl); (case hd => exact Nat.le_of_ble_eq_true rfl); (case hu => ktr_units)))))
local macro_rules | `(tactic| walk_at "compareOp NotEq ref ref") => `(tactic| (k_here; k_dflt (first
  | (refine' ne_dat (r := false) ?H ?d1 ?d2 ?hc ?hd ?hu ?_; (case H => exact heldOf (by k_asm)); (case d1 => tb_rel); (case d2 => tb_rel); (case hc => with_unfolding_all rfl); (case hd => exact Nat.le_of_ble_eq_true rfl); (case hu => ktr_units))
  | (refine' ne_dat (r := true) ?H ?d1 ?d2 ?hc ?hd ?hu ?_; (case H => exact heldOf (by k_asm)); (case d1 => tb_rel); (case d2 => tb_rel); (case hc => with_unfolding_all rfl); (case hd => exact Nat.le_of_ble_eq_true rfl); (case hu => ktr_units)))))
local macro_rules | `(tactic| walk_at "subscriptTail Name Constant ref int") => `(tactic| (k_here; k_dflt (refine' item_tupleT ?t ?a ?b ?c ?d ?_; (case t => exact News.isTup (by k_asm) (by k_mem)); (case a => decide); (case b => decide); (case c => rfl); (case d => rfl); k_whole)))
local macro_rules | `(tactic| walk_at "ite") => `(tactic| (k_closed; k_dflt (first | (refine' ite_pos ?c ?_; (case c => decide)) | (refine' ite_neg ?c ?_; (case c => decide)))))
local macro_rules | `(tactic| walk_at "call type:range cons nil") => `(tactic| (k_here; k_dflt (refine' range1_rows ?F ?N ?_; (case F => k_asm); (case N => k_asm); k_whole; intro h' tk' t1' u1' v1' hR' F' N' hst'; (try k_fold))))
local macro_rules | `(tactic| walk_at "pyIter ref") => `(tactic| (k_here; (with_reducible show wpAny _ _ (pyIter (Value.ref _)) (fun it s₂ => LoopAtV _ _ _ _ _ _ _ _ _ it s₂) _ _); refine' Hold.of ?_))
local macro_rules | `(tactic| walk_at "binaryOp Add ref ref") => `(tactic| (k_here; k_dflt (refine' add_cat ?F ?N ?a ?b ?z ?_; (case F => k_asm); (case N => k_asm); (case a => lsm_bools); (case b => lsm_bools); (case z => (simp only [sizeLine_eq, List.length_cons, List.length_nil]; omega)); k_whole; intro D' h' F' N' l1; (try k_lt l1); (try k_sweep))))
local macro_rules | `(tactic| walk_at "subscriptTail Name Slice ref ref") => `(tactic| (k_here; k_dflt (first
  | (refine' slice_whole ?F ?N ?t ?l ?z ?_ ?hs ?hg; (case F => k_asm); (case N => k_asm); (case t => lsm_bools); (case l => exact Nat.le_of_ble_eq_true rfl); (case z => exact Nat.le_of_ble_eq_true rfl); (case hs => with_unfolding_all rfl); (case hg => (intro _; with_unfolding_all rfl)); k_whole; intro h' F' N'; (try k_sweep))
  | (refine' slice_upto ?F ?N ?t ?l ?z ?_ ?hs ?hg; (case F => k_asm); (case N => k_asm); (case t => lsm_bools); (case l => exact Nat.le_of_ble_eq_true rfl); (case z => exact Nat.le_of_ble_eq_true rfl); (case hs => with_unfolding_all rfl); (case hg => (intro _; with_unfolding_all rfl)); k_whole; intro D' h' F' N' l1; (try k_lt l1); (try k_sweep)))))
local macro_rules | `(tactic| walk_at "subscriptTail Name Slice ref ref") => `(tactic| (k_here; k_dflt
  (refine' slice_from ?F ?N ?t ?o ?l ?z ?_ ?hs ?hg; (case F => k_asm); (case N => k_asm); (case t => lsm_bools); (case o => exact Nat.le_of_ble_eq_true rfl); (case l => (simp only [List.length_cons]; omega)); (case z => (simp only [sizeLine_eq, List.length_cons]; omega)); (case hs => with_unfolding_all rfl); (case hg => (intro _; with_unfolding_all rfl)); k_whole; intro D' h' F' N' l1; (try k_lt l1); (try k_sweep))))
local macro_rules | `(tactic| walk_at "subscriptTail Subscript Name Constant Slice ref ref") => `(tactic| (k_here; k_dflt
  (refine' slice_from ?F ?N ?t ?o ?l ?z ?_ ?hs ?hg; (case F => k_asm); (case N => k_asm); (case t => lsm_bools); (case o => exact Nat.le_of_ble_eq_true rfl); (case l => (simp only [List.length_cons]; omega)); (case z => (simp only [sizeLine_eq, List.length_cons]; omega)); (case hs => with_unfolding_all rfl); (case hg => (intro _; with_unfolding_all rfl)); k_whole; intro D' h' F' N' l1; (try k_lt l1); (try k_sweep))))
local macro_rules | `(tactic| walk_at "call type:tuple cons nil") => `(tactic| (k_here; k_dflt (refine' tuple_of ?F ?N ?t ?z ?_; (case F => k_asm); (case N => k_asm); (case t => lsm_bools); (case z => first | exact Nat.le_of_ble_eq_true rfl | (simp only [sizeLine_eq, List.length_append, List.length_cons, List.length_nil]; omega)); k_whole; intro D' h' F' N' l1; (try k_lt l1); (try k_sweep))))
local macro_rules | `(tactic| walk_at "subscriptTail Name Constant ref int") => `(tactic| (k_here; k_dflt (refine' item_tupI ?N ?m ?a ?b ?c ?_; (case N => k_asm); (case m => lsm_bools); (case a => decide); (case b => decide); (case c => exact rfl); k_whole)))
local macro_rules | `(tactic| walk_at "subscriptTail Subscript Name Constant Constant ref int") => `(tactic| (k_here; k_dflt (refine' item_tupI ?N ?m ?a ?b ?c ?_; (case N => k_asm); (case m => lsm_bools); (case a => decide); (case b => decide); (case c => exact rfl); k_whole)))
local macro_rules | `(tactic| walk_at "subscriptTail Subscript Subscript Constant Constant ref int") => `(tactic| (k_here; k_dflt (refine' item_tupI ?N ?m ?a ?b ?c ?_; (case N => k_asm); (case m => lsm_bools); (case a => decide); (case b => decide); (case c => exact rfl); k_whole)))
local macro_rules | `(tactic| walk_at "subscriptTail Call Name cons nil Constant ref int") => `(tactic| (k_here; k_dflt (refine' item_tupI ?N ?m ?a ?b ?c ?_; (case N => k_asm); (case m => lsm_bools); (case a => decide); (case b => decide); (case c => exact rfl); k_whole)))
local macro_rules | `(tactic| walk_at "binaryOp Add ref ref") => `(tactic| (k_here; k_dflt (refine' add_tupC ?F ?N ?a ?b ?l1 ?l2 ?z ?_; (case F => k_asm); (case N => k_asm); (case a => lsm_bools); (case b => lsm_bools); (case l1 => (simp only [List.length_cons, List.length_nil]; omega)); (case l2 => omega); (case z => (simp only [sizeLine_eq, List.length_cons, List.length_nil]; omega)); k_whole; intro D' h' F' N' l1; (try k_lt l1); (try k_sweep))))
local macro_rules | `(tactic| walk_at "call type:tuple cons nil") => `(tactic| (k_here; k_dflt (refine' tuple_same ?N ?t ?_; (case N => k_asm); (case t => lsm_bools); k_whole)))
local macro_rules | `(tactic| walk_at "call builtin:len cons nil") => `(tactic| (k_here; k_dflt (refine' len_tupK ?N ?t ?z ?_; (case N => k_asm); (case t => lsm_bools); (case z => (simp only [sizeLine_eq, List.length_cons, List.length_nil]; omega)); k_whole; intro tk1' tk2')))
local macro_rules | `(tactic| walk_at "eval ListComp") => `(tactic| (k_here; refine' Hold.of ?_))
local macro_rules | `(tactic| walk_at "compareOp NotEq ref ref") => `(tactic| (k_here; k_dflt (refine' ne_dat (r := false) ?H ?d1 ?d2 ?hc ?hd ?hu ?_; (case H => exact heldOf (by k_asm)); (case d1 => tb_rel); (case d2 => tb_rel); (case hc => exact cmp_head (by assumption) _); (case hd => exact Nat.le_of_ble_eq_true rfl); (case hu => ktr_units))))
local macro_rules | `(tactic| walk_at "call ref") => `(tactic| (k_here; (with_reducible show wpAny _ _ (call (Value.ref 233) [_] _) _ _ _); k_dflt (refine' plain_use ?C ?ho ?hv ?B ?F ?X ?N ?T ?hk ?hc ?hd ?hu ?_; (case C => assumption); (case ho => assumption); (case hv => assumption); (case B => k_asm); (case F => k_asm); (case X => k_asm); (case N => k_asm); (case T => k_asm); (case hk => first | rfl | assumption); (case hc => kqd_sub); (case hd => ktr_room); (case hu => ktr_units); k_whole; intro r' Y' h' tk' g' F' N' hr'; (try simp only [List.cons_append, List.nil_append] at N'); (try k_fold))))
local macro_rules | `(tactic| walk_at "call ref") => `(tactic| (k_here; (with_reducible show wpAny _ _ (call (Value.ref 240) [_] _) _ _ _); k_dflt (refine' things_use ?C ?ho ?hv ?B ?F ?X ?N ?T ?hk ?hc ?hd ?hu ?_; (case C => assumption); (case ho => assumption); (case hv => assumption); (case B => k_asm); (case F => k_asm); (case X => k_asm); (case N => k_asm); (case T => k_asm); (case hk => first | rfl | assumption); (case hc => kqd_sub); (case hd => ktr_room); (case hu => ktr_units); k_whole; intro a' vs' k' Y' h' tk' g' F' N' hr' hrl'; (try simp only [List.cons_append, List.nil_append] at N'); (try k_fold))))
local macro_rules | `(tactic| walk_at "exec For Name Subscript") => `(tactic| (k_here; (rename Fr _ _ _ _ => lF'); (with_unfolding_all refine' For_invVF lF' ?k1 ?k2 ?_; (case k1 => exact rfl); (case k2 => exact rfl); k_whole)))
local macro_rules | `(tactic| walk_at "compareOp Eq ref ref") => `(tactic| (k_here; k_dflt (refine' eq_dat (r := false) ?H ?d1 ?d2 ?hc ?hd ?hu ?_; (case H => exact heldOf (by k_asm)); (case d1 => tb_rel); (case d2 => tb_rel); (case hc => exact cmp_head (by assumption) _); (case hd => exact Nat.le_of_ble_eq_true rfl); (case hu => ktr_units))))
local macro_rules | `(tactic| walk_at "compareOp Eq str str") => `(tactic| (k_here; k_dflt (refine' eq_str_no ?h ?_; (case h => assumption); k_whole)))
local macro_rules | `(tactic| ktr_enter) => `(tactic| (refine' code_defC ?k1 ?k2 ?k3 ?k4 ?k5 ?kA ?kF ?kK ?k6 ?k7 ?k8 ?k9 ?kB ?kD ?_ ?c2 ?c3 ?c4; (case kA => exact rfl); (case kF => exact rfl); (case kK => assumption); (case k1 => k_asm); (case k2 => k_asm); (case k3 => k_asm); (case k4 => k_asm); (case k5 => k_asm); (case k6 => k_is); (case k7 => k_is); (case k8 => ktr_room); (case k9 => exact BindsTo.of_eq rfl); (case kB => exact rfl); (case kD => decide +kernel); (case c2 => exact rfl); (case c3 => exact rfl); (case c4 => exact rfl); k_whole; intro g' L' h' tk' cells' FG' F' N' Y' B' X' T' l1; (try k_lt l1); k_cells Y'; (try simp only [List.cons_append, List.nil_append] at N'); (try dsimp only); (try k_fold)))
local macro_rules | `(tactic| walk_at "call ref") => `(tactic| (k_here; (with_reducible show wpAny _ _ (call (Value.ref 108) [Value.ref _, _] _) _ _ _); k_dflt (refine' fuse_use (f := 108) ?C ?ho ?hv ?hF ?hst ?hne ?hlen ?hm ?hc ?y1 ?y2 ?y3 ?B ?F ?X ?N ?T ?hk ?hd ?hu ?_; (case C => assumption); (case hv => assumption); (case ho => assumption); (case hF => assumption); (case hst => assumption); (case hne => assumption); (case hlen => first | assumption | omega); (case B => k_asm); (case F => k_asm); (case X => k_asm); (case N => k_asm); (case T => k_asm); (case hk => first | rfl | assumption); (case hm => tb_start); (case hc => kqd_sub); (case y1 => k_all); (case y2 => k_all); (case y3 => k_all); (case hd => ktr_room); (case hu => ktr_units); k_whole; intro r' t4' tk4' xs' n3' ys' n4' Y' h' tk' g' F' N' hst' hr'; (try simp only [List.cons_append, List.nil_append] at N'); (try k_fold))))
local macro_rules | `(tactic| walk_at "call ref") => `(tactic| (k_here; (with_reducible show wpAny _ _ (call (Value.ref 115) [Value.ref _, _] _) _ _ _); k_dflt (refine' fuse_use (f := 115) ?C ?ho ?hv ?hF ?hst ?hne ?hlen ?hm ?hc ?y1 ?y2 ?y3 ?B ?F ?X ?N ?T ?hk ?hd ?hu ?_; (case C => assumption); (case hv => assumption); (case ho => assumption); (case hF => assumption); (case hst => assumption); (case hne => assumption); (case hlen => first | assumption | omega); (case B => k_asm); (case F => k_asm); (case X => k_asm); (case N => k_asm); (case T => k_asm); (case hk => first | rfl | assumption); (case hm => tb_start); (case hc => kqd_sub); (case y1 => k_all); (case y2 => k_all); (case y3 => k_all); (case hd => ktr_room); (case hu => ktr_units); k_whole; intro r' t4' tk4' xs' n3' ys' n4' Y' h' tk' g' F' N' hst' hr'; (try simp only [List.cons_append, List.nil_append] at N'); (try k_fold))))
local macro_rules | `(tactic| walk_at "call ref") => `(tactic| (k_here; (with_reducible show wpAny _ _ (call (Value.ref 120) [Value.ref _, _] _) _ _ _); k_dflt (refine' fuse_use (f := 120) ?C ?ho ?hv ?hF ?hst ?hne ?hlen ?hm ?hc ?y1 ?y2 ?y3 ?B ?F ?X ?N ?T ?hk ?hd ?hu ?_; (case C => assumption); (case hv => assumption); (case ho => assumption); (case hF => assumption); (case hst => assumption); (case hne => assumption); (case hlen => first | assumption | omega); (case B => k_asm); (case F => k_asm); (case X => k_asm); (case N => k_asm); (case T => k_asm); (case hk => first | rfl | assumption); (case hm => tb_start); (case hc => kqd_sub); (case y1 => k_all); (case y2 => k_all); (case y3 => k_all); (case hd => ktr_room); (case hu => ktr_units); k_whole; intro r' t4' tk4' xs' n3' ys' n4' Y' h' tk' g' F' N' hst' hr'; (try simp only [List.cons_append, List.nil_append] at N'); (try k_fold))))
local macro_rules | `(tactic| walk_at "call ref") => `(tactic| (k_here; (with_reducible show wpAny _ _ (call (Value.ref 68) [_, Value.str _ _] _) _ _ _); k_dflt (refine' isEx_use ?C ?hv ?e ?B ?F ?X ?N ?T ?hk ?hs ?hd ?hu ?_; (case C => exact isEx_con _); (case hv => assumption); (case e => first | rfl | assumption); (case B => k_asm); (case F => k_asm); (case X => k_asm); (case N => k_asm); (case T => k_asm); (case hk => first | rfl | assumption); (case hs => tb_start); (case hd => ktr_room); (case hu => ktr_units); k_whole; intro h' tk' F' N'; (try k_fold))))
local macro_rules | `(tactic| walk_at "eval Call Name cons nil") => `(tactic| (k_here; refine Call_ ?_))
local macro_rules | `(tactic| k_all) => `(tactic| first
  | assumption
  | (refine' GrowT.off ?g ?o ?N ?s ?m ?c; (case g => assumption); (case o => k_all); (case N => k_asm); (case s => tb_start); (case m => lsm_bools); (case c => rfl))
  | (refine' offLt ?h ?s; (case h => assumption); (case s => tb_start))
  | exact List.forall_mem_nil _
  | (refine' List.forall_mem_cons.mpr ⟨?a, ?b⟩; (case a => first | exact adr_ne (by omega) | (refine' apart_of ?N ?p ?q ?e; (case N => k_asm); (case p => lsm_bools); (case q => lsm_bools); (case e => rfl))); (case b => k_all))
  | fail "not apart")
local macro_rules | `(tactic| walk_at "call ref") => `(tactic| (k_here; (with_reducible show wpAny _ _ (call (Value.ref 120) [Value.ref _, _] _) _ _ _); k_dflt (refine' fuse_useE ?C ?ho ?hv ?hlen ?hF ?e1 ?e2 ?hne ?hm ?hc ?y1 ?y2 ?y3 ?B ?F ?X ?N ?T ?hk ?hd ?hu ?_; (case C => assumption); (case hv => assumption); (case ho => assumption); (case hlen => assumption); (case N => k_asm); (case hF => refine' ⟨?f1, ⟨_, _, _, ?f2⟩, ?f3⟩; (case f1 => lsm_bools); (case f2 => lsm_bools); (case f3 => lsm_bools)); (case hm => tb_start); (case e1 => rfl); (case e2 => rfl); (case hne => exact adr_ne (by omega)); (case hc => kqd_sub); (case B => k_asm); (case F => k_asm); (case X => k_asm); (case T => k_asm); (case hk => first | rfl | assumption); (case y1 => k_all); (case y2 => k_all); (case y3 => k_all); (case hd => ktr_room); (case hu => ktr_units); k_whole; intro r' t4' tk4' nvs' n3' lvs' n4' Y' h' tk' g' F' N' ln' ll' hn' hl' hr'; (try simp only [List.cons_append, List.nil_append] at N'); (try k_fold))))
local macro_rules | `(tactic| walk_at "call ref") => `(tactic| (k_here; (with_reducible show wpAny _ _ (call (Value.ref 151) [Value.ref _, _] _) _ _ _); k_dflt (refine' fo_use ?C ?hn ?hm ?hN ?hv ?B ?F ?X ?N ?T ?hk ?hd ?hu ?_; (case C => assumption); (case N => k_asm); (case hm => lsm_bools); (case hN => (refine' TAll.mono ?s ?h; (case h => assumption); (case s => exact subT_of (by tb_start)))); (case hv => (refine' TIn.mono ?s ?h; (case h => assumption); (case s => exact subT_of (by tb_start)))); (case hn => omega); (case B => k_asm); (case F => k_asm); (case X => k_asm); (case T => k_asm); (case hk => first | rfl | assumption); (case hd => ktr_room); (case hu => ktr_units); k_whole; intro r' Y' h' tk' g' F' N' hr'; (try simp only [List.cons_append, List.nil_append] at N'); (try k_fold))))
local macro_rules | `(tactic| walk_at "binaryOp Add ref ref") => `(tactic| (k_here; k_dflt (refine' add_tupE ?F ?N ?a ?b ?l1 ?z ?_; (case F => k_asm); (case N => k_asm); (case a => lsm_bools); (case b => lsm_bools); (case l1 => (simp only [List.length_cons, List.length_nil]; omega)); (case z => (simp only [sizeLine_eq, List.length_cons, List.length_nil]; omega)); k_whole; intro D' n' h' F' N'; (try k_sweep))))
set_option maxHeartbeats 8000000 in
theorem fused_dot (w : World) (nn : Nat) (hnn : nn ≤ 3) (BC : FuseC w 120 (30 + 8 * nn) (160 + 60 * nn) (TreeOk nn) thingsT bodyT) (FO : FoC w) (t : T) (tv : Value) (ht : DotT nn t) (Y : List (Addr × Obj)) (htv : TIn Y tv t.dat) (sz sd : Addr) (hs : (sz, instObj 182 sd) ∈ Y) (t4 tk : Tok) (ho : ∀ p ∈ Y, p.1 ≠ sd) :
    Con w 158 [tv, .ref sz] 80 600 [(sd, dictOf [attrE w "many" t4 (.int 0 tk)] 1)] Y (fun M' Y₁ r => M' = [] ∧ ToldIn Y₁ r 84 (fnT (thingsT t).length (bodyT t 0)) (thingsT t)) := by
  have hto : TreeOk nn t := .inr ht
  have hth : (thingsT t).length ≤ 40 := Nat.le_trans (things_len nn t hto) (cntB_le hnn)
  have he : isEx t (kS "dotcall") = true := by
    cases nn with
    | zero => exact ht.elim
    | succ nn =>
      obtain ⟨c, ps, rfl, _⟩ := ht
      simp [isEx]
  obtain ⟨a, rfl⟩ := tree_ref htv
  refine Con.intro ?_
  intro dp un gd cn cs fa ccd cl outer A₀ base h₀ L m s mean mg mb Q E B F X N Tp hk hd hu fin
  simp only [List.cons_append, List.nil_append] at N
  refine wpAny_call ?_
  w_strict (
    k_dflt ktr_enter
    k_steps)
  refine' fin [] _ _ _ _ (by k_asm) (by k_asm) (List.forall_mem_nil _) ?Y (fun Y₁ hs => ⟨rfl, ToldIn.mono hs ?P⟩)
  case Y => tb_start
  case P =>
    refine' ⟨_, _, _, _, _, _, _, _, rfl, ?a, ?b, ?c, ?d⟩
    case a => lsm_bools
    case b => lsm_bools
    case c => (refine' TIn.mono ?s ?h; (case h => assumption); (case s => exact subT_of (by tb_start)))
    case d => (refine' TAll.mono ?s ?h; (case h => assumption); (case s => exact subT_of (by tb_start)))
end

section
-- MEnd
theorem reset_MEnd : True := by
  w_top off
  trivial
local macro_rules | `(tactic| lsm_bools) => `(tactic| first | exact List.Mem.head _ | assumption | (refine' List.Mem.tail _ ?_; lsm_bools) | (refine' GrowT.mem ?g ?h; (case g => assumption); (case h => lsm_bools)) | fail "no entry")
local macro_rules | `(tactic| k_mem) => `(tactic| first | lsm_bools | fail "no entry")
local macro_rules | `(tactic| tb_start) => `(tactic| first
  | exact List.forall_mem_nil _
  | (refine' List.forall_mem_cons.mpr ⟨?a, ?b⟩; (case a => lsm_bools); (case b => tb_start))
  | (intro p hp; repeat (first | exact hp | refine List.mem_cons_of_mem _ ?_ | refine List.Mem.tail _ ?_ | refine GrowT.mem' (by assumption) ?_ | refine GrowT.mem (by assumption) ?_ | fail "no entry"))
  | fail "not within")
local macro_rules | `(tactic| k_all) => `(tactic| first
  | assumption
  | (refine' GrowT.off ?g ?o ?N ?s ?m ?c; (case g => assumption); (case o => k_all); (case N => k_asm); (case s => tb_start); (case m => lsm_bools); (case c => rfl))
  | (refine' offLt ?h ?s; (case h => assumption); (case s => tb_start))
  | fail "not apart")
local macro_rules | `(tactic| k_lt $h:ident) => `(tactic| (have hl9 := $h; replace $h := allLt_of $h; simp only [AllLt, and_true] at $h:ident))
local macro_rules | `(tactic| kqd_sub) => `(tactic| first
  | (refine' Cut.own ?m ?r; (case m => lsm_bools); (case r => kqd_sub))
  | (refine' Cut.oth ?o ?r; (case o => k_all); (case r => kqd_sub))
  | exact Cut.tail
  | fail "no cut")
local macro_rules | `(tactic| ktr_rel) => `(tactic| first
  | exact subT_nil
  | exact subT_of (fun _ hp => hp)
  | assumption
  | (refine' subT_skip ?a ?b; (case a => rfl); (case b => ktr_rel))
  | (refine' subT_cons ?a ?b; (case a => lsm_bools); (case b => ktr_rel))
  | (refine' subT_of ?h; (case h => tb_start))
  | (refine' subT_app ?a ?b; (case a => ktr_rel); (case b => ktr_rel))
  | fail "tuples not within")
local macro_rules | `(tactic| k_room) => `(tactic| ktr_room)
local macro_rules | `(tactic| k_units) => `(tactic| ktr_units)
local macro_rules | `(tactic| tb_rel) => `(tactic| first
  | exact TAll.nil
  | exact TIn.str _ _
  | exact TIn.int _ _
  | exact TIn.bytes _ _
  | assumption
  | (refine' TIn.mono ?s ?h; (case h => assumption); (case s => ktr_rel))
  | (refine' TAll.mono ?s ?h; (case h => assumption); (case s => ktr_rel))
  | (refine' TIn.tuple ?m ?r; (case m => lsm_bools); (case r => tb_rel))
  | (refine' TAll.cons ?h ?t; (case h => tb_rel); (case t => tb_rel))
  | fail "no tree")
local macro_rules | `(tactic| walk_at "compareOp In str ref") => `(tactic| (k_here; k_dflt (refine' in_tupL ?ht ?hi ?_; (case ht => (refine' tupK ?X ?l; (case X => k_in); (case l => k_is))); (case hi => exact rfl))))
local macro_rules | `(tactic| walk_at "compareOp Eq ref ref") => `(tactic| (k_here; k_dflt (first
  | (refine' eq_dat (r := false) ?H ?d1 ?d2 ?hc ?hd ?hu ?_; (case H => exact heldOf (by k_asm)); (case d1 => tb_rel); (case d2 => tb_rel); (case hc => with_unfolding_all rfl); (case hd => exact Nat.le_of_ble_eq_true rfl); (case hu => ktr_units))
  | (refine' eq_dat (r := true) ?H ?d1 ?d2 ?hc ?hd ?hu ?_; (case H => exact heldOf (by k_asm)); (case d1 => tb_rel); (case d2 => tb_rel); (case hc => with_unfolding_all rfl); (case hd => exact Nat.le_of_ble_eq_true rfl); (case hu => ktr_units)))))
local macro_rules | `(tactic| walk_at "compareOp NotEq ref ref") => `(tactic| (k_here; k_dflt (first
  | (refine' ne_dat (r := false) ?H ?d1 ?d2 ?hc ?hd ?hu ?_; (case H => exact heldOf (by k_asm)); (case d1 => tb_rel); (case d2 => tb_rel); (case hc => with_unfolding_all rfl); (case hd => exact Nat.le_of_ble_eq_true rfl); (case hu => ktr_units))
  | (refine' ne_dat (r := true) ?H ?d1 ?d2 ?hc ?hd ?hu ?_; (case H => exact heldOf (by k_asm)); (case d1 => tb_rel); (case d2 => tb_rel); (case hc => with_unfolding_all rfl); (case hd => exact Nat.le_of_ble_eq_true rfl); (case hu => ktr_units)))))
local macro_rules | `(tactic| walk_at "subscriptTail Name Constant ref int") => `(tactic| (k_here; k_dflt (refine' item_tupleT ?t ?a ?b ?c ?d ?_; (case t => exact News.isTup (by k_asm) (by k_mem)); (case a => decide); (case b => decide); (case c => rfl); (case d => rfl); k_whole)))
local macro_rules | `(tactic| walk_at "ite") => `(tactic| (k_closed; k_dflt (first | (refine' ite_pos ?c ?_; (case c => decide)) | (refine' ite_neg ?c ?_; (case c => decide)))))
local macro_rules | `(tactic| walk_at "call type:range cons nil") => `(tactic| (k_here; k_dflt (refine' range1_rows ?F ?N ?_; (case F => k_asm); (case N => k_asm); k_whole; intro h' tk' t1' u1' v1' hR' F' N' hst'; (try k_fold))))
local macro_rules | `(tactic| walk_at "pyIter ref") => `(tactic| (k_here; (with_reducible show wpAny _ _ (pyIter (Value.ref _)) (fun it s₂ => LoopAtV _ _ _ _ _ _ _ _ _ it s₂) _ _); refine' Hold.of ?_))
local macro_rules | `(tactic| walk_at "binaryOp Add ref ref") => `(tactic| (k_here; k_dflt (refine' add_cat ?F ?N ?a ?b ?z ?_; (case F => k_asm); (case N => k_asm); (case a => lsm_bools); (case b => lsm_bools); (case z => (simp only [sizeLine_eq, List.length_cons, List.length_nil]; omega)); k_whole; intro D' h' F' N' l1; (try k_lt l1); (try k_sweep))))
local macro_rules | `(tactic| walk_at "subscriptTail Name Slice ref ref") => `(tactic| (k_here; k_dflt (first
  | (refine' slice_whole ?F ?N ?t ?l ?z ?_ ?hs ?hg; (case F => k_asm); (case N => k_asm); (case t => lsm_bools); (case l => exact Nat.le_of_ble_eq_true rfl); (case z => exact Nat.le_of_ble_eq_true rfl); (case hs => with_unfolding_all rfl); (case hg => (intro _; with_unfolding_all rfl)); k_whole; intro h' F' N'; (try k_sweep))
  | (refine' slice_upto ?F ?N ?t ?l ?z ?_ ?hs ?hg; (case F => k_asm); (case N => k_asm); (case t => lsm_bools); (case l => exact Nat.le_of_ble_eq_true rfl); (case z => exact Nat.le_of_ble_eq_true rfl); (case hs => with_unfolding_all rfl); (case hg => (intro _; with_unfolding_all rfl)); k_whole; intro D' h' F' N' l1; (try k_lt l1); (try k_sweep)))))
local macro_rules | `(tactic| walk_at "subscriptTail Name Slice ref ref") => `(tactic| (k_here; k_dflt
  (refine' slice_from ?F ?N ?t ?o ?l ?z ?_ ?hs ?hg; (case F => k_asm); (case N => k_asm); (case t => lsm_bools); (case o => exact Nat.le_of_ble_eq_true rfl); (case l => (simp only [List.length_cons]; omega)); (case z => (simp only [sizeLine_eq, List.length_cons]; omega)); (case hs => with_unfolding_all rfl); (case hg => (intro _; with_unfolding_all rfl)); k_whole; intro D' h' F' N' l1; (try k_lt l1); (try k_sweep))))
local macro_rules | `(tactic| walk_at "subscriptTail Subscript Name Constant Slice ref ref") => `(tactic| (k_here; k_dflt
  (refine' slice_from ?F ?N ?t ?o ?l ?z ?_ ?hs ?hg; (case F => k_asm); (case N => k_asm); (case t => lsm_bools); (case o => exact Nat.le_of_ble_eq_true rfl); (case l => (simp only [List.length_cons]; omega)); (case z => (simp only [sizeLine_eq, List.length_cons]; omega)); (case hs => with_unfolding_all rfl); (case hg => (intro _; with_unfolding_all rfl)); k_whole; intro D' h' F' N' l1; (try k_lt l1); (try k_sweep))))
local macro_rules | `(tactic| walk_at "call type:tuple cons nil") => `(tactic| (k_here; k_dflt (refine' tuple_of ?F ?N ?t ?z ?_; (case F => k_asm); (case N => k_asm); (case t => lsm_bools); (case z => first | exact Nat.le_of_ble_eq_true rfl | (simp only [sizeLine_eq, List.length_append, List.length_cons, List.length_nil]; omega)); k_whole; intro D' h' F' N' l1; (try k_lt l1); (try k_sweep))))
local macro_rules | `(tactic| walk_at "subscriptTail Name Constant ref int") => `(tactic| (k_here; k_dflt (refine' item_tupI ?N ?m ?a ?b ?c ?_; (case N => k_asm); (case m => lsm_bools); (case a => decide); (case b => decide); (case c => exact rfl); k_whole)))
local macro_rules | `(tactic| walk_at "subscriptTail Subscript Name Constant Constant ref int") => `(tactic| (k_here; k_dflt (refine' item_tupI ?N ?m ?a ?b ?c ?_; (case N => k_asm); (case m => lsm_bools); (case a => decide); (case b => decide); (case c => exact rfl); k_whole)))
local macro_rules | `(tactic| walk_at "subscriptTail Subscript Subscript Constant Constant ref int") => `(tactic| (k_here; k_dflt (refine' item_tupI ?N ?m ?a ?b ?c ?_; (case N => k_asm); (case m => lsm_bools); (case a => decide); (case b => decide); (case c => exact rfl); k_whole)))
local macro_rules | `(tactic| walk_at "subscriptTail Call Name cons nil Constant ref int") => `(tactic| (k_here; k_dflt (refine' item_tupI ?N ?m ?a ?b ?c ?_; (case N => k_asm); (case m => lsm_bools); (case a => decide); (case b => decide); (case c => exact rfl); k_whole)))
local macro_rules | `(tactic| walk_at "binaryOp Add ref ref") => `(tactic| (k_here; k_dflt (refine' add_tupC ?F ?N ?a ?b ?l1 ?l2 ?z ?_; (case F => k_asm); (case N => k_asm); (case a => lsm_bools); (case b => lsm_bools); (case l1 => (simp only [List.length_cons, List.length_nil]; omega)); (case l2 => omega); (case z => (simp only [sizeLine_eq, List.length_cons, List.length_nil]; omega)); k_whole; intro D' h' F' N' l1; (try k_lt l1); (try k_sweep))))
local macro_rules | `(tactic| walk_at "call type:tuple cons nil") => `(tactic| (k_here; k_dflt (refine' tuple_same ?N ?t ?_; (case N => k_asm); (case t => lsm_bools); k_whole)))
local macro_rules | `(tactic| walk_at "call builtin:len cons nil") => `(tactic| (k_here; k_dflt (refine' len_tupK ?N ?t ?z ?_; (case N => k_asm); (case t => lsm_bools); (case z => (simp only [sizeLine_eq, List.length_cons, List.length_nil]; omega)); k_whole; intro tk1' tk2')))
local macro_rules | `(tactic| walk_at "eval ListComp") => `(tactic| (k_here; refine' Hold.of ?_))
local macro_rules | `(tactic| walk_at "compareOp NotEq ref ref") => `(tactic| (k_here; k_dflt (refine' ne_dat (r := false) ?H ?d1 ?d2 ?hc ?hd ?hu ?_; (case H => exact heldOf (by k_asm)); (case d1 => tb_rel); (case d2 => tb_rel); (case hc => exact cmp_head (by assumption) _); (case hd => exact Nat.le_of_ble_eq_true rfl); (case hu => ktr_units))))
local macro_rules | `(tactic| walk_at "call ref") => `(tactic| (k_here; (with_reducible show wpAny _ _ (call (Value.ref 233) [_] _) _ _ _); k_dflt (refine' plain_use ?C ?ho ?hv ?B ?F ?X ?N ?T ?hk ?hc ?hd ?hu ?_; (case C => assumption); (case ho => assumption); (case hv => assumption); (case B => k_asm); (case F => k_asm); (case X => k_asm); (case N => k_asm); (case T => k_asm); (case hk => first | rfl | assumption); (case hc => kqd_sub); (case hd => ktr_room); (case hu => ktr_units); k_whole; intro r' Y' h' tk' g' F' N' hr'; (try simp only [List.cons_append, List.nil_append] at N'); (try k_fold))))
local macro_rules | `(tactic| walk_at "call ref") => `(tactic| (k_here; (with_reducible show wpAny _ _ (call (Value.ref 240) [_] _) _ _ _); k_dflt (refine' things_use ?C ?ho ?hv ?B ?F ?X ?N ?T ?hk ?hc ?hd ?hu ?_; (case C => assumption); (case ho => assumption); (case hv => assumption); (case B => k_asm); (case F => k_asm); (case X => k_asm); (case N => k_asm); (case T => k_asm); (case hk => first | rfl | assumption); (case hc => kqd_sub); (case hd => ktr_room); (case hu => ktr_units); k_whole; intro a' vs' k' Y' h' tk' g' F' N' hr' hrl'; (try simp only [List.cons_append, List.nil_append] at N'); (try k_fold))))
local macro_rules | `(tactic| walk_at "exec For Name Subscript") => `(tactic| (k_here; (rename Fr _ _ _ _ => lF'); (with_unfolding_all refine' For_invVF lF' ?k1 ?k2 ?_; (case k1 => exact rfl); (case k2 => exact rfl); k_whole)))
local macro_rules | `(tactic| walk_at "compareOp Eq ref ref") => `(tactic| (k_here; k_dflt (refine' eq_dat (r := false) ?H ?d1 ?d2 ?hc ?hd ?hu ?_; (case H => exact heldOf (by k_asm)); (case d1 => tb_rel); (case d2 => tb_rel); (case hc => exact cmp_head (by assumption) _); (case hd => exact Nat.le_of_ble_eq_true rfl); (case hu => ktr_units))))
local macro_rules | `(tactic| walk_at "compareOp Eq str str") => `(tactic| (k_here; k_dflt (refine' eq_str_no ?h ?_; (case h => assumption); k_whole)))
local macro_rules | `(tactic| ktr_enter) => `(tactic| (refine' code_defC ?k1 ?k2 ?k3 ?k4 ?k5 ?kA ?kF ?kK ?k6 ?k7 ?k8 ?k9 ?kB ?kD ?_ ?c2 ?c3 ?c4; (case kA => exact rfl); (case kF => exact rfl); (case kK => assumption); (case k1 => k_asm); (case k2 => k_asm); (case k3 => k_asm); (case k4 => k_asm); (case k5 => k_asm); (case k6 => k_is); (case k7 => k_is); (case k8 => ktr_room); (case k9 => exact BindsTo.of_eq rfl); (case kB => exact rfl); (case kD => decide +kernel); (case c2 => exact rfl); (case c3 => exact rfl); (case c4 => exact rfl); k_whole; intro g' L' h' tk' cells' FG' F' N' Y' B' X' T' l1; (try k_lt l1); k_cells Y'; (try simp only [List.cons_append, List.nil_append] at N'); (try dsimp only); (try k_fold)))
local macro_rules | `(tactic| walk_at "call ref") => `(tactic| (k_here; (with_reducible show wpAny _ _ (call (Value.ref 108) [Value.ref _, _] _) _ _ _); k_dflt (refine' fuse_use (f := 108) ?C ?ho ?hv ?hF ?hst ?hne ?hlen ?hm ?hc ?y1 ?y2 ?y3 ?B ?F ?X ?N ?T ?hk ?hd ?hu ?_; (case C => assumption); (case hv => assumption); (case ho => assumption); (case hF => assumption); (case hst => assumption); (case hne => assumption); (case hlen => first | assumption | omega); (case B => k_asm); (case F => k_asm); (case X => k_asm); (case N => k_asm); (case T => k_asm); (case hk => first | rfl | assumption); (case hm => tb_start); (case hc => kqd_sub); (case y1 => k_all); (case y2 => k_all); (case y3 => k_all); (case hd => ktr_room); (case hu => ktr_units); k_whole; intro r' t4' tk4' xs' n3' ys' n4' Y' h' tk' g' F' N' hst' hr'; (try simp only [List.cons_append, List.nil_append] at N'); (try k_fold))))
local macro_rules | `(tactic| walk_at "call ref") => `(tactic| (k_here; (with_reducible show wpAny _ _ (call (Value.ref 115) [Value.ref _, _] _) _ _ _); k_dflt (refine' fuse_use (f := 115) ?C ?ho ?hv ?hF ?hst ?hne ?hlen ?hm ?hc ?y1 ?y2 ?y3 ?B ?F ?X ?N ?T ?hk ?hd ?hu ?_; (case C => assumption); (case hv => assumption); (case ho => assumption); (case hF => assumption); (case hst => assumption); (case hne => assumption); (case hlen => first | assumption | omega); (case B => k_asm); (case F => k_asm); (case X => k_asm); (case N => k_asm); (case T => k_asm); (case hk => first | rfl | assumption); (case hm => tb_start); (case hc => kqd_sub); (case y1 => k_all); (case y2 => k_all); (case y3 => k_all); (case hd => ktr_room); (case hu => ktr_units); k_whole; intro r' t4' tk4' xs' n3' ys' n4' Y' h' tk' g' F' N' hst' hr'; (try simp only [List.cons_append, List.nil_append] at N'); (try k_fold))))
local macro_rules | `(tactic| walk_at "call ref") => `(tactic| (k_here; (with_reducible show wpAny _ _ (call (Value.ref 120) [Value.ref _, _] _) _ _ _); k_dflt (refine' fuse_use (f := 120) ?C ?ho ?hv ?hF ?hst ?hne ?hlen ?hm ?hc ?y1 ?y2 ?y3 ?B ?F ?X ?N ?T ?hk ?hd ?hu ?_; (case C => assumption); (case hv => assumption); (case ho => assumption); (case hF => assumption); (case hst => assumption); (case hne => assumption); (case hlen => first | assumption | omega); (case B => k_asm); (case F => k_asm); (case X => k_asm); (case N => k_asm); (case T => k_asm); (case hk => first | rfl | assumption); (case hm => tb_start); (case hc => kqd_sub); (case y1 => k_all); (case y2 => k_all); (case y3 => k_all); (case hd => ktr_room); (case hu => ktr_units); k_whole; intro r' t4' tk4' xs' n3' ys' n4' Y' h' tk' g' F' N' hst' hr'; (try simp only [List.cons_append, List.nil_append] at N'); (try k_fold))))
local macro_rules | `(tactic| walk_at "call ref") => `(tactic| (k_here; (with_reducible show wpAny _ _ (call (Value.ref 68) [_, Value.str _ _] _) _ _ _); k_dflt (refine' isEx_use ?C ?hv ?e ?B ?F ?X ?N ?T ?hk ?hs ?hd ?hu ?_; (case C => exact isEx_con _); (case hv => assumption); (case e => first | rfl | assumption); (case B => k_asm); (case F => k_asm); (case X => k_asm); (case N => k_asm); (case T => k_asm); (case hk => first | rfl | assumption); (case hs => tb_start); (case hd => ktr_room); (case hu => ktr_units); k_whole; intro h' tk' F' N'; (try k_fold))))
local macro_rules | `(tactic| walk_at "eval Call Name cons nil") => `(tactic| (k_here; refine Call_ ?_))
local macro_rules | `(tactic| walk_at "compareOp NotEq ref ref") => `(tactic| (k_here; k_dflt (first
  | (refine' ne_nn ?N ?h1 ?h2 ?hu ?_; (case N => k_asm); (case h1 => lsm_bools); (case h2 => lsm_bools); (case hu => ktr_units); k_whole)
  | (refine' ne_cn ?N ?h1 ?h2 ?d1 ?ok ?hu ?_; (case N => k_asm); (case h1 => lsm_bools); (case h2 => lsm_bools); (case d1 => tb_rel); (case ok => decide +kernel); (case hu => ktr_units); k_whole))))
local macro_rules | `(tactic| walk_at "compareOp Eq ref ref") => `(tactic| (k_here; k_dflt (first
  | (refine' eq_dat (r := false) ?H ?d1 ?d2 ?hc ?hd ?hu ?_; (case H => exact heldOf (by k_asm)); (case d1 => tb_rel); (case d2 => (show TIn _ _ (symD _); tb_rel)); (case hc => with_unfolding_all rfl); (case hd => exact Nat.le_of_ble_eq_true rfl); (case hu => ktr_units))
  | (refine' eq_dat (r := true) ?H ?d1 ?d2 ?hc ?hd ?hu ?_; (case H => exact heldOf (by k_asm)); (case d1 => tb_rel); (case d2 => (show TIn _ _ (symD _); tb_rel)); (case hc => with_unfolding_all rfl); (case hd => exact Nat.le_of_ble_eq_true rfl); (case hu => ktr_units)))))
local macro_rules | `(tactic| walk_at "call builtin:list.extend") => `(tactic| (k_here; k_dflt (refine' ext_nilT ?F ?N ?b ?U ?z ?_; (case F => k_asm); (case N => k_asm); (case b => lsm_bools); (case U => k_upd); (case z => exact Nat.le_of_ble_eq_true rfl)); intro h' F' N'; (try dsimp only at N'); (try k_sweep)))
set_option maxHeartbeats 8000000 in
theorem mend_colon (w : World) (v : Value) (Y : List (Addr × Obj)) (hv : TIn Y v (tS ":").dat) : Con w 141 [v] 12 100 [] Y (fun M' _ r => M' = [] ∧ r = .bool false) := by
  obtain ⟨a, n, t1, t2, rfl, hm⟩ := sym_inv hv
  refine Con.intro ?_
  intro dp un gd cn cs fa ccd cl outer A₀ base h₀ L m s mean mg mb Q E B F X N Tp hk hd hu fin
  simp only [List.nil_append] at N
  refine wpAny_call ?_
  w_strict (
    k_dflt ktr_enter
    k_steps)
  refine' fin [] _ _ _ _ (by k_asm) (by k_asm) (List.forall_mem_nil _) ?Y (fun _ _ => ⟨rfl, rfl⟩)
  case Y => tb_start
set_option maxHeartbeats 8000000 in
theorem mend_end (w : World) (v : Value) (Y : List (Addr × Obj)) (hv : TIn Y v (tS "end").dat) : Con w 141 [v] 12 100 [] Y (fun M' _ r => M' = [] ∧ r = .bool true) := by
  obtain ⟨a, n, t1, t2, rfl, hm⟩ := sym_inv hv
  refine Con.intro ?_
  intro dp un gd cn cs fa ccd cl outer A₀ base h₀ L m s mean mg mb Q E B F X N Tp hk hd hu fin
  simp only [List.nil_append] at N
  refine wpAny_call ?_
  w_strict (
    k_dflt ktr_enter
    k_steps)
  refine' fin [] _ _ _ _ (by k_asm) (by k_asm) (List.forall_mem_nil _) ?Y (fun _ _ => ⟨rfl, rfl⟩)
  case Y => tb_start
set_option maxHeartbeats 8000000 in
theorem mend_call (w : World) (v : Value) (Y : List (Addr × Obj)) (hv : TIn Y v (tE "call" [tS "k", .int 3]).dat) : Con w 141 [v] 12 100 [] Y (fun M' _ r => M' = [] ∧ r = .bool false) := by
  obtain ⟨a, n, t1, t2, b, vs, k, rfl, hm, hm2, hT⟩ := ex_inv hv
  cases hT with
  | cons hv1 hT =>
  cases hT with
  | cons hv2 hT =>
  cases hT
  obtain ⟨a1, n1, t3, t4, rfl, hm3⟩ := sym_inv hv1
  obtain ⟨a2, n2, t5, t6, rfl, hm4⟩ := int_inv hv2
  refine Con.intro ?_
  intro dp un gd cn cs fa ccd cl outer A₀ base h₀ L m s mean mg mb Q E B F X N Tp hk hd hu fin
  simp only [List.nil_append] at N
  refine wpAny_call ?_
  w_strict (
    k_dflt ktr_enter
    k_steps)
  refine' fin [] _ _ _ _ (by k_asm) (by k_asm) (List.forall_mem_nil _) ?Y (fun _ _ => ⟨rfl, rfl⟩)
  case Y => tb_start
end

section
-- CompIf
open LCg LCt
section
variable {prog : Program} {w : World} {A : Around} {E : Value → Shared → Prop} {s : Shared} {h₀ : Heap} {L : Addr} {m : Str → Option Value} {env : Env}
/-- the source of a comprehension with a test over a tuple -/
def IfSrc (prog : Program) (w : World) (A : Around) (h₀ : Heap) (L : Addr) (m : Str → Option Value) (env : Env) (ct elt : Expr) (x : Str) (scope : Scope) (cl : List (Str × Addr)) (Q : Value → Shared → Prop) (xv : Value) (s₁ : Shared) : Prop :=
  ∃ ax vs k news, xv = .ref ax ∧ A.handled = none ∧ Fr h₀ L s₁.heap m ∧ News h₀ L s₁.heap news ∧ (ax, tupObj vs k) ∈ news ∧ vs.length ≤ sizeLine ∧
    ∀ g, CompRestT prog w A h₀ L m env ct elt x scope cl { s₁ with heap := g } (SrcK ax vs k) (fun i v => vs.toArray[i]? = some v) (FinE h₀ L m { s₁ with heap := g } Q) vs.toArray.size 0 [] news
theorem comp_tup_if {ct elt iter : Expr} {x : Str} {px : Pos} {scope : Scope} {cl : List (Str × Addr)} {pos : Pos} {Q : Value → Shared → Prop}
    (_F₀ : Fr h₀ L s.heap m) (hclos : closureFor scope env = pure cl) (hcell : ∀ y ∈ scope.names, y.2 ≠ .cell) (hkind : scope.kind = .function)
    (hnames : ∀ y ∈ scope.names, y.2 = .local → scope.names.lookup y.1 = some .local) (hx : scope.names.lookup x = some .local)
    (h : wpAny (model prog w) A (eval iter env) (IfSrc prog w A h₀ L m env ct elt x scope cl Q) E s)
    (hs : ∀ x, foldedSetIterable iter env x = pure x := by intro _; rfl) :
    wpAny (model prog w) A (eval (.ListComp elt [⟨.Name x px, iter, [ct], 0⟩] scope pos) env) Q E s := by
  rw [eval_ListComp]
  refine wpAny_comprehension_free (use := none) rfl hs hclos hkind hnames (wpAny_mono h (fun xv s₁ h₁ => ?_) fun _ _ e => e)
  obtain ⟨ax, vs, k, news, rfl, hh, F, N, hm, hsz, R⟩ := h₁
  have src : ∀ {h' : Heap} {nw : List (Addr × Obj)}, News h₀ L h' nw → SrcK ax vs k nw → h'.IsTuple ax vs.toArray := fun N' hS => ⟨_, (N' _ hS).1, rfl, k, rfl⟩
  have hl := src N hm
  have hlt : @LT.lt Nat _ ax s₁.heap.objs.size := Heap.lt_size (N _ hm).1
  refine wpAny_pyIter_tuple hl ?_
  have up : ∀ b o, s₁.heap.get? b = some o → (s₁.heap.push { cls := .type "tuple_iterator", data := .fields #[.ref ax, .int 0 0] }).get? b = some o := fun b o e => Heap.get?_push_of_some _ e
  refine block_T (Walks.tuple hh s₁.heap.objs.size ax (Nat.ne_of_lt hlt) vs.toArray) (by simpa using hsz) (fun i h st => by obtain ⟨o, e, _⟩ := st.1; exact ⟨o, e⟩) ?st hcell hkind hx ⟨⟨_, Heap.get?_push_size _ rfl, rfl, rfl⟩, hl.push _⟩ (fun b hb => ?_)
    (F.keeps up) (N.grown up) (Nat.ne_of_lt F.ns.lt) (next_is_new F) (fun p hp => Nat.ne_of_lt (Heap.lt_size (N p hp).1)) hm (R _) ?_
  case st =>
    intro i h h' o nw st e e' _ N' S
    obtain ⟨o', q, r⟩ := st.1
    rw [e] at q
    cases q
    exact ⟨⟨o, e', r⟩, src N' S⟩
  · show b < (s₁.heap.push _).objs.size
    rw [Heap.size_push]
    rcases List.mem_cons.mp hb with rfl | hb
    · exact Nat.lt_succ_self _
    · rw [List.mem_singleton.mp hb]; exact Nat.lt_succ_of_lt hlt
  · intro D C h tk m' ys news' F' N' o1 hn hC₀ hD₀ hCL hDL hCD offC fin
    refine ⟨m', hn, fun h'' hs'' => fin D h'' tk (F'.change hs'' hCL hC₀) (fun p hp => ?_) o1⟩
    refine ⟨hs''.extBut _ _ ?_ (N' p hp).1, (N' p hp).2⟩
    rcases List.mem_cons.mp hp with rfl | hp
    · exact Ne.symm hCD
    · exact offC p hp
theorem ifsrc {ct elt : Expr} {x : Str} {scope : Scope} {cl : List (Str × Addr)} {Q : Value → Shared → Prop} {ax : Addr} {vs : List Value} {k : Nat} {news : List (Addr × Obj)} {s₁ : Shared}
    (hh : A.handled = none) (F : Fr h₀ L s₁.heap m) (N : News h₀ L s₁.heap news) (hm : (ax, tupObj vs k) ∈ news) (hsz : vs.length ≤ sizeLine)
    (R : ∀ g, CompRestT prog w A h₀ L m env ct elt x scope cl { s₁ with heap := g } (SrcK ax vs k) (fun i v => vs.toArray[i]? = some v) (FinE h₀ L m { s₁ with heap := g } Q) vs.toArray.size 0 [] news) :
    IfSrc prog w A h₀ L m env ct elt x scope cl Q (.ref ax) s₁ := ⟨ax, vs, k, news, rfl, hh, F, N, hm, hsz, R⟩
/-- a turn that leaves the ledger as it was -/
theorem turn_end {I C D : Addr} {s₁ : Shared} {oI oC oD : Obj} {S : List (Addr × Obj) → Prop} {rest : Value → List (Addr × Obj) → Prop} {y : Value} {nw messy : List (Addr × Obj)} {h' : Heap} {tk' : Nat}
    (F : Fr h₀ L h' m) (N : News h₀ L h' messy) (hs : ∀ p ∈ (I, oI) :: (C, oC) :: (D, oD) :: nw, p ∈ messy) (off : Off3 I C D nw) (hS : S nw) (r : rest y nw) :
    CompEnd h₀ L m s₁ I oI C oC D oD S rest y { s₁ with heap := h', toks := tk' } := CompEnd.intro F N nw hs off hS r
end
/-- goal_of a place -/
def GoalC (w : World) (place goal : T) : Prop := ∀ (pv : Value) (Y : List (Addr × Obj)), TIn Y pv place.dat → Con w 146 [pv] 40 300 [] Y (fun M' Y₁ r => M' = [] ∧ TIn Y₁ r goal.dat)
/-- mentions_end of a tree -/
def MendC (w : World) (t : T) (b : Bool) : Prop := ∀ (v : Value) (Y : List (Addr × Obj)), TIn Y v t.dat → Con w 141 [v] 12 100 [] Y (fun M' _ r => M' = [] ∧ r = .bool b)
section
variable {w : World} {Y news ex : List (Addr × Obj)}
  {dp un : Nat} {gd : Option (List Code)} {cn : Str} {cs : Scope} {fa : Addr} {ccd : Value} {cl : List (Str × Addr)} {outer : List Env} {A₀ : Around} {base h₀ : Heap} {L0 : Addr} {m : Str → Option Value} {s : Shared}
  {mean : ExcName → Option Value} {mg mb : Str → Option Value} {Q E : Value → Shared → Prop}
theorem mend_use {t : T} {b : Bool} {v : Value} (C : MendC w t b) (hv : TIn news v t.dat)
    (Bl : Below A₀ base outer h₀) (F : Fr h₀ L0 s.heap m) (X : (hd.heap_39 w.params).In h₀) (N : News h₀ L0 s.heap news)
    (Tp : Top hd.view_39 (looseW hd.view_39 [Str.ofString "RowsError"]) mean mg mb h₀) (hk : cs.kind = .function)
    (hd : dp + 12 < recursionLimit) (hu : un + 100 < cLine)
    (ret : ∀ Y₂ h' tk', GrowT news Y₂ → Fr h₀ L0 h' m → News h₀ L0 h' Y₂ → Q (.bool b) { s with heap := h', toks := tk' }) :
    wpAny (model PySem.Challenge.rw_pq0689_01.row.prog w) (ktrTop dp un gd cn cs L0 fa ccd cl outer) (call (.ref 141) [v]) Q E s := by
  refine Con.use (ex := []) (Y := news) (fun _ => C v _ hv) ?_ .tail (fun _ h => nomatch h) (fun _ h => nomatch h) Bl F X N Tp hk hd hu ?_
  · rintro M' X Z r _ h
    exact h
  · rintro r M' Y₂ h' tk' g F' N' ⟨rfl, rfl⟩
    exact ret Y₂ h' tk' g F' (by simpa using N')
theorem goal_use {place goal : T} {pv : Value} (C : GoalC w place goal) (hv : TIn news pv place.dat)
    (Bl : Below A₀ base outer h₀) (F : Fr h₀ L0 s.heap m) (X : (hd.heap_39 w.params).In h₀) (N : News h₀ L0 s.heap news)
    (Tp : Top hd.view_39 (looseW hd.view_39 [Str.ofString "RowsError"]) mean mg mb h₀) (hk : cs.kind = .function)
    (hd : dp + 40 < recursionLimit) (hu : un + 300 < cLine)
    (ret : ∀ r Y₂ h' tk', GrowT news Y₂ → Fr h₀ L0 h' m → News h₀ L0 h' Y₂ → TIn Y₂ r goal.dat → Q r { s with heap := h', toks := tk' }) :
    wpAny (model PySem.Challenge.rw_pq0689_01.row.prog w) (ktrTop dp un gd cn cs L0 fa ccd cl outer) (call (.ref 146) [pv]) Q E s := by
  refine Con.use (ex := []) (Y := news) (fun _ => C pv _ hv) ?_ .tail (fun _ h => nomatch h) (fun _ h => nomatch h) Bl F X N Tp hk hd hu ?_
  · rintro M' X Z r hs ⟨h1, h2⟩
    exact ⟨h1, h2.mono hs⟩
  · rintro r M' Y₂ h' tk' g F' N' ⟨rfl, h2⟩
    exact ret r Y₂ h' tk' g F' (by simpa using N') h2
end
end

section
-- GoalOf
theorem reset_GoalOf : True := by
  w_top off
  trivial
local macro_rules | `(tactic| lsm_bools) => `(tactic| first | exact List.Mem.head _ | assumption | (refine' List.Mem.tail _ ?_; lsm_bools) | (refine' GrowT.mem ?g ?h; (case g => assumption); (case h => lsm_bools)) | fail "no entry")
local macro_rules | `(tactic| k_mem) => `(tactic| first | lsm_bools | fail "no entry")
local macro_rules | `(tactic| tb_start) => `(tactic| first
  | exact List.forall_mem_nil _
  | (refine' List.forall_mem_cons.mpr ⟨?a, ?b⟩; (case a => lsm_bools); (case b => tb_start))
  | (intro p hp; repeat (first | exact hp | refine List.mem_cons_of_mem _ ?_ | refine List.Mem.tail _ ?_ | refine GrowT.mem' (by assumption) ?_ | refine GrowT.mem (by assumption) ?_ | fail "no entry"))
  | fail "not within")
local macro_rules | `(tactic| k_all) => `(tactic| first
  | assumption
  | (refine' GrowT.off ?g ?o ?N ?s ?m ?c; (case g => assumption); (case o => k_all); (case N => k_asm); (case s => tb_start); (case m => lsm_bools); (case c => rfl))
  | (refine' offLt ?h ?s; (case h => assumption); (case s => tb_start))
  | fail "not apart")
local macro_rules | `(tactic| k_lt $h:ident) => `(tactic| (have hl9 := $h; replace $h := allLt_of $h; simp only [AllLt, and_true] at $h:ident))
local macro_rules | `(tactic| kqd_sub) => `(tactic| first
  | (refine' Cut.own ?m ?r; (case m => lsm_bools); (case r => kqd_sub))
  | (refine' Cut.oth ?o ?r; (case o => k_all); (case r => kqd_sub))
  | exact Cut.tail
  | fail "no cut")
local macro_rules | `(tactic| ktr_rel) => `(tactic| first
  | exact subT_nil
  | exact subT_of (fun _ hp => hp)
  | assumption
  | (refine' subT_skip ?a ?b; (case a => rfl); (case b => ktr_rel))
  | (refine' subT_cons ?a ?b; (case a => lsm_bools); (case b => ktr_rel))
  | (refine' subT_of ?h; (case h => tb_start))
  | (refine' subT_app ?a ?b; (case a => ktr_rel); (case b => ktr_rel))
  | fail "tuples not within")
local macro_rules | `(tactic| k_room) => `(tactic| ktr_room)
local macro_rules | `(tactic| k_units) => `(tactic| ktr_units)
local macro_rules | `(tactic| tb_rel) => `(tactic| first
  | exact TAll.nil
  | exact TIn.str _ _
  | exact TIn.int _ _
  | exact TIn.bytes _ _
  | assumption
  | (refine' TIn.mono ?s ?h; (case h => assumption); (case s => ktr_rel))
  | (refine' TAll.mono ?s ?h; (case h => assumption); (case s => ktr_rel))
  | (refine' TIn.tuple ?m ?r; (case m => lsm_bools); (case r => tb_rel))
  | (refine' TAll.cons ?h ?t; (case h => tb_rel); (case t => tb_rel))
  | fail "no tree")
local macro_rules | `(tactic| walk_at "compareOp In str ref") => `(tactic| (k_here; k_dflt (refine' in_tupL ?ht ?hi ?_; (case ht => (refine' tupK ?X ?l; (case X => k_in); (case l => k_is))); (case hi => exact rfl))))
local macro_rules | `(tactic| walk_at "compareOp Eq ref ref") => `(tactic| (k_here; k_dflt (first
  | (refine' eq_dat (r := false) ?H ?d1 ?d2 ?hc ?hd ?hu ?_; (case H => exact heldOf (by k_asm)); (case d1 => tb_rel); (case d2 => tb_rel); (case hc => with_unfolding_all rfl); (case hd => exact Nat.le_of_ble_eq_true rfl); (case hu => ktr_units))
  | (refine' eq_dat (r := true) ?H ?d1 ?d2 ?hc ?hd ?hu ?_; (case H => exact heldOf (by k_asm)); (case d1 => tb_rel); (case d2 => tb_rel); (case hc => with_unfolding_all rfl); (case hd => exact Nat.le_of_ble_eq_true rfl); (case hu => ktr_units)))))
local macro_rules | `(tactic| walk_at "compareOp NotEq ref ref") => `(tactic| (k_here; k_dflt (first
  | (refine' ne_dat (r := false) ?H ?d1 ?d2 ?hc ?hd ?hu ?_; (case H => exact heldOf (by k_asm)); (case d1 => tb_rel); (case d2 => tb_rel); (case hc => with_unfolding_all rfl); (case hd => exact Nat.le_of_ble_eq_true rfl); (case hu => ktr_units))
  | (refine' ne_dat (r := true) ?H ?d1 ?d2 ?hc ?hd ?hu ?_; (case H => exact heldOf (by k_asm)); (case d1 => tb_rel); (case d2 => tb_rel); (case hc => with_unfolding_all rfl); (case hd => exact Nat.le_of_ble_eq_true rfl); (case hu => ktr_units)))))
local macro_rules | `(tactic| walk_at "subscriptTail Name Constant ref int") => `(tactic| (k_here; k_dflt (refine' item_tupleT ?t ?a ?b ?c ?d ?_; (case t => exact News.isTup (by k_asm) (by k_mem)); (case a => decide); (case b => decide); (case c => rfl); (case d => rfl); k_whole)))
local macro_rules | `(tactic| walk_at "ite") => `(tactic| (k_closed; k_dflt (first | (refine' ite_pos ?c ?_; (case c => decide)) | (refine' ite_neg ?c ?_; (case c => decide)))))
local macro_rules | `(tactic| walk_at "call type:range cons nil") => `(tactic| (k_here; k_dflt (refine' range1_rows ?F ?N ?_; (case F => k_asm); (case N => k_asm); k_whole; intro h' tk' t1' u1' v1' hR' F' N' hst'; (try k_fold))))
local macro_rules | `(tactic| walk_at "pyIter ref") => `(tactic| (k_here; (with_reducible show wpAny _ _ (pyIter (Value.ref _)) (fun it s₂ => LoopAtV _ _ _ _ _ _ _ _ _ it s₂) _ _); refine' Hold.of ?_))
local macro_rules | `(tactic| walk_at "binaryOp Add ref ref") => `(tactic| (k_here; k_dflt (refine' add_cat ?F ?N ?a ?b ?z ?_; (case F => k_asm); (case N => k_asm); (case a => lsm_bools); (case b => lsm_bools); (case z => (simp only [sizeLine_eq, List.length_cons, List.length_nil]; omega)); k_whole; intro D' h' F' N' l1; (try k_lt l1); (try k_sweep))))
local macro_rules | `(tactic| walk_at "subscriptTail Name Slice ref ref") => `(tactic| (k_here; k_dflt (first
  | (refine' slice_whole ?F ?N ?t ?l ?z ?_ ?hs ?hg; (case F => k_asm); (case N => k_asm); (case t => lsm_bools); (case l => exact Nat.le_of_ble_eq_true rfl); (case z => exact Nat.le_of_ble_eq_true rfl); (case hs => with_unfolding_all rfl); (case hg => (intro _; with_unfolding_all rfl)); k_whole; intro h' F' N'; (try k_sweep))
  | (refine' slice_upto ?F ?N ?t ?l ?z ?_ ?hs ?hg; (case F => k_asm); (case N => k_asm); (case t => lsm_bools); (case l => exact Nat.le_of_ble_eq_true rfl); (case z => exact Nat.le_of_ble_eq_true rfl); (case hs => with_unfolding_all rfl); (case hg => (intro _; with_unfolding_all rfl)); k_whole; intro D' h' F' N' l1; (try k_lt l1); (try k_sweep)))))
local macro_rules | `(tactic| walk_at "subscriptTail Name Slice ref ref") => `(tactic| (k_here; k_dflt
  (refine' slice_from ?F ?N ?t ?o ?l ?z ?_ ?hs ?hg; (case F => k_asm); (case N => k_asm); (case t => lsm_bools); (case o => exact Nat.le_of_ble_eq_true rfl); (case l => (simp only [List.length_cons]; omega)); (case z => (simp only [sizeLine_eq, List.length_cons]; omega)); (case hs => with_unfolding_all rfl); (case hg => (intro _; with_unfolding_all rfl)); k_whole; intro D' h' F' N' l1; (try k_lt l1); (try k_sweep))))
local macro_rules | `(tactic| walk_at "subscriptTail Subscript Name Constant Slice ref ref") => `(tactic| (k_here; k_dflt
  (refine' slice_from ?F ?N ?t ?o ?l ?z ?_ ?hs ?hg; (case F => k_asm); (case N => k_asm); (case t => lsm_bools); (case o => exact Nat.le_of_ble_eq_true rfl); (case l => (simp only [List.length_cons]; omega)); (case z => (simp only [sizeLine_eq, List.length_cons]; omega)); (case hs => with_unfolding_all rfl); (case hg => (intro _; with_unfolding_all rfl)); k_whole; intro D' h' F' N' l1; (try k_lt l1); (try k_sweep))))
local macro_rules | `(tactic| walk_at "call type:tuple cons nil") => `(tactic| (k_here; k_dflt (refine' tuple_of ?F ?N ?t ?z ?_; (case F => k_asm); (case N => k_asm); (case t => lsm_bools); (case z => first | exact Nat.le_of_ble_eq_true rfl | (simp only [sizeLine_eq, List.length_append, List.length_cons, List.length_nil]; omega)); k_whole; intro D' h' F' N' l1; (try k_lt l1); (try k_sweep))))
local macro_rules | `(tactic| walk_at "subscriptTail Name Constant ref int") => `(tactic| (k_here; k_dflt (refine' item_tupI ?N ?m ?a ?b ?c ?_; (case N => k_asm); (case m => lsm_bools); (case a => decide); (case b => decide); (case c => exact rfl); k_whole)))
local macro_rules | `(tactic| walk_at "subscriptTail Subscript Name Constant Constant ref int") => `(tactic| (k_here; k_dflt (refine' item_tupI ?N ?m ?a ?b ?c ?_; (case N => k_asm); (case m => lsm_bools); (case a => decide); (case b => decide); (case c => exact rfl); k_whole)))
local macro_rules | `(tactic| walk_at "subscriptTail Subscript Subscript Constant Constant ref int") => `(tactic| (k_here; k_dflt (refine' item_tupI ?N ?m ?a ?b ?c ?_; (case N => k_asm); (case m => lsm_bools); (case a => decide); (case b => decide); (case c => exact rfl); k_whole)))
local macro_rules | `(tactic| walk_at "subscriptTail Call Name cons nil Constant ref int") => `(tactic| (k_here; k_dflt (refine' item_tupI ?N ?m ?a ?b ?c ?_; (case N => k_asm); (case m => lsm_bools); (case a => decide); (case b => decide); (case c => exact rfl); k_whole)))
local macro_rules | `(tactic| walk_at "binaryOp Add ref ref") => `(tactic| (k_here; k_dflt (refine' add_tupC ?F ?N ?a ?b ?l1 ?l2 ?z ?_; (case F => k_asm); (case N => k_asm); (case a => lsm_bools); (case b => lsm_bools); (case l1 => (simp only [List.length_cons, List.length_nil]; omega)); (case l2 => omega); (case z => (simp only [sizeLine_eq, List.length_cons, List.length_nil]; omega)); k_whole; intro D' h' F' N' l1; (try k_lt l1); (try k_sweep))))
local macro_rules | `(tactic| walk_at "call type:tuple cons nil") => `(tactic| (k_here; k_dflt (refine' tuple_same ?N ?t ?_; (case N => k_asm); (case t => lsm_bools); k_whole)))
local macro_rules | `(tactic| walk_at "call builtin:len cons nil") => `(tactic| (k_here; k_dflt (refine' len_tupK ?N ?t ?z ?_; (case N => k_asm); (case t => lsm_bools); (case z => (simp only [sizeLine_eq, List.length_cons, List.length_nil]; omega)); k_whole; intro tk1' tk2')))
local macro_rules | `(tactic| walk_at "eval ListComp") => `(tactic| (k_here; refine' Hold.of ?_))
local macro_rules | `(tactic| walk_at "compareOp NotEq ref ref") => `(tactic| (k_here; k_dflt (refine' ne_dat (r := false) ?H ?d1 ?d2 ?hc ?hd ?hu ?_; (case H => exact heldOf (by k_asm)); (case d1 => tb_rel); (case d2 => tb_rel); (case hc => exact cmp_head (by assumption) _); (case hd => exact Nat.le_of_ble_eq_true rfl); (case hu => ktr_units))))
local macro_rules | `(tactic| walk_at "call ref") => `(tactic| (k_here; (with_reducible show wpAny _ _ (call (Value.ref 233) [_] _) _ _ _); k_dflt (refine' plain_use ?C ?ho ?hv ?B ?F ?X ?N ?T ?hk ?hc ?hd ?hu ?_; (case C => assumption); (case ho => assumption); (case hv => assumption); (case B => k_asm); (case F => k_asm); (case X => k_asm); (case N => k_asm); (case T => k_asm); (case hk => first | rfl | assumption); (case hc => kqd_sub); (case hd => ktr_room); (case hu => ktr_units); k_whole; intro r' Y' h' tk' g' F' N' hr'; (try simp only [List.cons_append, List.nil_append] at N'); (try k_fold))))
local macro_rules | `(tactic| walk_at "call ref") => `(tactic| (k_here; (with_reducible show wpAny _ _ (call (Value.ref 240) [_] _) _ _ _); k_dflt (refine' things_use ?C ?ho ?hv ?B ?F ?X ?N ?T ?hk ?hc ?hd ?hu ?_; (case C => assumption); (case ho => assumption); (case hv => assumption); (case B => k_asm); (case F => k_asm); (case X => k_asm); (case N => k_asm); (case T => k_asm); (case hk => first | rfl | assumption); (case hc => kqd_sub); (case hd => ktr_room); (case hu => ktr_units); k_whole; intro a' vs' k' Y' h' tk' g' F' N' hr' hrl'; (try simp only [List.cons_append, List.nil_append] at N'); (try k_fold))))
local macro_rules | `(tactic| walk_at "exec For Name Subscript") => `(tactic| (k_here; (rename Fr _ _ _ _ => lF'); (with_unfolding_all refine' For_invVF lF' ?k1 ?k2 ?_; (case k1 => exact rfl); (case k2 => exact rfl); k_whole)))
local macro_rules | `(tactic| walk_at "compareOp Eq ref ref") => `(tactic| (k_here; k_dflt (refine' eq_dat (r := false) ?H ?d1 ?d2 ?hc ?hd ?hu ?_; (case H => exact heldOf (by k_asm)); (case d1 => tb_rel); (case d2 => tb_rel); (case hc => exact cmp_head (by assumption) _); (case hd => exact Nat.le_of_ble_eq_true rfl); (case hu => ktr_units))))
local macro_rules | `(tactic| walk_at "compareOp Eq str str") => `(tactic| (k_here; k_dflt (refine' eq_str_no ?h ?_; (case h => assumption); k_whole)))
local macro_rules | `(tactic| ktr_enter) => `(tactic| (refine' code_defC ?k1 ?k2 ?k3 ?k4 ?k5 ?kA ?kF ?kK ?k6 ?k7 ?k8 ?k9 ?kB ?kD ?_ ?c2 ?c3 ?c4; (case kA => exact rfl); (case kF => exact rfl); (case kK => assumption); (case k1 => k_asm); (case k2 => k_asm); (case k3 => k_asm); (case k4 => k_asm); (case k5 => k_asm); (case k6 => k_is); (case k7 => k_is); (case k8 => ktr_room); (case k9 => exact BindsTo.of_eq rfl); (case kB => exact rfl); (case kD => decide +kernel); (case c2 => exact rfl); (case c3 => exact rfl); (case c4 => exact rfl); k_whole; intro g' L' h' tk' cells' FG' F' N' Y' B' X' T' l1; (try k_lt l1); k_cells Y'; (try simp only [List.cons_append, List.nil_append] at N'); (try dsimp only); (try k_fold)))
local macro_rules | `(tactic| walk_at "call ref") => `(tactic| (k_here; (with_reducible show wpAny _ _ (call (Value.ref 108) [Value.ref _, _] _) _ _ _); k_dflt (refine' fuse_use (f := 108) ?C ?ho ?hv ?hF ?hst ?hne ?hlen ?hm ?hc ?y1 ?y2 ?y3 ?B ?F ?X ?N ?T ?hk ?hd ?hu ?_; (case C => assumption); (case hv => assumption); (case ho => assumption); (case hF => assumption); (case hst => assumption); (case hne => assumption); (case hlen => first | assumption | omega); (case B => k_asm); (case F => k_asm); (case X => k_asm); (case N => k_asm); (case T => k_asm); (case hk => first | rfl | assumption); (case hm => tb_start); (case hc => kqd_sub); (case y1 => k_all); (case y2 => k_all); (case y3 => k_all); (case hd => ktr_room); (case hu => ktr_units); k_whole; intro r' t4' tk4' xs' n3' ys' n4' Y' h' tk' g' F' N' hst' hr'; (try simp only [List.cons_append, List.nil_append] at N'); (try k_fold))))
local macro_rules | `(tactic| walk_at "call ref") => `(tactic| (k_here; (with_reducible show wpAny _ _ (call (Value.ref 115) [Value.ref _, _] _) _ _ _); k_dflt (refine' fuse_use (f := 115) ?C ?ho ?hv ?hF ?hst ?hne ?hlen ?hm ?hc ?y1 ?y2 ?y3 ?B ?F ?X ?N ?T ?hk ?hd ?hu ?_; (case C => assumption); (case hv => assumption); (case ho => assumption); (case hF => assumption); (case hst => assumption); (case hne => assumption); (case hlen => first | assumption | omega); (case B => k_asm); (case F => k_asm); (case X => k_asm); (case N => k_asm); (case T => k_asm); (case hk => first | rfl | assumption); (case hm => tb_start); (case hc => kqd_sub); (case y1 => k_all); (case y2 => k_all); (case y3 => k_all); (case hd => ktr_room); (case hu => ktr_units); k_whole; intro r' t4' tk4' xs' n3' ys' n4' Y' h' tk' g' F' N' hst' hr'; (try simp only [List.cons_append, List.nil_append] at N'); (try k_fold))))
local macro_rules | `(tactic| walk_at "call ref") => `(tactic| (k_here; (with_reducible show wpAny _ _ (call (Value.ref 120) [Value.ref _, _] _) _ _ _); k_dflt (refine' fuse_use (f := 120) ?C ?ho ?hv ?hF ?hst ?hne ?hlen ?hm ?hc ?y1 ?y2 ?y3 ?B ?F ?X ?N ?T ?hk ?hd ?hu ?_; (case C => assumption); (case hv => assumption); (case ho => assumption); (case hF => assumption); (case hst => assumption); (case hne => assumption); (case hlen => first | assumption | omega); (case B => k_asm); (case F => k_asm); (case X => k_asm); (case N => k_asm); (case T => k_asm); (case hk => first | rfl | assumption); (case hm => tb_start); (case hc => kqd_sub); (case y1 => k_all); (case y2 => k_all); (case y3 => k_all); (case hd => ktr_room); (case hu => ktr_units); k_whole; intro r' t4' tk4' xs' n3' ys' n4' Y' h' tk' g' F' N' hst' hr'; (try simp only [List.cons_append, List.nil_append] at N'); (try k_fold))))
local macro_rules | `(tactic| walk_at "call ref") => `(tactic| (k_here; (with_reducible show wpAny _ _ (call (Value.ref 68) [_, Value.str _ _] _) _ _ _); k_dflt (refine' isEx_use ?C ?hv ?e ?B ?F ?X ?N ?T ?hk ?hs ?hd ?hu ?_; (case C => exact isEx_con _); (case hv => assumption); (case e => first | rfl | assumption); (case B => k_asm); (case F => k_asm); (case X => k_asm); (case N => k_asm); (case T => k_asm); (case hk => first | rfl | assumption); (case hs => tb_start); (case hd => ktr_room); (case hu => ktr_units); k_whole; intro h' tk' F' N'; (try k_fold))))
local macro_rules | `(tactic| walk_at "eval Call Name cons nil") => `(tactic| (k_here; refine Call_ ?_))
local macro_rules | `(tactic| k_all) => `(tactic| first
  | assumption
  | (refine' GrowT.off ?g ?o ?N ?s ?m ?c; (case g => assumption); (case o => k_all); (case N => k_asm); (case s => tb_start); (case m => lsm_bools); (case c => rfl))
  | (refine' offLt ?h ?s; (case h => assumption); (case s => tb_start))
  | exact List.forall_mem_nil _
  | (refine' List.forall_mem_cons.mpr ⟨?a, ?b⟩; (case a => first | exact adr_ne (by omega) | (refine' apart_of ?N ?p ?q ?e; (case N => k_asm); (case p => lsm_bools); (case q => lsm_bools); (case e => rfl))); (case b => k_all))
  | fail "not apart")
local macro_rules | `(tactic| walk_at "call ref") => `(tactic| (k_here; (with_reducible show wpAny _ _ (call (Value.ref 120) [Value.ref _, _] _) _ _ _); k_dflt (refine' fuse_useE ?C ?ho ?hv ?hlen ?hF ?e1 ?e2 ?hne ?hm ?hc ?y1 ?y2 ?y3 ?B ?F ?X ?N ?T ?hk ?hd ?hu ?_; (case C => assumption); (case hv => assumption); (case ho => assumption); (case hlen => assumption); (case N => k_asm); (case hF => refine' ⟨?f1, ⟨_, _, _, ?f2⟩, ?f3⟩; (case f1 => lsm_bools); (case f2 => lsm_bools); (case f3 => lsm_bools)); (case hm => tb_start); (case e1 => rfl); (case e2 => rfl); (case hne => exact adr_ne (by omega)); (case hc => kqd_sub); (case B => k_asm); (case F => k_asm); (case X => k_asm); (case T => k_asm); (case hk => first | rfl | assumption); (case y1 => k_all); (case y2 => k_all); (case y3 => k_all); (case hd => ktr_room); (case hu => ktr_units); k_whole; intro r' t4' tk4' nvs' n3' lvs' n4' Y' h' tk' g' F' N' ln' ll' hn' hl' hr'; (try simp only [List.cons_append, List.nil_append] at N'); (try k_fold))))
local macro_rules | `(tactic| walk_at "call ref") => `(tactic| (k_here; (with_reducible show wpAny _ _ (call (Value.ref 151) [Value.ref _, _] _) _ _ _); k_dflt (refine' fo_use ?C ?hn ?hm ?hN ?hv ?B ?F ?X ?N ?T ?hk ?hd ?hu ?_; (case C => assumption); (case N => k_asm); (case hm => lsm_bools); (case hN => (refine' TAll.mono ?s ?h; (case h => assumption); (case s => exact subT_of (by tb_start)))); (case hv => (refine' TIn.mono ?s ?h; (case h => assumption); (case s => exact subT_of (by tb_start)))); (case hn => omega); (case B => k_asm); (case F => k_asm); (case X => k_asm); (case T => k_asm); (case hk => first | rfl | assumption); (case hd => ktr_room); (case hu => ktr_units); k_whole; intro r' Y' h' tk' g' F' N' hr'; (try simp only [List.cons_append, List.nil_append] at N'); (try k_fold))))
local macro_rules | `(tactic| walk_at "binaryOp Add ref ref") => `(tactic| (k_here; k_dflt (refine' add_tupE ?F ?N ?a ?b ?l1 ?z ?_; (case F => k_asm); (case N => k_asm); (case a => lsm_bools); (case b => lsm_bools); (case l1 => (simp only [List.length_cons, List.length_nil]; omega)); (case z => (simp only [sizeLine_eq, List.length_cons, List.length_nil]; omega)); k_whole; intro D' n' h' F' N'; (try k_sweep))))
local macro_rules | `(tactic| walk_at "compareOp NotEq ref ref") => `(tactic| (k_here; k_dflt (first
  | (refine' ne_nn ?N ?h1 ?h2 ?hu ?_; (case N => k_asm); (case h1 => lsm_bools); (case h2 => lsm_bools); (case hu => ktr_units); k_whole)
  | (refine' ne_cn ?N ?h1 ?h2 ?d1 ?ok ?hu ?_; (case N => k_asm); (case h1 => lsm_bools); (case h2 => lsm_bools); (case d1 => tb_rel); (case ok => decide +kernel); (case hu => ktr_units); k_whole))))
local macro_rules | `(tactic| walk_at "compareOp Eq ref ref") => `(tactic| (k_here; k_dflt (first
  | (refine' eq_dat (r := false) ?H ?d1 ?d2 ?hc ?hd ?hu ?_; (case H => exact heldOf (by k_asm)); (case d1 => tb_rel); (case d2 => (show TIn _ _ (symD _); tb_rel)); (case hc => with_unfolding_all rfl); (case hd => exact Nat.le_of_ble_eq_true rfl); (case hu => ktr_units))
  | (refine' eq_dat (r := true) ?H ?d1 ?d2 ?hc ?hd ?hu ?_; (case H => exact heldOf (by k_asm)); (case d1 => tb_rel); (case d2 => (show TIn _ _ (symD _); tb_rel)); (case hc => with_unfolding_all rfl); (case hd => exact Nat.le_of_ble_eq_true rfl); (case hu => ktr_units)))))
local macro_rules | `(tactic| walk_at "call builtin:list.extend") => `(tactic| (k_here; k_dflt (refine' ext_nilT ?F ?N ?b ?U ?z ?_; (case F => k_asm); (case N => k_asm); (case b => lsm_bools); (case U => k_upd); (case z => exact Nat.le_of_ble_eq_true rfl)); intro h' F' N'; (try dsimp only at N'); (try k_sweep)))
local macro_rules | `(tactic| walk_at "call ref") => `(tactic| (k_here; (with_reducible show wpAny _ _ (call (Value.ref 141) [_] _) _ _ _); k_dflt (refine' mend_use ?C ?hv ?B ?F ?X ?N ?T ?hk ?hd ?hu ?_; (case N => k_asm); (case hv => (refine' TIn.mono ?s ?h; (case h => assumption); (case s => exact subT_of (by tb_start)))); (case C => assumption); (case B => k_asm); (case F => k_asm); (case X => k_asm); (case T => k_asm); (case hk => first | rfl | assumption); (case hd => ktr_room); (case hu => ktr_units); k_whole; intro Y' h' tk' g' F' N'; (try k_fold))))
local macro_rules | `(tactic| walk_at "subscriptTail Subscript Name Constant Slice ref ref") => `(tactic| (k_here; k_dflt
  (refine' slice_from ?F ?N ?t ?o ?l ?z ?_ ?hs ?hg; (case F => k_asm); (case N => k_asm); (case t => lsm_bools); (case o => exact Nat.le_of_ble_eq_true rfl); (case l => exact Nat.le_of_ble_eq_true rfl); (case z => exact Nat.le_of_ble_eq_true rfl); (case hs => with_unfolding_all rfl); (case hg => (intro _; with_unfolding_all rfl)); k_whole; intro D' h' F' N' l1; (try k_lt l1); (try k_sweep))))
local macro_rules | `(tactic| walk_at "subscriptTail Name Slice ref ref") => `(tactic| (k_here; k_dflt
  (refine' slice_from ?F ?N ?t ?o ?l ?z ?_ ?hs ?hg; (case F => k_asm); (case N => k_asm); (case t => lsm_bools); (case o => exact Nat.le_of_ble_eq_true rfl); (case l => exact Nat.le_of_ble_eq_true rfl); (case z => exact Nat.le_of_ble_eq_true rfl); (case hs => with_unfolding_all rfl); (case hg => (intro _; with_unfolding_all rfl)); k_whole; intro D' h' F' N' l1; (try k_lt l1); (try k_sweep))))
open LCg LCt
set_option maxHeartbeats 8000000 in
theorem goal_y (w : World) : GoalC w (tS "y") (tS "y") := by
  intro pv Y hv
  obtain ⟨a, n, t1, t2, rfl, hm⟩ := sym_inv hv
  refine Con.intro ?_
  intro dp un gd cn cs fa ccd cl outer A₀ base h₀ L m s mean mg mb Q E B F X N Tp hk hd hu fin
  simp only [List.nil_append] at N
  refine wpAny_call ?_
  w_strict (
    k_dflt ktr_enter
    k_steps)
  refine' fin [] _ _ _ _ (by k_asm) (by k_asm) (List.forall_mem_nil _) ?Y (fun Y₁ hs => ⟨rfl, TIn.mono hs ?P⟩)
  case Y => tb_start
  case P => (refine' TIn.mono ?s ?h; (case h => assumption); (case s => exact subT_of (by tb_start)))
set_option maxHeartbeats 8000000 in
theorem goal_ref (w : World) (M1 : MendC w (tS ":") false) (M2 : MendC w (tE "call" [tS "k", .int 3]) false) :
    GoalC w (tE "ref" [tS "y", tS ":", tE "call" [tS "k", .int 3]]) (tE "call" [tS "view", tS "y", tS ":", tE "call" [tS "k", .int 3]]) := by
  intro pv Y hv
  obtain ⟨a, n, t1, t2, b, vs, k, rfl, hm, hm2, hT⟩ := ex_inv hv
  cases hT with
  | @cons v0 _ _ _ hv0 hT =>
  cases hT with
  | @cons v1 _ _ _ hv1 hT =>
  cases hT with
  | @cons v2 _ _ _ hv2 hT =>
  cases hT
  refine Con.intro ?_
  intro dp un gd cn cs fa ccd cl outer A₀ base h₀ L m s mean mg mb Q E B F X N Tp hk hd hu fin
  simp only [List.nil_append] at N
  refine wpAny_call ?_
  w_strict (
    k_dflt ktr_enter
    k_steps)
  unfold Hold
  rename Fr _ _ _ _ => F1
  refine' comp_tup_if F1 ?hclos ?hcell ?hkind ?hnames ?hx ?h ?hs
  case hclos => with_unfolding_all rfl
  case hcell => decide
  case hkind => rfl
  case hnames => decide
  case hx => rfl
  case hs => (intro _; with_unfolding_all rfl)
  case h =>
    w_strict (
      k_steps)
    refine' ifsrc (vs := [v1, v2]) ?hh ?F ?N ?hm ?hz fun g9 => ?R
    case hh => rfl
    case F => k_asm
    case N => k_asm
    case hm => lsm_bools
    case hz => exact Nat.le_of_ble_eq_true rfl
    case R =>
      refine CompRestT.succ (k := 1) ?_
      intro v I oI C oC D m₂ h tk E' hP hoC hx F' N' off ne
      obtain rfl : v1 = v := by simpa using hP
      have off' := off
      simp only [LCg.Off3] at off'
      k_sweep
      w_strict (
        k_steps)
      refine' turn_end ?F ?N (fun p hp => GrowT.mem' (by assumption) hp) off ?S ?_
      case F => k_asm
      case N => k_asm
      case S => exact List.Mem.head _
      clear off' off ne F' N' hoC hx hP
      refine CompRestT.succ (k := 0) ?_
      intro v I oI C oC D m₂ h tk E' hP hoC hx F' N' off ne
      obtain rfl : v2 = v := by simpa using hP
      have off' := off
      simp only [LCg.Off3] at off'
      k_sweep
      w_strict (
        k_steps)
      refine' turn_end ?F ?N (fun p hp => GrowT.mem' (by assumption) hp) off ?S ?_
      case F => k_asm
      case N => k_asm
      case S => exact List.Mem.head _
      clear off' off ne F' N' hoC hx hP
      refine CompRestT.zero ?_
      intro D h tk F' N' o1
      have o1' := o1
      simp only [LCg.Off1] at o1'
      k_sweep
      w_strict (
        k_steps)
      refine' fin [] _ _ _ _ (by k_asm) (by k_asm) (List.forall_mem_nil _) ?Y (fun Y₁ hs => ⟨rfl, TIn.mono hs ?P⟩)
      case Y => tb_start
      case P =>
        show TIn _ _ (.tuple [sS "expr", sS "call", .tuple [symD (Str.ofString "view"), (tS "y").dat, (tS ":").dat, (tE "call" [tS "k", .int 3]).dat]])
        tb_rel
end

section
-- FusedSet
theorem reset_FusedSet : True := by
  w_top off
  trivial
local macro_rules | `(tactic| lsm_bools) => `(tactic| first | exact List.Mem.head _ | assumption | (refine' List.Mem.tail _ ?_; lsm_bools) | (refine' GrowT.mem ?g ?h; (case g => assumption); (case h => lsm_bools)) | fail "no entry")
local macro_rules | `(tactic| k_mem) => `(tactic| first | lsm_bools | fail "no entry")
local macro_rules | `(tactic| tb_start) => `(tactic| first
  | exact List.forall_mem_nil _
  | (refine' List.forall_mem_cons.mpr ⟨?a, ?b⟩; (case a => lsm_bools); (case b => tb_start))
  | (intro p hp; repeat (first | exact hp | refine List.mem_cons_of_mem _ ?_ | refine List.Mem.tail _ ?_ | refine GrowT.mem' (by assumption) ?_ | refine GrowT.mem (by assumption) ?_ | fail "no entry"))
  | fail "not within")
local macro_rules | `(tactic| k_all) => `(tactic| first
  | assumption
  | (refine' GrowT.off ?g ?o ?N ?s ?m ?c; (case g => assumption); (case o => k_all); (case N => k_asm); (case s => tb_start); (case m => lsm_bools); (case c => rfl))
  | (refine' offLt ?h ?s; (case h => assumption); (case s => tb_start))
  | fail "not apart")
local macro_rules | `(tactic| k_lt $h:ident) => `(tactic| (have hl9 := $h; replace $h := allLt_of $h; simp only [AllLt, and_true] at $h:ident))
local macro_rules | `(tactic| kqd_sub) => `(tactic| first
  | (refine' Cut.own ?m ?r; (case m => lsm_bools); (case r => kqd_sub))
  | (refine' Cut.oth ?o ?r; (case o => k_all); (case r => kqd_sub))
  | exact Cut.tail
  | fail "no cut")
local macro_rules | `(tactic| ktr_rel) => `(tactic| first
  | exact subT_nil
  | exact subT_of (fun _ hp => hp)
  | assumption
  | (refine' subT_skip ?a ?b; (case a => rfl); (case b => ktr_rel))
  | (refine' subT_cons ?a ?b; (case a => lsm_bools); (case b => ktr_rel))
  | (refine' subT_of ?h; (case h => tb_start))
  | (refine' subT_app ?a ?b; (case a => ktr_rel); (case b => ktr_rel))
  | fail "tuples not within")
local macro_rules | `(tactic| k_room) => `(tactic| ktr_room)
local macro_rules | `(tactic| k_units) => `(tactic| ktr_units)
local macro_rules | `(tactic| tb_rel) => `(tactic| first
  | exact TAll.nil
  | exact TIn.str _ _
  | exact TIn.int _ _
  | exact TIn.bytes _ _
  | assumption
  | (refine' TIn.mono ?s ?h; (case h => assumption); (case s => ktr_rel))
  | (refine' TAll.mono ?s ?h; (case h => assumption); (case s => ktr_rel))
  | (refine' TIn.tuple ?m ?r; (case m => lsm_bools); (case r => tb_rel))
  | (refine' TAll.cons ?h ?t; (case h => tb_rel); (case t => tb_rel))
  | fail "no tree")
local macro_rules | `(tactic| walk_at "compareOp In str ref") => `(tactic| (k_here; k_dflt (refine' in_tupL ?ht ?hi ?_; (case ht => (refine' tupK ?X ?l; (case X => k_in); (case l => k_is))); (case hi => exact rfl))))
local macro_rules | `(tactic| walk_at "compareOp Eq ref ref") => `(tactic| (k_here; k_dflt (first
  | (refine' eq_dat (r := false) ?H ?d1 ?d2 ?hc ?hd ?hu ?_; (case H => exact heldOf (by k_asm)); (case d1 => tb_rel); (case d2 => tb_rel); (case hc => with_unfolding_all rfl); (case hd => exact Nat.le_of_ble_eq_true rfl); (case hu => ktr_units))
  | (refine' eq_dat (r := true) ?H ?d1 ?d2 ?hc ?hd ?hu ?_; (case H => exact heldOf (by k_asm)); (case d1 => tb_rel); (case d2 => tb_rel); (case hc => with_unfolding_all rfl); (case hd => exact Nat.le_of_ble_eq_true rfl); (case hu => ktr_units)))))
local macro_rules | `(tactic| walk_at "compareOp NotEq ref ref") => `(tactic| (k_here; k_dflt (first
  | (refine' ne_dat (r := false) ?H ?d1 ?d2 ?hc ?hd ?hu ?_; (case H => exact heldOf (by k_asm)); (case d1 => tb_rel); (case d2 => tb_rel); (case hc => with_unfolding_all rfl); (case hd => exact Nat.le_of_ble_eq_true rfl); (case hu => ktr_units))
  | (refine' ne_dat (r := true) ?H ?d1 ?d2 ?hc ?hd ?hu ?_; (case H => exact heldOf (by k_asm)); (case d1 => tb_rel); (case d2 => tb_rel); (case hc => with_unfolding_all rfl); (case hd => exact Nat.le_of_ble_eq_true rfl); (case hu => ktr_units)))))
local macro_rules | `(tactic| walk_at "subscriptTail Name Constant ref int") => `(tactic| (k_here; k_dflt (refine' item_tupleT ?t ?a ?b ?c ?d ?_; (case t => exact News.isTup (by k_asm) (by k_mem)); (case a => decide); (case b => decide); (case c => rfl); (case d => rfl); k_whole)))
local macro_rules | `(tactic| walk_at "ite") => `(tactic| (k_closed; k_dflt (first | (refine' ite_pos ?c ?_; (case c => decide)) | (refine' ite_neg ?c ?_; (case c => decide)))))
local macro_rules | `(tactic| walk_at "call type:range cons nil") => `(tactic| (k_here; k_dflt (refine' range1_rows ?F ?N ?_; (case F => k_asm); (case N => k_asm); k_whole; intro h' tk' t1' u1' v1' hR' F' N' hst'; (try k_fold))))
local macro_rules | `(tactic| walk_at "pyIter ref") => `(tactic| (k_here; (with_reducible show wpAny _ _ (pyIter (Value.ref _)) (fun it s₂ => LoopAtV _ _ _ _ _ _ _ _ _ it s₂) _ _); refine' Hold.of ?_))
local macro_rules | `(tactic| walk_at "binaryOp Add ref ref") => `(tactic| (k_here; k_dflt (refine' add_cat ?F ?N ?a ?b ?z ?_; (case F => k_asm); (case N => k_asm); (case a => lsm_bools); (case b => lsm_bools); (case z => (simp only [sizeLine_eq, List.length_cons, List.length_nil]; omega)); k_whole; intro D' h' F' N' l1; (try k_lt l1); (try k_sweep))))
local macro_rules | `(tactic| walk_at "subscriptTail Name Slice ref ref") => `(tactic| (k_here; k_dflt (first
  | (refine' slice_whole ?F ?N ?t ?l ?z ?_ ?hs ?hg; (case F => k_asm); (case N => k_asm); (case t => lsm_bools); (case l => exact Nat.le_of_ble_eq_true rfl); (case z => exact Nat.le_of_ble_eq_true rfl); (case hs => with_unfolding_all rfl); (case hg => (intro _; with_unfolding_all rfl)); k_whole; intro h' F' N'; (try k_sweep))
  | (refine' slice_upto ?F ?N ?t ?l ?z ?_ ?hs ?hg; (case F => k_asm); (case N => k_asm); (case t => lsm_bools); (case l => exact Nat.le_of_ble_eq_true rfl); (case z => exact Nat.le_of_ble_eq_true rfl); (case hs => with_unfolding_all rfl); (case hg => (intro _; with_unfolding_all rfl)); k_whole; intro D' h' F' N' l1; (try k_lt l1); (try k_sweep)))))
local macro_rules | `(tactic| walk_at "subscriptTail Name Slice ref ref") => `(tactic| (k_here; k_dflt
  (refine' slice_from ?F ?N ?t ?o ?l ?z ?_ ?hs ?hg; (case F => k_asm); (case N => k_asm); (case t => lsm_bools); (case o => exact Nat.le_of_ble_eq_true rfl); (case l => (simp only [List.length_cons]; omega)); (case z => (simp only [sizeLine_eq, List.length_cons]; omega)); (case hs => with_unfolding_all rfl); (case hg => (intro _; with_unfolding_all rfl)); k_whole; intro D' h' F' N' l1; (try k_lt l1); (try k_sweep))))
local macro_rules | `(tactic| walk_at "subscriptTail Subscript Name Constant Slice ref ref") => `(tactic| (k_here; k_dflt
  (refine' slice_from ?F ?N ?t ?o ?l ?z ?_ ?hs ?hg; (case F => k_asm); (case N => k_asm); (case t => lsm_bools); (case o => exact Nat.le_of_ble_eq_true rfl); (case l => (simp only [List.length_cons]; omega)); (case z => (simp only [sizeLine_eq, List.length_cons]; omega)); (case hs => with_unfolding_all rfl); (case hg => (intro _; with_unfolding_all rfl)); k_whole; intro D' h' F' N' l1; (try k_lt l1); (try k_sweep))))
local macro_rules | `(tactic| walk_at "call type:tuple cons nil") => `(tactic| (k_here; k_dflt (refine' tuple_of ?F ?N ?t ?z ?_; (case F => k_asm); (case N => k_asm); (case t => lsm_bools); (case z => first | exact Nat.le_of_ble_eq_true rfl | (simp only [sizeLine_eq, List.length_append, List.length_cons, List.length_nil]; omega)); k_whole; intro D' h' F' N' l1; (try k_lt l1); (try k_sweep))))
local macro_rules | `(tactic| walk_at "subscriptTail Name Constant ref int") => `(tactic| (k_here; k_dflt (refine' item_tupI ?N ?m ?a ?b ?c ?_; (case N => k_asm); (case m => lsm_bools); (case a => decide); (case b => decide); (case c => exact rfl); k_whole)))
local macro_rules | `(tactic| walk_at "subscriptTail Subscript Name Constant Constant ref int") => `(tactic| (k_here; k_dflt (refine' item_tupI ?N ?m ?a ?b ?c ?_; (case N => k_asm); (case m => lsm_bools); (case a => decide); (case b => decide); (case c => exact rfl); k_whole)))
local macro_rules | `(tactic| walk_at "subscriptTail Subscript Subscript Constant Constant ref int") => `(tactic| (k_here; k_dflt (refine' item_tupI ?N ?m ?a ?b ?c ?_; (case N => k_asm); (case m => lsm_bools); (case a => decide); (case b => decide); (case c => exact rfl); k_whole)))
local macro_rules | `(tactic| walk_at "subscriptTail Call Name cons nil Constant ref int") => `(tactic| (k_here; k_dflt (refine' item_tupI ?N ?m ?a ?b ?c ?_; (case N => k_asm); (case m => lsm_bools); (case a => decide); (case b => decide); (case c => exact rfl); k_whole)))
local macro_rules | `(tactic| walk_at "binaryOp Add ref ref") => `(tactic| (k_here; k_dflt (refine' add_tupC ?F ?N ?a ?b ?l1 ?l2 ?z ?_; (case F => k_asm); (case N => k_asm); (case a => lsm_bools); (case b => lsm_bools); (case l1 => (simp only [List.length_cons, List.length_nil]; omega)); (case l2 => omega); (case z => (simp only [sizeLine_eq, List.length_cons, List.length_nil]; omega)); k_whole; intro D' h' F' N' l1; (try k_lt l1); (try k_sweep))))
local macro_rules | `(tactic| walk_at "call type:tuple cons nil") => `(tactic| (k_here; k_dflt (refine' tuple_same ?N ?t ?_; (case N => k_asm); (case t => lsm_bools); k_whole)))
local macro_rules | `(tactic| walk_at "call builtin:len cons nil") => `(tactic| (k_here; k_dflt (refine' len_tupK ?N ?t ?z ?_; (case N => k_asm); (case t => lsm_bools); (case z => (simp only [sizeLine_eq, List.length_cons, List.length_nil]; omega)); k_whole; intro tk1' tk2')))
local macro_rules | `(tactic| walk_at "eval ListComp") => `(tactic| (k_here; refine' Hold.of ?_))
local macro_rules | `(tactic| walk_at "compareOp NotEq ref ref") => `(tactic| (k_here; k_dflt (refine' ne_dat (r := false) ?H ?d1 ?d2 ?hc ?hd ?hu ?_; (case H => exact heldOf (by k_asm)); (case d1 => tb_rel); (case d2 => tb_rel); (case hc => exact cmp_head (by assumption) _); (case hd => exact Nat.le_of_ble_eq_true rfl); (case hu => ktr_units))))
local macro_rules | `(tactic| walk_at "call ref") => `(tactic| (k_here; (with_reducible show wpAny _ _ (call (Value.ref 233) [_] _) _ _ _); k_dflt (refine' plain_use ?C ?ho ?hv ?B ?F ?X ?N ?T ?hk ?hc ?hd ?hu ?_; (case C => assumption); (case ho => assumption); (case hv => assumption); (case B => k_asm); (case F => k_asm); (case X => k_asm); (case N => k_asm); (case T => k_asm); (case hk => first | rfl | assumption); (case hc => kqd_sub); (case hd => ktr_room); (case hu => ktr_units); k_whole; intro r' Y' h' tk' g' F' N' hr'; (try simp only [List.cons_append, List.nil_append] at N'); (try k_fold))))
local macro_rules | `(tactic| walk_at "call ref") => `(tactic| (k_here; (with_reducible show wpAny _ _ (call (Value.ref 240) [_] _) _ _ _); k_dflt (refine' things_use ?C ?ho ?hv ?B ?F ?X ?N ?T ?hk ?hc ?hd ?hu ?_; (case C => assumption); (case ho => assumption); (case hv => assumption); (case B => k_asm); (case F => k_asm); (case X => k_asm); (case N => k_asm); (case T => k_asm); (case hk => first | rfl | assumption); (case hc => kqd_sub); (case hd => ktr_room); (case hu => ktr_units); k_whole; intro a' vs' k' Y' h' tk' g' F' N' hr' hrl'; (try simp only [List.cons_append, List.nil_append] at N'); (try k_fold))))
local macro_rules | `(tactic| walk_at "exec For Name Subscript") => `(tactic| (k_here; (rename Fr _ _ _ _ => lF'); (with_unfolding_all refine' For_invVF lF' ?k1 ?k2 ?_; (case k1 => exact rfl); (case k2 => exact rfl); k_whole)))
local macro_rules | `(tactic| walk_at "compareOp Eq ref ref") => `(tactic| (k_here; k_dflt (refine' eq_dat (r := false) ?H ?d1 ?d2 ?hc ?hd ?hu ?_; (case H => exact heldOf (by k_asm)); (case d1 => tb_rel); (case d2 => tb_rel); (case hc => exact cmp_head (by assumption) _); (case hd => exact Nat.le_of_ble_eq_true rfl); (case hu => ktr_units))))
local macro_rules | `(tactic| walk_at "compareOp Eq str str") => `(tactic| (k_here; k_dflt (refine' eq_str_no ?h ?_; (case h => assumption); k_whole)))
local macro_rules | `(tactic| ktr_enter) => `(tactic| (refine' code_defC ?k1 ?k2 ?k3 ?k4 ?k5 ?kA ?kF ?kK ?k6 ?k7 ?k8 ?k9 ?kB ?kD ?_ ?c2 ?c3 ?c4; (case kA => exact rfl); (case kF => exact rfl); (case kK => assumption); (case k1 => k_asm); (case k2 => k_asm); (case k3 => k_asm); (case k4 => k_asm); (case k5 => k_asm); (case k6 => k_is); (case k7 => k_is); (case k8 => ktr_room); (case k9 => exact BindsTo.of_eq rfl); (case kB => exact rfl); (case kD => decide +kernel); (case c2 => exact rfl); (case c3 => exact rfl); (case c4 => exact rfl); k_whole; intro g' L' h' tk' cells' FG' F' N' Y' B' X' T' l1; (try k_lt l1); k_cells Y'; (try simp only [List.cons_append, List.nil_append] at N'); (try dsimp only); (try k_fold)))
local macro_rules | `(tactic| walk_at "call ref") => `(tactic| (k_here; (with_reducible show wpAny _ _ (call (Value.ref 108) [Value.ref _, _] _) _ _ _); k_dflt (refine' fuse_use (f := 108) ?C ?ho ?hv ?hF ?hst ?hne ?hlen ?hm ?hc ?y1 ?y2 ?y3 ?B ?F ?X ?N ?T ?hk ?hd ?hu ?_; (case C => assumption); (case hv => assumption); (case ho => assumption); (case hF => assumption); (case hst => assumption); (case hne => assumption); (case hlen => first | assumption | omega); (case B => k_asm); (case F => k_asm); (case X => k_asm); (case N => k_asm); (case T => k_asm); (case hk => first | rfl | assumption); (case hm => tb_start); (case hc => kqd_sub); (case y1 => k_all); (case y2 => k_all); (case y3 => k_all); (case hd => ktr_room); (case hu => ktr_units); k_whole; intro r' t4' tk4' xs' n3' ys' n4' Y' h' tk' g' F' N' hst' hr'; (try simp only [List.cons_append, List.nil_append] at N'); (try k_fold))))
local macro_rules | `(tactic| walk_at "call ref") => `(tactic| (k_here; (with_reducible show wpAny _ _ (call (Value.ref 115) [Value.ref _, _] _) _ _ _); k_dflt (refine' fuse_use (f := 115) ?C ?ho ?hv ?hF ?hst ?hne ?hlen ?hm ?hc ?y1 ?y2 ?y3 ?B ?F ?X ?N ?T ?hk ?hd ?hu ?_; (case C => assumption); (case hv => assumption); (case ho => assumption); (case hF => assumption); (case hst => assumption); (case hne => assumption); (case hlen => first | assumption | omega); (case B => k_asm); (case F => k_asm); (case X => k_asm); (case N => k_asm); (case T => k_asm); (case hk => first | rfl | assumption); (case hm => tb_start); (case hc => kqd_sub); (case y1 => k_all); (case y2 => k_all); (case y3 => k_all); (case hd => ktr_room); (case hu => ktr_units); k_whole; intro r' t4' tk4' xs' n3' ys' n4' Y' h' tk' g' F' N' hst' hr'; (try simp only [List.cons_append, List.nil_append] at N'); (try k_fold))))
local macro_rules | `(tactic| walk_at "call ref") => `(tactic| (k_here; (with_reducible show wpAny _ _ (call (Value.ref 120) [Value.ref _, _] _) _ _ _); k_dflt (refine' fuse_use (f := 120) ?C ?ho ?hv ?hF ?hst ?hne ?hlen ?hm ?hc ?y1 ?y2 ?y3 ?B ?F ?X ?N ?T ?hk ?hd ?hu ?_; (case C => assumption); (case hv => assumption); (case ho => assumption); (case hF => assumption); (case hst => assumption); (case hne => assumption); (case hlen => first | assumption | omega); (case B => k_asm); (case F => k_asm); (case X => k_asm); (case N => k_asm); (case T => k_asm); (case hk => first | rfl | assumption); (case hm => tb_start); (case hc => kqd_sub); (case y1 => k_all); (case y2 => k_all); (case y3 => k_all); (case hd => ktr_room); (case hu => ktr_units); k_whole; intro r' t4' tk4' xs' n3' ys' n4' Y' h' tk' g' F' N' hst' hr'; (try simp only [List.cons_append, List.nil_append] at N'); (try k_fold))))
local macro_rules | `(tactic| walk_at "call ref") => `(tactic| (k_here; (with_reducible show wpAny _ _ (call (Value.ref 68) [_, Value.str _ _] _) _ _ _); k_dflt (refine' isEx_use ?C ?hv ?e ?B ?F ?X ?N ?T ?hk ?hs ?hd ?hu ?_; (case C => exact isEx_con _); (case hv => assumption); (case e => first | rfl | assumption); (case B => k_asm); (case F => k_asm); (case X => k_asm); (case N => k_asm); (case T => k_asm); (case hk => first | rfl | assumption); (case hs => tb_start); (case hd => ktr_room); (case hu => ktr_units); k_whole; intro h' tk' F' N'; (try k_fold))))
local macro_rules | `(tactic| walk_at "eval Call Name cons nil") => `(tactic| (k_here; refine Call_ ?_))
local macro_rules | `(tactic| k_all) => `(tactic| first
  | assumption
  | (refine' GrowT.off ?g ?o ?N ?s ?m ?c; (case g => assumption); (case o => k_all); (case N => k_asm); (case s => tb_start); (case m => lsm_bools); (case c => rfl))
  | (refine' offLt ?h ?s; (case h => assumption); (case s => tb_start))
  | exact List.forall_mem_nil _
  | (refine' List.forall_mem_cons.mpr ⟨?a, ?b⟩; (case a => first | exact adr_ne (by omega) | (refine' apart_of ?N ?p ?q ?e; (case N => k_asm); (case p => lsm_bools); (case q => lsm_bools); (case e => rfl))); (case b => k_all))
  | fail "not apart")
local macro_rules | `(tactic| walk_at "call ref") => `(tactic| (k_here; (with_reducible show wpAny _ _ (call (Value.ref 120) [Value.ref _, _] _) _ _ _); k_dflt (refine' fuse_useE ?C ?ho ?hv ?hlen ?hF ?e1 ?e2 ?hne ?hm ?hc ?y1 ?y2 ?y3 ?B ?F ?X ?N ?T ?hk ?hd ?hu ?_; (case C => assumption); (case hv => assumption); (case ho => assumption); (case hlen => assumption); (case N => k_asm); (case hF => refine' ⟨?f1, ⟨_, _, _, ?f2⟩, ?f3⟩; (case f1 => lsm_bools); (case f2 => lsm_bools); (case f3 => lsm_bools)); (case hm => tb_start); (case e1 => rfl); (case e2 => rfl); (case hne => exact adr_ne (by omega)); (case hc => kqd_sub); (case B => k_asm); (case F => k_asm); (case X => k_asm); (case T => k_asm); (case hk => first | rfl | assumption); (case y1 => k_all); (case y2 => k_all); (case y3 => k_all); (case hd => ktr_room); (case hu => ktr_units); k_whole; intro r' t4' tk4' nvs' n3' lvs' n4' Y' h' tk' g' F' N' ln' ll' hn' hl' hr'; (try simp only [List.cons_append, List.nil_append] at N'); (try k_fold))))
local macro_rules | `(tactic| walk_at "call ref") => `(tactic| (k_here; (with_reducible show wpAny _ _ (call (Value.ref 151) [Value.ref _, _] _) _ _ _); k_dflt (refine' fo_use ?C ?hn ?hm ?hN ?hv ?B ?F ?X ?N ?T ?hk ?hd ?hu ?_; (case C => assumption); (case N => k_asm); (case hm => lsm_bools); (case hN => (refine' TAll.mono ?s ?h; (case h => assumption); (case s => exact subT_of (by tb_start)))); (case hv => (refine' TIn.mono ?s ?h; (case h => assumption); (case s => exact subT_of (by tb_start)))); (case hn => omega); (case B => k_asm); (case F => k_asm); (case X => k_asm); (case T => k_asm); (case hk => first | rfl | assumption); (case hd => ktr_room); (case hu => ktr_units); k_whole; intro r' Y' h' tk' g' F' N' hr'; (try simp only [List.cons_append, List.nil_append] at N'); (try k_fold))))
local macro_rules | `(tactic| walk_at "binaryOp Add ref ref") => `(tactic| (k_here; k_dflt (refine' add_tupE ?F ?N ?a ?b ?l1 ?z ?_; (case F => k_asm); (case N => k_asm); (case a => lsm_bools); (case b => lsm_bools); (case l1 => (simp only [List.length_cons, List.length_nil]; omega)); (case z => (simp only [sizeLine_eq, List.length_cons, List.length_nil]; omega)); k_whole; intro D' n' h' F' N'; (try k_sweep))))
local macro_rules | `(tactic| walk_at "call ref") => `(tactic| (k_here; (with_reducible show wpAny _ _ (call (Value.ref 146) [_] _) _ _ _); k_dflt (refine' goal_use ?C ?hv ?B ?F ?X ?N ?T ?hk ?hd ?hu ?_; (case C => assumption); (case N => k_asm); (case hv => (refine' TIn.mono ?s ?h; (case h => assumption); (case s => exact subT_of (by tb_start)))); (case B => k_asm); (case F => k_asm); (case X => k_asm); (case T => k_asm); (case hk => first | rfl | assumption); (case hd => ktr_room); (case hu => ktr_units); k_whole; intro r' Y' h' tk' g' F' N' hr'; (try k_fold))))
local macro_rules | `(tactic| walk_at "compareOp NotEq int int") => `(tactic| (k_here; k_dflt (refine' ne_int_same ?e ?_; (case e => rfl); k_whole)))
set_option maxHeartbeats 8000000 in
theorem fused_set (w : World) (nn : Nat) (hnn : nn ≤ 3) (BC : FuseC w 120 (30 + 8 * nn) (160 + 60 * nn) (TreeOk nn) thingsT bodyT) (FO : FoC w) (place goal t : T) (GC : GoalC w place goal) (tv : Value) (hto : TreeOk nn t) (Y : List (Addr × Obj)) (htv : TIn Y tv (tE ".=" [place, t]).dat) (sz sd : Addr) (hs : (sz, instObj 182 sd) ∈ Y) (t4 tk : Tok) (ho : ∀ p ∈ Y, p.1 ≠ sd) :
    Con w 158 [tv, .ref sz] 80 600 [(sd, dictOf [attrE w "many" t4 (.int 0 tk)] 1)] Y (fun M' Y₁ r => M' = [] ∧ ToldIn Y₁ r 86 (fnT (thingsT t).length (bodyT t 0)) (goal :: thingsT t)) := by
  have hth : (thingsT t).length ≤ 40 := Nat.le_trans (things_len nn t hto) (cntB_le hnn)
  have he1 : isEx (tE ".=" [place, t]) (kS "dotcall") = false := beq_eq_false_iff_ne.mpr (by decide)
  have he2 : isEx (tE ".=" [place, t]) (kS ".=") = true := by simp [isEx]
  obtain ⟨a, n, t1, t2, b, vs, k, rfl, hm, hm2, hT⟩ := ex_inv htv
  cases hT with
  | @cons v0 _ _ _ hv0 hT =>
  cases hT with
  | @cons v1 _ _ _ hv1 hT =>
  cases hT
  obtain ⟨a1, rfl⟩ := tree_ref hv1
  refine Con.intro ?_
  intro dp un gd cn cs fa ccd cl outer A₀ base h₀ L m s mean mg mb Q E B F X N Tp hk hd hu fin
  simp only [List.cons_append, List.nil_append] at N
  refine wpAny_call ?_
  w_strict (
    k_dflt ktr_enter
    k_steps)

  refine' fin [] _ _ _ _ (by k_asm) (by k_asm) (List.forall_mem_nil _) ?Y (fun Y₁ hs => ⟨rfl, ToldIn.mono hs ?P⟩)
  case Y => tb_start
  case P =>
    refine' ⟨_, _, _, _, _, _, _, _ :: _, rfl, ?a, ?b, ?c, .cons ?g ?d⟩
    case a => lsm_bools
    case b => lsm_bools
    case c => (refine' TIn.mono ?s ?h; (case h => assumption); (case s => exact subT_of (by tb_start)))
    case g => (refine' TIn.mono ?s ?h; (case h => assumption); (case s => exact subT_of (by tb_start)))
    case d => (refine' TAll.mono ?s ?h; (case h => assumption); (case s => exact subT_of (by tb_start)))
end

section
-- Fault
section
variable {M : Model} {A : Around} {E : Value → Shared → Prop} {h : Heap} {g : Array GenState} {d : Drawn} {t : Nat} {os : OsState}
variable {nm q : Str} {C N : Addr} {bs bm bmB : List Value} {hdct : Bool} {sn : List Str} {sub : List Value} {ab : Bool} {col : Option Bool} {dd : Option Addr} {k0 k1 k2 k3 k5 : Option Value} {B newId initId : String}
/-- the check of an exception's __new__: the class stands above B through classes of the program's own -/
theorem fault_check (F : ExcBaseFacts B newId initId bmB) (hB : bm.contains (.type B) = true) {rest : List Value} {Q : Unit → Shared → Prop} (hC : h.get? C = some (excClassObj nm q C N bs bm hdct sn sub ab col dd k0 k1 k2 k3 k5 newId))
    (hq : Q () ⟨h, g, d, t, os⟩) : wpAny M A (checkBuiltinCall newId ⟨.ref C :: rest, []⟩) Q E ⟨h, g, d, t, os⟩ := by
  have hin : (Value.ref C :: bm).contains (.type B) = true := by rw [List.contains_cons, hB, Bool.or_true]
  have hst := F.noStar
  simp only [checkBuiltinCall, F.newKind, F.newSplit, F.newRow]
  repeat (first | refine wpAny_loadPart_at hC ?_ | (refine wpAny_isSubtype_exc hC ?_; rw [hin]) | refine wpAny_staticBase_exc hC ?_ | refine wpAny_madeBy_exc hC ?_ | simp only [bne_self_eq_false, Bool.false_eq_true, if_false] | wp_step)
  exact hq
end
section
variable {prog : Program} {w : World} {A : Around} {R : Result → Shared → Prop} {E : Value → Shared → Prop} {h : Heap} {g : Array GenState} {d : Drawn} {t : Nat} {os : OsState}
variable {nm q : Str} {C N : Addr} {bs bm bmB : List Value} {hdct : Bool} {sn : List Str} {sub : List Value} {ab : Bool} {col : Option Bool} {dd : Option Addr} {k0 k1 k2 k3 k5 : Option Value} {B newId initId : String}
abbrev bareExc (C t : Addr) : Obj := { cls := .ref C, data := .fields #[.ref t, .none, .none, .none, .bool false, .none] }
abbrev fresh2 (h : Heap) (C : Addr) (rest : List Value) : Heap := (h.push { cls := .type "tuple", data := .seq rest.toArray }).push (bareExc C h.objs.size)
theorem fault_new (F : ExcBaseFacts B newId initId bmB) (hB : bm.contains (.type B) = true) (hA : bm.contains (.type "AttributeError") = false) (hN : bm.contains (.type "NameError") = false) {rest : List Value} (hC : h.get? C = some (excClassObj nm q C N bs bm hdct sn sub ab col dd k0 k1 k2 k3 k5 newId))
    (hq : R (.ok (.ret (.ref (h.objs.size + 1)))) ⟨fresh2 h C rest, g, d, t, os⟩) (hrest : rest.length ≤ sizeLine) :
    codeAny (model prog w) A (.builtin newId ⟨.ref C :: rest, []⟩) R ⟨h, g, d, t, os⟩ := by
  have hends := F.ends
  have c1 : (Value.ref C :: bm).contains (.type B) = true := by rw [List.contains_cons, hB, Bool.or_true]
  have c2 : (Value.ref C :: bm).contains (.type "AttributeError") = false := by rw [List.contains_cons, hA]; rfl
  have c3 : (Value.ref C :: bm).contains (.type "NameError") = false := by rw [List.contains_cons, hN]; rfl
  refine codeAny_builtinAt F.entry ?_
  unfold Builtin.«BaseException.__new__»
  refine PySem.wpAt_bind ?_
  show PySem.wpAt _ _ _ (stack >>= _) _ _ _
  refine PySem.wpAt_bind (PySem.wpAt_stack fun p below => PySem.wpAt_of_wpAny ?_)
  wp_walk
  refine PySem.wpAt_of_wpAny ?_
  rw [F.owner]
  repeat (first | with_reducible refine wpAny_madeHere_exc F.canon hC ?_ | with_reducible refine wpAny_loadPart_at hC ?_ | (with_reducible refine wpAny_isSubtype_exc hC ?_; first | rw [c1] | rw [c2] | rw [c3]) | wp_step)
  show R _ _
  rw [Heap.size_push]
  exact hq
/-- a call of an own exception class whose base, an own class too, has the __init__ -/
theorem fault_type_call (F : ExcBaseFacts B newId initId bmB) {C2 fI : Addr} {tl : List Value} {cd : ClassData} {c0 : Value} {dd2 : Option Addr} {sl : Array (Option Value)} {mN m2 : Str → Option Value} {rest : List Value} {oI : Obj} {Q : Fin → Shared → Prop} (hbm : bm = .ref C2 :: tl)
    (hB : bm.contains (.type B) = true) (hA : bm.contains (.type "AttributeError") = false) (hN : bm.contains (.type "NameError") = false)
    (hC : h.get? C = some (excClassObj nm q C N bs bm hdct sn sub ab col dd k0 k1 k2 k3 k5 newId)) (hn : h.Ns N mN) (hni : mN "__init__" = none)
    (h2 : h.get? C2 = some { cls := c0, dict := dd2, data := .cls cd, slots := sl }) (hn2 : h.Ns cd.ns m2) (hi : m2 "__init__" = some (.ref fI)) (hfI : h.get? fI = some oI) (hfc : oI.cls = .type "function")
    (hq : wpAny (model prog w) A (call (.ref fI) (.ref (h.objs.size + 1) :: rest)) (fun r s' => r = .none ∧ Q (.done (.ret (.ref (h.objs.size + 1)))) s') E ⟨fresh2 h C rest, g, d, t, os⟩) (hrest : rest.length ≤ sizeLine) :
    wpAny (model prog w) A (Builtin.«type.__call__» ⟨.ref C :: rest, []⟩) Q E ⟨h, g, d, t, os⟩ := by
  repeat (first | with_reducible refine wpAny_loadPart_at hC ?_ | with_reducible refine wpAny_madeBy_exc hC ?_ | wp_step)
  refine codeAny_call_builtin_code (Code.quiet_builtin _ F.quiet) (fault_check F hB hC ?_)
  refine fault_new F hB hA hN hC ?_ hrest
  show wpAny _ _ _ _ _ _
  have up : ∀ b o, h.get? b = some o → (fresh2 h C rest).get? b = some o := fun b o e => Heap.get?_push_of_some _ (Heap.get?_push_of_some _ e)
  have hC₁ := up _ _ hC
  have hget : (fresh2 h C rest).get? (h.objs.size + 1) = some (bareExc C h.objs.size) := by
    unfold fresh2
    heap_get
  have hcC : (Value.ref C :: bm).contains (.ref C) = true := by simp
  unfold isInstance
  repeat (first | with_reducible refine wpAny_loadPart_at hget ?_ | (with_reducible refine wpAny_isSubtype_exc hC₁ ?_; rw [hcC]) | wp_step)
  show wpAny _ _ (typeLookup (.ref C) _) _ _ _
  rw [typeLookup_eq]
  refine wpAny_bind (wpAny_mroOf_exc hC₁ ?_)
  rw [lookupAlong_cons]
  refine wpAny_bind (wpAny_classOwn_exc hC₁ (hn.keeps up) ?_)
  rw [hni, hbm]
  dsimp only
  rw [lookupAlong_cons]
  refine wpAny_bind (wpAny_classOwn_cls (up _ _ h2) (hn2.keeps up) ?_)
  rw [hi]
  refine wpAny_pure ?_
  refine wpAny_holding (wpAny_bind ?_)
  unfold bindSpecial
  refine wpAny_bind (wpAny_typeOf (T := "function") ⟨_, up _ _ hfI, hfc⟩ ?_)
  rw [if_pos (by decide)]
  refine wpAny_pure (wpAny_bind (wpAny_mono hq (fun r s' hr => ?_) fun _ _ x => x))
  obtain ⟨rfl, hQ⟩ := hr
  wp_walk
  exact hQ
theorem fault_call (F : ExcBaseFacts B newId initId bmB) {C2 fI : Addr} {tl : List Value} {cd : ClassData} {c0 : Value} {dd2 : Option Addr} {sl : Array (Option Value)} {mN m2 : Str → Option Value} {rest : List Value} {oI : Obj} {Q : Value → Shared → Prop} (hbm : bm = .ref C2 :: tl)
    (hB : bm.contains (.type B) = true) (hA : bm.contains (.type "AttributeError") = false) (hN : bm.contains (.type "NameError") = false)
    (hC : h.get? C = some (excClassObj nm q C N bs bm hdct sn sub ab col dd k0 k1 k2 k3 k5 newId)) (hn : h.Ns N mN) (hni : mN "__init__" = none)
    (h2 : h.get? C2 = some { cls := c0, dict := dd2, data := .cls cd, slots := sl }) (hn2 : h.Ns cd.ns m2) (hi : m2 "__init__" = some (.ref fI)) (hfI : h.get? fI = some oI) (hfc : oI.cls = .type "function")
    (hq : wpAny (model prog w) (A.under (.builtin "type.__call__" ⟨.ref C :: rest, []⟩)) (call (.ref fI) (.ref (h.objs.size + 1) :: rest)) (fun r s' => r = .none ∧ Q (.ref (h.objs.size + 1)) s') E ⟨fresh2 h C rest, g, d, t, os⟩) (hrest : rest.length ≤ sizeLine) :
    wpAny (model prog w) A (call (.ref C) rest) Q E ⟨h, g, d, t, os⟩ := by
  have f1 := tc_lookup
  have f2 := tc_bind (.ref C)
  have hT : (⟨h, g, d, t, os⟩ : Shared).TypeIs (.ref C) "type" := ⟨_, hC, rfl⟩
  refine wpAny_call (codeAny_of_tree ?_)
  show wpAny _ _ (callAny (.ref C) _) _ _ _
  repeat (any_goals (first | assumption | with_reducible refine wpAny_loadPart_at hC ?_ | wp_step))
  refine ⟨rfl, ?_⟩
  exact codeAny_call_builtin_at (Code.quiet_builtin _ (by decide +kernel)) entry_typeCall (wpAny_check_type_call_sub hC (fault_type_call F hbm hB hA hN hC hn hni h2 hn2 hi hfI hfc hq hrest))
end
end

section
-- FaultK
theorem ns_some_of {K : Frag} {h : Heap} {N : Addr} {mg : Str → Option Value} {n : Str} {v : Value} (X : K.In h) (G : h.Ns N mg) (e : nsIn K N n = some (some v)) : mg n = some v := by
  obtain ⟨o, es, ep, ho, hd, _, hf⟩ := G
  unfold nsIn at e
  split at e
  · rename_i q
    have hh := X _ _ q
    rw [ho] at hh
    cases hh
    cases hd
    split at e
    · rename_i hx
      cases e
      rw [← hf]
      unfold nsFind findBy
      rw [← Array.find?_toList, hx]
      rfl
    · split at e <;> cases e
  · cases e
theorem nsMap_some_of {K : Frag} {h : Heap} {N : Addr} {n : Str} {v : Value} (X : K.In h) (ok : nsOkIn K N = true) (e : nsIn K N n = some (some v)) : h.nsMap N n = some v := ns_some_of X (.of_isNs (isNs_of_in X ok)) e
section
variable {prog : Program} {w : World} {A : Around} {E : Value → Shared → Prop} {s : Shared} {h₀ : Heap} {L : Addr} {m : Str → Option Value} {news : List (Addr × Obj)}
set_option maxHeartbeats 4000000 in
/-- LowerFault(..): the bare exception, then RowsError's __init__ -/
theorem call_fault {rest : List Value} {Q : Value → Shared → Prop} (X : (hd.heap_39 w.params).In h₀) (F : Fr h₀ L s.heap m) (N : News h₀ L s.heap news) (hrest : rest.length ≤ sizeLine)
    (h : ∀ e t h', Fr h₀ L h' m → News h₀ L h' ((e, bareExc 45 t) :: (t, tupObj rest 0) :: news) → (∀ p ∈ (t, tupObj rest 0) :: news, p.1 < e) → (∀ p ∈ news, p.1 < t) →
      wpAny (model prog w) (A.under (.builtin "type.__call__" ⟨.ref 45 :: rest, []⟩)) (call (.ref 29) (.ref e :: rest)) (fun r s' => r = .none ∧ Q (.ref e) s') E { s with heap := h' }) :
    wpAny (model prog w) A (call (.ref 45) rest) Q E s := by
  obtain ⟨hp, g, d, tk, os⟩ := s
  simp only at F N h ⊢
  have hC := F.keep _ _ (X 45 _ (by k_is))
  have h2 := F.keep _ _ (X 32 _ (by k_is))
  have h9 := F.keep _ _ (X 29 _ (by k_is))
  have k44 : nsOkIn (hd.heap_39 w.params) 44 = true := by first | k_is | kernel_rfl
  have k31 : nsOkIn (hd.heap_39 w.params) 31 = true := by first | k_is | kernel_rfl
  have n44 : h₀.Ns 44 (h₀.nsMap 44) := .of_isNs (isNs_of_in X k44)
  have n31 : h₀.Ns 31 (h₀.nsMap 31) := .of_isNs (isNs_of_in X k31)
  have f1 := F.push { cls := .type "tuple", data := .seq rest.toArray }
  have n1 := N.push F { cls := .type "tuple", data := .seq rest.toArray }
  have f2 := f1.push (bareExc 45 hp.objs.size)
  have n2 := n1.push f1 (bareExc 45 hp.objs.size)
  rw [Heap.size_push] at n2
  refine fault_call PySem.F.excBase_Exception (C2 := 32) (fI := 29) rfl (by decide) (by decide) (by decide) hC (n44.keeps F.keep) (nsMap_none_of_in X k44 (by k_is)) h2 (n31.keeps F.keep) (nsMap_some_of X k31 (by k_is)) h9 rfl ?_ hrest
  refine h (hp.objs.size + 1) hp.objs.size _ f2 n2 (fun p hp' => ?_) (fun p hp' => Heap.lt_size (N p hp').1)
  rcases List.mem_cons.mp hp' with rfl | hp'
  · exact Nat.lt_succ_self _
  · exact Nat.lt_succ_of_lt (Heap.lt_size (N p hp').1)
end
end

section
-- FaultR
theorem reset_FaultR : True := by
  w_top off
  trivial
local macro_rules | `(tactic| lsm_bools) => `(tactic| first | exact List.Mem.head _ | assumption | (refine' List.Mem.tail _ ?_; lsm_bools) | (refine' GrowT.mem ?g ?h; (case g => assumption); (case h => lsm_bools)) | fail "no entry")
local macro_rules | `(tactic| k_mem) => `(tactic| first | lsm_bools | fail "no entry")
local macro_rules | `(tactic| tb_start) => `(tactic| first
  | exact List.forall_mem_nil _
  | (refine' List.forall_mem_cons.mpr ⟨?a, ?b⟩; (case a => lsm_bools); (case b => tb_start))
  | (intro p hp; repeat (first | exact hp | refine List.mem_cons_of_mem _ ?_ | refine List.Mem.tail _ ?_ | refine GrowT.mem' (by assumption) ?_ | refine GrowT.mem (by assumption) ?_ | fail "no entry"))
  | fail "not within")
local macro_rules | `(tactic| k_all) => `(tactic| first
  | assumption
  | (refine' GrowT.off ?g ?o ?N ?s ?m ?c; (case g => assumption); (case o => k_all); (case N => k_asm); (case s => tb_start); (case m => lsm_bools); (case c => rfl))
  | (refine' offLt ?h ?s; (case h => assumption); (case s => tb_start))
  | fail "not apart")
local macro_rules | `(tactic| k_lt $h:ident) => `(tactic| (have hl9 := $h; replace $h := allLt_of $h; simp only [AllLt, and_true] at $h:ident))
local macro_rules | `(tactic| kqd_sub) => `(tactic| first
  | (refine' Cut.own ?m ?r; (case m => lsm_bools); (case r => kqd_sub))
  | (refine' Cut.oth ?o ?r; (case o => k_all); (case r => kqd_sub))
  | exact Cut.tail
  | fail "no cut")
local macro_rules | `(tactic| ktr_rel) => `(tactic| first
  | exact subT_nil
  | exact subT_of (fun _ hp => hp)
  | assumption
  | (refine' subT_skip ?a ?b; (case a => rfl); (case b => ktr_rel))
  | (refine' subT_cons ?a ?b; (case a => lsm_bools); (case b => ktr_rel))
  | (refine' subT_of ?h; (case h => tb_start))
  | (refine' subT_app ?a ?b; (case a => ktr_rel); (case b => ktr_rel))
  | fail "tuples not within")
local macro_rules | `(tactic| k_room) => `(tactic| ktr_room)
local macro_rules | `(tactic| k_units) => `(tactic| ktr_units)
local macro_rules | `(tactic| tb_rel) => `(tactic| first
  | exact TAll.nil
  | exact TIn.str _ _
  | exact TIn.int _ _
  | exact TIn.bytes _ _
  | assumption
  | (refine' TIn.mono ?s ?h; (case h => assumption); (case s => ktr_rel))
  | (refine' TAll.mono ?s ?h; (case h => assumption); (case s => ktr_rel))
  | (refine' TIn.tuple ?m ?r; (case m => lsm_bools); (case r => tb_rel))
  | (refine' TAll.cons ?h ?t; (case h => tb_rel); (case t => tb_rel))
  | fail "no tree")
local macro_rules | `(tactic| walk_at "compareOp In str ref") => `(tactic| (k_here; k_dflt (refine' in_tupL ?ht ?hi ?_; (case ht => (refine' tupK ?X ?l; (case X => k_in); (case l => k_is))); (case hi => exact rfl))))
local macro_rules | `(tactic| walk_at "compareOp Eq ref ref") => `(tactic| (k_here; k_dflt (first
  | (refine' eq_dat (r := false) ?H ?d1 ?d2 ?hc ?hd ?hu ?_; (case H => exact heldOf (by k_asm)); (case d1 => tb_rel); (case d2 => tb_rel); (case hc => with_unfolding_all rfl); (case hd => exact Nat.le_of_ble_eq_true rfl); (case hu => ktr_units))
  | (refine' eq_dat (r := true) ?H ?d1 ?d2 ?hc ?hd ?hu ?_; (case H => exact heldOf (by k_asm)); (case d1 => tb_rel); (case d2 => tb_rel); (case hc => with_unfolding_all rfl); (case hd => exact Nat.le_of_ble_eq_true rfl); (case hu => ktr_units)))))
local macro_rules | `(tactic| walk_at "compareOp NotEq ref ref") => `(tactic| (k_here; k_dflt (first
  | (refine' ne_dat (r := false) ?H ?d1 ?d2 ?hc ?hd ?hu ?_; (case H => exact heldOf (by k_asm)); (case d1 => tb_rel); (case d2 => tb_rel); (case hc => with_unfolding_all rfl); (case hd => exact Nat.le_of_ble_eq_true rfl); (case hu => ktr_units))
  | (refine' ne_dat (r := true) ?H ?d1 ?d2 ?hc ?hd ?hu ?_; (case H => exact heldOf (by k_asm)); (case d1 => tb_rel); (case d2 => tb_rel); (case hc => with_unfolding_all rfl); (case hd => exact Nat.le_of_ble_eq_true rfl); (case hu => ktr_units)))))
local macro_rules | `(tactic| walk_at "subscriptTail Name Constant ref int") => `(tactic| (k_here; k_dflt (refine' item_tupleT ?t ?a ?b ?c ?d ?_; (case t => exact News.isTup (by k_asm) (by k_mem)); (case a => decide); (case b => decide); (case c => rfl); (case d => rfl); k_whole)))
local macro_rules | `(tactic| walk_at "ite") => `(tactic| (k_closed; k_dflt (first | (refine' ite_pos ?c ?_; (case c => decide)) | (refine' ite_neg ?c ?_; (case c => decide)))))
/-- a LowerFault in hand, to be raised into E -/
def Faulty (E : Value → Shared → Prop) (v : Value) (s₁ : Shared) : Prop :=
  ∃ e od sl vs nm q N bs bm hdct sn sub ab col dd k0 k1 k2 k3 k5, v = .ref e ∧ s₁.heap.get? 45 = some (excClassObj nm q 45 N bs bm hdct sn sub ab col dd k0 k1 k2 k3 k5 "Exception.__new__") ∧ bm.contains (.type "BaseException") = true ∧
    s₁.heap.get? e = some { cls := .ref 45, dict := od, data := .fields vs, slots := sl } ∧ vs[1]? = some .none ∧ E (.ref e) s₁
section
variable {prog : Program} {w : World} {M : Model} {A : Around} {E : Value → Shared → Prop} {s : Shared} {env : Env} {h₀ : Heap} {L : Addr} {m : Str → Option Value} {news : List (Addr × Obj)}
theorem Raise_fault {x : PySem.Expr} {pos : Pos} {Q : Flow → Shared → Prop} (hh : A.handled = none) (h : wpAny M A (eval x env) (Faulty E) E s) : wpAny M A (exec (.Raise (some x) none pos) env) Q E s := by
  show wpAny M A (do standAt pos; raiseStmt env (some (do let v ← eval x env; standAt pos; pure v)) none) Q E s
  refine wpAny_bind (wpAny_standAt ?_)
  unfold raiseStmt
  dsimp only
  refine wpAny_bind (wpAny_bind (wpAny_mono h (fun v s₁ h₁ => wpAny_bind (wpAny_standAt (wpAny_pure ?_))) fun _ _ x => x))
  obtain ⟨e, od, sl, vs, nm, q, N, bs, bm, hdct, sn, sub, ab, col, dd, k0, k1, k2, k3, k5, rfl, hC, hb, he, h1, hE⟩ := h₁
  have hcB : (Value.ref 45 :: bm).contains (.type "BaseException") = true := by rw [List.contains_cons, hb, Bool.or_true]
  obtain ⟨hp, g, d, tk, os⟩ := s₁
  simp only at hC he hE ⊢
  repeat (first | with_reducible refine wpAny_loadPart_at he ?_ | with_reducible refine wpAny_loadPart_at hC ?_ | (with_reducible refine wpAny_isSubtype_exc hC ?_; rw [hcB]) | wp_step)
  rw [h1]
  refine wpAny_pure ?_
  rw [if_neg (by decide)]
  exact wpAny_pure (wpAny_raiseNew_none hh hE)
theorem faulty_of {e : Addr} {od : Option Addr} {sl : Array (Option Value)} {vs : Array Value} (X : (hd.heap_39 w.params).In h₀) (F : Fr h₀ L s.heap m) (N : News h₀ L s.heap news) (he : (e, { cls := .ref 45, dict := od, data := .fields vs, slots := sl }) ∈ news) (h1 : vs[1]? = some .none) (h : E (.ref e) s) : Faulty E (.ref e) s :=
  ⟨e, od, sl, vs, _, _, _, _, _, _, _, _, _, _, _, _, _, _, _, _, rfl, F.keep _ _ (X 45 _ (by k_is)), by decide, (N _ he).1, h1, h⟩
end
section
variable {M : Model} {A : Around} {E : Value → Shared → Prop} {s' : Shared} {base g g₂ h : Heap} {outer : List Env} {L a e t : Addr} {m : Str → Option Value} {env : Env} {Q : Unit → Shared → Prop} {news all : List (Addr × Obj)}
/-- what is to be known where an exception is caught -/
def KeepIs (_ : List (Addr × Obj)) : Prop := True
theorem hide_none {h : Heap} {as : List Addr} {b : Addr} (hb : b ∈ as) : (hideAll h as).get? b = none := hideAll_none _ hb
/-- the frame that raised a made exception object is left -/
theorem leave_fault {ob : Obj} {c : Value} {ws : Array Value} {vs : List Value} {n : Nat} (K : Below A base outer g) (F : Fr g L s'.heap m) (N : News g L s'.heap all) (_kp : KeepIs news) (he : (e, ob) ∈ all) (hc : ob.cls = c) (hd : ob.data = .fields ws) (h1 : ws[1]? = some .none) (h0 : ws[0]? = some (.ref t)) (ht : (t, tupObj vs n) ∈ all)
    (hs : ∀ p ∈ news, p ∈ all) (hn : ∀ p ∈ news, p.1 ≠ e) (hn2 : ∀ p ∈ news, p.1 ≠ t) (hQ : ∀ h', RaisedS base g outer e c t vs news h' → g.UpToSlots h' → Q () { s' with heap := h' }) (hf : env.frame = some L) (hk : env.scope.kind = .function) :
    wpAny M (A.deeper env) (leaving env (.ref e)) Q E s' := by
  have K' := pushX K F hf hk
  generalize hfs : (env :: outer).filterMap (·.frame) = fs
  have hin : ∀ en ∈ (env :: outer), ∀ b, en.frame = some b → b ∈ e :: t :: fs := fun en hm b hb => .tail _ (.tail _ (hfs ▸ List.mem_filterMap.mpr ⟨en, hm, hb⟩))
  have own : ∀ q ∈ all, q.1 ∉ fs := fun q hq hm => by
    rw [← hfs] at hm
    obtain ⟨en, hm, hg⟩ := List.mem_filterMap.mp hm
    rcases List.mem_cons.mp hm with rfl | hm
    · exact (N q hq).2.1 (Option.some.inj (hf.symm.trans hg)).symm
    · obtain ⟨o, ho, _⟩ := (K.frames.mem (List.mem_filterMap.mpr ⟨en, hm, hg⟩)).2
      rw [(N q hq).2.2] at ho; cases ho
  have off : ∀ b o, base.get? b = some o → b ∉ e :: t :: fs := fun b o q hm => by
    rcases List.mem_cons.mp hm with rfl | hm
    · have := fresh_of_stays K.stays (N _ he).2.2
      rw [q] at this; cases this
    · rcases List.mem_cons.mp hm with rfl | hm
      · have := fresh_of_stays K.stays (N _ ht).2.2
        rw [q] at this; cases this
      · rw [← hfs] at hm
        rw [(K'.frames.mem hm).1] at q; cases q
  have st : base.StaysIn (hideAll s'.heap (e :: t :: fs)) := fun b o q => hideAll_get _ (K'.stays b o q) (off b o q)
  have sg : ∀ b o, g.get? b = some o → b ∉ outer.filterMap (·.frame) → (hideAll s'.heap (e :: t :: fs)).get? b = some o := fun b o q nm => hideAll_get _ (F.keep b o q) fun hm => by
    rcases List.mem_cons.mp hm with rfl | hm
    · rw [(N _ he).2.2] at q; cases q
    · rcases List.mem_cons.mp hm with rfl | hm
      · rw [(N _ ht).2.2] at q; cases q
      · rw [← hfs] at hm
        obtain ⟨en, hm, hg⟩ := List.mem_filterMap.mp hm
        rcases List.mem_cons.mp hm with rfl | hm
        · obtain rfl := Option.some.inj (hf.symm.trans hg)
          rw [kts_self F] at q; cases q
        · exact nm (List.mem_filterMap.mpr ⟨en, hm, hg⟩)
  have hl : ∀ q ∈ news, (hideAll s'.heap (e :: t :: fs)).get? q.1 = some q.2 ∧ g.get? q.1 = none ∧ base.get? q.1 = none := fun q hq => by
    have hqa := hs q hq
    refine ⟨hideAll_get _ (N q hqa).1 fun hm => ?_, (N q hqa).2.2, fresh_of_stays K.stays (N q hqa).2.2⟩
    rcases List.mem_cons.mp hm with hm | hm
    · exact hn q hq hm
    · rcases List.mem_cons.mp hm with hm | hm
      · exact hn2 q hq hm
      · exact own q hqa hm
  refine wpAny_leaving_firstW (a0 := .ref t) K'.stack (funFrames_hide K'.frames hin) hf (N _ he).1 (fun b o q => of_hideAll _ q) (hide_none (.head _)) hd h1 h0 fun h' hL => ?_
  obtain ⟨k1, ⟨_, _, k2⟩, k3, k4⟩ := hL
  subst hc
  exact hQ h' ⟨⟨_, st, sg, hl, ⟨k1, hide_none (.head _), k2, k3⟩, hide_none (.tail _ (.head _))⟩, Heap.TupAt.of_slots ⟨_, _, (N _ ht).1, rfl, rfl⟩ k4⟩ ((Heap.UpToSlots.of_keeps F.keep).trans k4)
/-- a frame that an exception passes through is left -/
theorem leave_on {c : Value} {vs : List Value} (K : Below A base outer g) (F : Fr g L g₂ m) (R : RaisedS base g₂ (env :: outer) e c t vs news s'.heap) (hsm : g₂.UpToSlots s'.heap) (hQ : ∀ h', RaisedS base g outer e c t vs news h' → g.UpToSlots h' → Q () { s' with heap := h' }) (hf : env.frame = some L) :
    wpAny M (A.deeper env) (leaving env (.ref e)) Q E s' := by
  obtain ⟨⟨B, hB, hBG, hl, hfl, hnew⟩, htup⟩ := R
  refine wpAny_leaves_onW (Around.frames_deeper K.stack) hf hfl fun h' x1 x2 => hQ h' ⟨⟨B, hB, fun b o q nm => hBG b o (F.keep b o q) (fun hm => ?_), fun q hq => ⟨(hl q hq).1, kts_none F.keep (hl q hq).2.1, (hl q hq).2.2⟩, x1, hnew⟩, htup.of_slots x2⟩ ((Heap.UpToSlots.of_keeps F.keep).trans (hsm.trans x2))
  obtain ⟨en, hm, hg⟩ := List.mem_filterMap.mp hm
  rcases List.mem_cons.mp hm with rfl | hm
  · obtain rfl := Option.some.inj (hf.symm.trans hg)
    rw [kts_self F] at q; cases q
  · exact nm (List.mem_filterMap.mpr ⟨en, hm, hg⟩)
end
end

section
-- FaultC
/-- what _law_is_refused is to do with a tree: its caller is the law -/
def RefC (w : World) (t : T) : Prop := ∀ (v : Value) (Y : List (Addr × Obj)), TIn Y v t.dat → ∀ (dp un : Nat) (gd : Option (List Code)) (cn : Str) (cs : Scope) (a : Addr) (ccd : Value) (A₀ : Around) (h₀ : Heap) (L : Addr) (m : Str → Option Value) (s : Shared)
    (mean : ExcName → Option Value) (mg mb : Str → Option Value) (Q E : Value → Shared → Prop),
    Below A₀ h₀ [] h₀ → Fr h₀ L s.heap m → (hd.heap_39 w.params).In h₀ → News h₀ L s.heap Y → Top hd.view_39 (looseW hd.view_39 [Str.ofString "RowsError"]) mean mg mb h₀ → cs.kind = .function → dp + 120 < recursionLimit → un + 900 < cLine →
    (∀ h' tk', Fr h₀ L h' m → News h₀ L h' Y → Q (.bool true) { s with heap := h', toks := tk' }) →
    wpAny (model PySem.Challenge.rw_pq0689_01.row.prog w) (ktrTop dp un gd cn cs L a ccd [] []) (call (.ref 259) [v]) Q E s
section
variable {prog : Program} {w : World} {A : Around} {E : Value → Shared → Prop} {s : Shared}
theorem gt_yes {a b : Int} {t u : Tok} {Q : Value → Shared → Prop} (e : decide (b < a) = true) (h : Q (.bool true) s) : wpAny (model prog w) A (compareOp .Gt (.int a t) (.int b u)) Q E s :=
  PyProof.Rows.gt_int (by rw [e]; exact h)
end
end

section
-- FaultI
theorem reset_FaultI : True := by
  w_top off
  trivial
local macro_rules | `(tactic| lsm_bools) => `(tactic| first | exact List.Mem.head _ | assumption | (refine' List.Mem.tail _ ?_; lsm_bools) | (refine' GrowT.mem ?g ?h; (case g => assumption); (case h => lsm_bools)) | fail "no entry")
local macro_rules | `(tactic| k_mem) => `(tactic| first | lsm_bools | fail "no entry")
local macro_rules | `(tactic| tb_start) => `(tactic| first
  | exact List.forall_mem_nil _
  | (refine' List.forall_mem_cons.mpr ⟨?a, ?b⟩; (case a => lsm_bools); (case b => tb_start))
  | (intro p hp; repeat (first | exact hp | refine List.mem_cons_of_mem _ ?_ | refine List.Mem.tail _ ?_ | refine GrowT.mem' (by assumption) ?_ | refine GrowT.mem (by assumption) ?_ | fail "no entry"))
  | fail "not within")
local macro_rules | `(tactic| k_all) => `(tactic| first
  | assumption
  | (refine' GrowT.off ?g ?o ?N ?s ?m ?c; (case g => assumption); (case o => k_all); (case N => k_asm); (case s => tb_start); (case m => lsm_bools); (case c => rfl))
  | (refine' offLt ?h ?s; (case h => assumption); (case s => tb_start))
  | fail "not apart")
local macro_rules | `(tactic| k_lt $h:ident) => `(tactic| (have hl9 := $h; replace $h := allLt_of $h; simp only [AllLt, and_true] at $h:ident))
local macro_rules | `(tactic| kqd_sub) => `(tactic| first
  | (refine' Cut.own ?m ?r; (case m => lsm_bools); (case r => kqd_sub))
  | (refine' Cut.oth ?o ?r; (case o => k_all); (case r => kqd_sub))
  | exact Cut.tail
  | fail "no cut")
local macro_rules | `(tactic| ktr_rel) => `(tactic| first
  | exact subT_nil
  | exact subT_of (fun _ hp => hp)
  | assumption
  | (refine' subT_skip ?a ?b; (case a => rfl); (case b => ktr_rel))
  | (refine' subT_cons ?a ?b; (case a => lsm_bools); (case b => ktr_rel))
  | (refine' subT_of ?h; (case h => tb_start))
  | (refine' subT_app ?a ?b; (case a => ktr_rel); (case b => ktr_rel))
  | fail "tuples not within")
local macro_rules | `(tactic| k_room) => `(tactic| ktr_room)
local macro_rules | `(tactic| k_units) => `(tactic| ktr_units)
local macro_rules | `(tactic| tb_rel) => `(tactic| first
  | exact TAll.nil
  | exact TIn.str _ _
  | exact TIn.int _ _
  | exact TIn.bytes _ _
  | assumption
  | (refine' TIn.mono ?s ?h; (case h => assumption); (case s => ktr_rel))
  | (refine' TAll.mono ?s ?h; (case h => assumption); (case s => ktr_rel))
  | (refine' TIn.tuple ?m ?r; (case m => lsm_bools); (case r => tb_rel))
  | (refine' TAll.cons ?h ?t; (case h => tb_rel); (case t => tb_rel))
  | fail "no tree")
local macro_rules | `(tactic| walk_at "compareOp In str ref") => `(tactic| (k_here; k_dflt (refine' in_tupL ?ht ?hi ?_; (case ht => (refine' tupK ?X ?l; (case X => k_in); (case l => k_is))); (case hi => exact rfl))))
local macro_rules | `(tactic| walk_at "compareOp Eq ref ref") => `(tactic| (k_here; k_dflt (first
  | (refine' eq_dat (r := false) ?H ?d1 ?d2 ?hc ?hd ?hu ?_; (case H => exact heldOf (by k_asm)); (case d1 => tb_rel); (case d2 => tb_rel); (case hc => with_unfolding_all rfl); (case hd => exact Nat.le_of_ble_eq_true rfl); (case hu => ktr_units))
  | (refine' eq_dat (r := true) ?H ?d1 ?d2 ?hc ?hd ?hu ?_; (case H => exact heldOf (by k_asm)); (case d1 => tb_rel); (case d2 => tb_rel); (case hc => with_unfolding_all rfl); (case hd => exact Nat.le_of_ble_eq_true rfl); (case hu => ktr_units)))))
local macro_rules | `(tactic| walk_at "compareOp NotEq ref ref") => `(tactic| (k_here; k_dflt (first
  | (refine' ne_dat (r := false) ?H ?d1 ?d2 ?hc ?hd ?hu ?_; (case H => exact heldOf (by k_asm)); (case d1 => tb_rel); (case d2 => tb_rel); (case hc => with_unfolding_all rfl); (case hd => exact Nat.le_of_ble_eq_true rfl); (case hu => ktr_units))
  | (refine' ne_dat (r := true) ?H ?d1 ?d2 ?hc ?hd ?hu ?_; (case H => exact heldOf (by k_asm)); (case d1 => tb_rel); (case d2 => tb_rel); (case hc => with_unfolding_all rfl); (case hd => exact Nat.le_of_ble_eq_true rfl); (case hu => ktr_units)))))
local macro_rules | `(tactic| walk_at "subscriptTail Name Constant ref int") => `(tactic| (k_here; k_dflt (refine' item_tupleT ?t ?a ?b ?c ?d ?_; (case t => exact News.isTup (by k_asm) (by k_mem)); (case a => decide); (case b => decide); (case c => rfl); (case d => rfl); k_whole)))
local macro_rules | `(tactic| walk_at "ite") => `(tactic| (k_closed; k_dflt (first | (refine' ite_pos ?c ?_; (case c => decide)) | (refine' ite_neg ?c ?_; (case c => decide)))))
section
variable {prog : Program} {w : World} {A : Around} {E : Value → Shared → Prop} {s : Shared} {h₀ : Heap} {L : Addr} {m : Str → Option Value} {news : List (Addr × Obj)}
/-- the check of an exception's __init__ -/
theorem fault_check_init {h : Heap} {g : Array GenState} {d : Drawn} {t : Nat} {os : OsState} {nm q : Str} {C N : Addr} {bs bm bmB : List Value} {hdct : Bool} {sn : List Str} {sub : List Value} {ab : Bool} {col : Option Bool} {dd : Option Addr} {k0 k1 k2 k3 k5 : Option Value} {B newId initId : String}
    (F : ExcBaseFacts B newId initId bmB) (hB : bm.contains (.type B) = true) {M : Model} {e : Addr} {oe : Obj} {rest : List Value} {Q : Unit → Shared → Prop}
    (hC : h.get? C = some (excClassObj nm q C N bs bm hdct sn sub ab col dd k0 k1 k2 k3 k5 newId)) (he : h.get? e = some oe) (hcls : oe.cls = .ref C) (hq : Q () ⟨h, g, d, t, os⟩) :
    wpAny M A (checkBuiltinCall initId ⟨.ref e :: rest, []⟩) Q E ⟨h, g, d, t, os⟩ := by
  have hin : (Value.ref C :: bm).contains (.type B) = true := by rw [List.contains_cons, hB, Bool.or_true]
  have hsh := F.noStar
  simp only [checkBuiltinCall, F.initKind, F.initSplit, F.initRow]
  repeat (first | (with_reducible refine wpAny_loadPart_at he ?_; rw [hcls]) | with_reducible refine wpAny_loadPart_at hC ?_ | (with_reducible refine wpAny_isSubtype_exc hC ?_; rw [hin]) | wp_step)
  refine wpAny_onRaise ?_
  rw [show ∀ (a b : String) (n : Nat), Bind.check ⟨.positional, "*", B, .self, [⟨"args", .varPos, false⟩]⟩ a b n (List.map (fun x => x.fst) ({ pos := Value.ref e :: rest } : Args).kw) = pure () from
    fun a b n => check_star_args _ _ _ _ _ _]
  exact wpAny_pure hq
set_option maxHeartbeats 4000000 in
/-- Exception.__init__(self, ..) of a fresh LowerFault -/
theorem exc_init {e t : Addr} {rest : List Value} {Q : Value → Shared → Prop} (F : Fr h₀ L s.heap m) (N : News h₀ L s.heap ((e, bareExc 45 t) :: news)) (X : (hd.heap_39 w.params).In h₀) (off : ∀ p ∈ news, p.1 ≠ e) (hrest : rest.length ≤ sizeLine)
    (h : ∀ t' h', Fr h₀ L h' m → News h₀ L h' ((t', tupObj rest 0) :: (e, bareExc 45 t') :: news) → (∀ p ∈ (e, bareExc 45 t') :: news, p.1 < t') → Q .none { s with heap := h' }) :
    wpAny (model prog w) A (call (.builtin "Exception.__init__") (.ref e :: rest)) Q E s := by
  obtain ⟨hp, g, d, tk, os⟩ := s
  simp only at F N h ⊢
  have hC := F.keep _ _ (X 45 _ (by k_is))
  have he := (N _ (.head _)).1
  refine wpAny_call (codeAny_call_builtin PySem.F.excBase_Exception.init.plain PySem.F.excBase_Exception.initEntry (fault_check_init PySem.F.excBase_Exception (by decide) hC he rfl ?_))
  wp_walk
  dsimp only
  have elt : @LT.lt Nat _ e hp.objs.size := Heap.lt_size he
  have F1 := F.push { cls := .type "tuple", data := .seq rest.toArray }
  have he' := (N _ (.head _)).2
  have up := Heap.get?_push_of_some { cls := .type "tuple", data := .seq rest.toArray } he
  refine h hp.objs.size _ (F1.change (Heap.SameBut.update ..) he'.1 he'.2) (fun p hp' => ?_) (fun p hp' => ?_)
  · rcases List.mem_cons.mp hp' with rfl | hp'
    · refine ⟨?_, Nat.ne_of_gt F.ns.lt, Heap.get?_none_of_le (Nat.le_trans F.above (Nat.le_of_lt F.ns.lt))⟩
      exact (Heap.get?_update_other _ _ (Nat.ne_of_lt elt)).trans (Heap.get?_push_size _ rfl)
    · rcases List.mem_cons.mp hp' with rfl | hp'
      · exact ⟨Heap.get?_update_self _ up rfl, he'⟩
      · have q := N p (.tail _ hp')
        exact ⟨(Heap.get?_update_other _ _ (off p hp').symm).trans (Heap.get?_push_of_some _ q.1), q.2⟩
  · rcases List.mem_cons.mp hp' with rfl | hp'
    · exact elt
    · exact Heap.lt_size (N p (.tail _ hp')).1
end
end

section
-- FaultS
theorem reset_FaultS : True := by
  w_top off
  trivial
local macro_rules | `(tactic| lsm_bools) => `(tactic| first | exact List.Mem.head _ | assumption | (refine' List.Mem.tail _ ?_; lsm_bools) | (refine' GrowT.mem ?g ?h; (case g => assumption); (case h => lsm_bools)) | fail "no entry")
local macro_rules | `(tactic| k_mem) => `(tactic| first | lsm_bools | fail "no entry")
local macro_rules | `(tactic| tb_start) => `(tactic| first
  | exact List.forall_mem_nil _
  | (refine' List.forall_mem_cons.mpr ⟨?a, ?b⟩; (case a => lsm_bools); (case b => tb_start))
  | (intro p hp; repeat (first | exact hp | refine List.mem_cons_of_mem _ ?_ | refine List.Mem.tail _ ?_ | refine GrowT.mem' (by assumption) ?_ | refine GrowT.mem (by assumption) ?_ | fail "no entry"))
  | fail "not within")
local macro_rules | `(tactic| k_all) => `(tactic| first
  | assumption
  | (refine' GrowT.off ?g ?o ?N ?s ?m ?c; (case g => assumption); (case o => k_all); (case N => k_asm); (case s => tb_start); (case m => lsm_bools); (case c => rfl))
  | (refine' offLt ?h ?s; (case h => assumption); (case s => tb_start))
  | fail "not apart")
local macro_rules | `(tactic| k_lt $h:ident) => `(tactic| (have hl9 := $h; replace $h := allLt_of $h; simp only [AllLt, and_true] at $h:ident))
local macro_rules | `(tactic| kqd_sub) => `(tactic| first
  | (refine' Cut.own ?m ?r; (case m => lsm_bools); (case r => kqd_sub))
  | (refine' Cut.oth ?o ?r; (case o => k_all); (case r => kqd_sub))
  | exact Cut.tail
  | fail "no cut")
local macro_rules | `(tactic| ktr_rel) => `(tactic| first
  | exact subT_nil
  | exact subT_of (fun _ hp => hp)
  | assumption
  | (refine' subT_skip ?a ?b; (case a => rfl); (case b => ktr_rel))
  | (refine' subT_cons ?a ?b; (case a => lsm_bools); (case b => ktr_rel))
  | (refine' subT_of ?h; (case h => tb_start))
  | (refine' subT_app ?a ?b; (case a => ktr_rel); (case b => ktr_rel))
  | fail "tuples not within")
local macro_rules | `(tactic| k_room) => `(tactic| ktr_room)
local macro_rules | `(tactic| k_units) => `(tactic| ktr_units)
local macro_rules | `(tactic| tb_rel) => `(tactic| first
  | exact TAll.nil
  | exact TIn.str _ _
  | exact TIn.int _ _
  | exact TIn.bytes _ _
  | assumption
  | (refine' TIn.mono ?s ?h; (case h => assumption); (case s => ktr_rel))
  | (refine' TAll.mono ?s ?h; (case h => assumption); (case s => ktr_rel))
  | (refine' TIn.tuple ?m ?r; (case m => lsm_bools); (case r => tb_rel))
  | (refine' TAll.cons ?h ?t; (case h => tb_rel); (case t => tb_rel))
  | fail "no tree")
local macro_rules | `(tactic| walk_at "compareOp In str ref") => `(tactic| (k_here; k_dflt (refine' in_tupL ?ht ?hi ?_; (case ht => (refine' tupK ?X ?l; (case X => k_in); (case l => k_is))); (case hi => exact rfl))))
local macro_rules | `(tactic| walk_at "compareOp Eq ref ref") => `(tactic| (k_here; k_dflt (first
  | (refine' eq_dat (r := false) ?H ?d1 ?d2 ?hc ?hd ?hu ?_; (case H => exact heldOf (by k_asm)); (case d1 => tb_rel); (case d2 => tb_rel); (case hc => with_unfolding_all rfl); (case hd => exact Nat.le_of_ble_eq_true rfl); (case hu => ktr_units))
  | (refine' eq_dat (r := true) ?H ?d1 ?d2 ?hc ?hd ?hu ?_; (case H => exact heldOf (by k_asm)); (case d1 => tb_rel); (case d2 => tb_rel); (case hc => with_unfolding_all rfl); (case hd => exact Nat.le_of_ble_eq_true rfl); (case hu => ktr_units)))))
local macro_rules | `(tactic| walk_at "compareOp NotEq ref ref") => `(tactic| (k_here; k_dflt (first
  | (refine' ne_dat (r := false) ?H ?d1 ?d2 ?hc ?hd ?hu ?_; (case H => exact heldOf (by k_asm)); (case d1 => tb_rel); (case d2 => tb_rel); (case hc => with_unfolding_all rfl); (case hd => exact Nat.le_of_ble_eq_true rfl); (case hu => ktr_units))
  | (refine' ne_dat (r := true) ?H ?d1 ?d2 ?hc ?hd ?hu ?_; (case H => exact heldOf (by k_asm)); (case d1 => tb_rel); (case d2 => tb_rel); (case hc => with_unfolding_all rfl); (case hd => exact Nat.le_of_ble_eq_true rfl); (case hu => ktr_units)))))
local macro_rules | `(tactic| walk_at "subscriptTail Name Constant ref int") => `(tactic| (k_here; k_dflt (refine' item_tupleT ?t ?a ?b ?c ?d ?_; (case t => exact News.isTup (by k_asm) (by k_mem)); (case a => decide); (case b => decide); (case c => rfl); (case d => rfl); k_whole)))
local macro_rules | `(tactic| walk_at "ite") => `(tactic| (k_closed; k_dflt (first | (refine' ite_pos ?c ?_; (case c => decide)) | (refine' ite_neg ?c ?_; (case c => decide)))))
abbrev dictExc (C t d : Addr) : Obj := { cls := .ref C, dict := some d, data := .fields #[.ref t, .none, .none, .none, .bool false, .none] }
section
open PySem.Builtin PySem.Builtin.ObjectAttr
variable {prog : Program} {w : World} {A : Around} {E : Value → Shared → Prop} {s : Shared} {h₀ : Heap} {L : Addr} {m : Str → Option Value} {post : List (Addr × Obj)} {tp : Obj}
theorem store_in {d : Addr} {od od' : Obj} {name : Str} {tk : Tok} {v : Value} {es : List DictEntry} {n : Nat} {Q : Fin → Shared → Prop} (F : Fr h₀ L s.heap m) (N : News h₀ L s.heap ((d, od) :: post)) (off : ∀ p ∈ post, p.1 ≠ d)
    (hl : (lookIn name od).isSome = true) (e : Obj.putName name (PyData.keyHash w.params name) (.str name s.toks) v od = od') (e' : od'.data = .dict es.toArray n) (hz : es.length ≤ 1000)
    (h : ∀ h', Fr h₀ L h' m → News h₀ L h' ((d, od') :: post) → Q (.done (.ret .none)) { s with heap := h', toks := s.toks + 1 }) :
    wpAny (model prog w) A (storeInDict d (.str name tk) name v) Q E s := by
  obtain ⟨U1, U2⟩ := news_upd (pre := []) (f := Obj.putName name (PyData.keyHash w.params name) (.str name s.toks) v) F N (fun _ q => nomatch q) off e (by obtain ⟨_, _, dd, _⟩ := od'; cases e'; rfl)
  have D := (N (d, od) (.head _)).1
  have D' := (U2 (d, od') (.head _)).1
  unfold storeInDict newKeyGuard
  refine wpAny_bind (wpAny_pure (wpAny_bind ?_))
  unfold nsSet
  refine wpAny_bind (wpAny_bind (wpAny_askSetting (wpAny_pure (wpAny_bind (wpAny_mkText (wpAny_bind (wpAny_loadPart D ?_)))))))
  unfold lookIn at hl
  split at hl
  · rename_i es₀ n₀ q
    rw [q]
    dsimp only
    have c : (!es₀.any (·.key.isStr name) && es₀.any (·.refKey)) = false := by
      rw [← Array.any_toList, ← Array.any_toList]
      split at hl
      · rename_i en he
        rw [List.any_eq_true.mpr ⟨en, List.mem_of_find?_eq_some he, List.find?_some he⟩]; rfl
      · split at hl
        · cases hl
        · rename_i z; rw [Bool.not_eq_true] at z; rw [z, Bool.and_false]
    rw [aRefKeyMayBeTheName_at, c]
    refine wpAny_updatePart D ?_
    refine wpAny_bind (wpAny_lookBehind D' (by rw [e']; exact pastItsLine_dict (by rw [List.size_toArray, sizeLine_eq]; omega)) ?_)
    exact wpAny_pure (h _ U1 U2)
  · cases hl
theorem fault_code {x : Addr} {ox : Obj} {od : Option Obj} {name : Str} {tk : Tok} {v : Value} {R : Result → Shared → Prop} (X : (hd.heap_39 w.params).In s.heap) (I : InstAt s.heap x ox 45 od) (ha : findIn (hd.heap_39 w.params) (.ref 45) name = some none)
    (h : wpAny (model prog w) (A.in1) (storeInOwnDict (.ref x) (.ref 45) (.str name tk) name v false) (fun fin s' => fin = .done (.ret .none) ∧ R (.ok (.ret .none)) s') (fun e s' => R (.error e) s') s) :
    codeAny (model prog w) A (.call (.builtin "object.__setattr__") ⟨[.ref x, .str name tk, v], []⟩) R s := by
  have SF := PySem.F.store_object
  have SE := PySem.F.store_Exception
  have hc : clsIn (hd.heap_39 w.params) 45 = some { name := Str.ofString "LowerFault", bases := [.ref 32], mro := [.ref 45, .ref 32, .type "Exception", .type "BaseException", .type "object"], ns := 44, qualname := Str.ofString "LowerFault" } := by k_is
  have hm : Looks (model prog w) s.heap (mroOf (.ref 45)) _ := (looks_clsIn X hc).andThen .now
  have sub : Looks (model prog w) s.heap (isInstance (.ref x) (.type "object")) true := I.type.andThen (looks_mroIn X (by unfold mroIn; rw [hc]; rfl))
  have L3 : Looks (model prog w) s.heap (storeTaker? none) none := .now
  refine codeAny_call_builtin SF.slot.plain SF.entry (@check_slot (model prog w) _ _ s "object.__setattr__" "object" "__setattr__" (.ref x) [.str name tk, v] [] _ SF.kind SF.split sub (SF.args (.ref x) (.str name tk) v) ?_)
  rw [osa_eq, refuse_eq]
  refine wpAny_bind (wpAny_bind (I.type.here (wpAny_bind (hm.here ?_))))
  rw [refuseLoop_ref, refuseLoop_ref, SE.passes]
  refine wpAny_pure (wpAny_bind (I.type.here (wpAny_bind ((looks_findIn X ha).here (wpAny_bind (L3.here ?_))))))
  refine wpAny_mono h ?_ fun _ _ e => e
  rintro fin s' ⟨rfl, q⟩
  exact q
theorem fault_store {x : Addr} {ox : Obj} {od : Option Obj} {name : Str} {v : Value} {Q : Unit → Shared → Prop} (X : (hd.heap_39 w.params).In s.heap) (I : InstAt s.heap x ox 45 od) (ha : findIn (hd.heap_39 w.params) (.ref 45) name = some none)
    (h : wpAny (model prog w) (A.in1) (storeInOwnDict (.ref x) (.ref 45) (.str name s.toks) name v false) (fun fin s' => fin = .done (.ret .none) ∧ Q () s') E { s with toks := s.toks + 1 }) :
    wpAny (model prog w) A (setAttr (.ref x) name v) Q E s :=
  set_plain X I (by k_is) (fault_code (s := { s with toks := s.toks + 1 }) X I ha h)
theorem has_dict45 (X : (hd.heap_39 w.params).In s.heap) : ∃ cd, Looks (model prog w) s.heap (classData 45) cd ∧ cd.hasDict = true :=
  ⟨_, looks_clsIn X (show clsIn (hd.heap_39 w.params) 45 = some { name := Str.ofString "LowerFault", bases := [.ref 32], mro := [.ref 45, .ref 32, .type "Exception", .type "BaseException", .type "object"], ns := 44, qualname := Str.ofString "LowerFault" } by k_is), rfl⟩
/-- self.x = v, where self has a dict already -/
theorem set_next {e t d : Addr} {od od' : Obj} {name : Str} {v : Value} {es : List DictEntry} {n : Nat} {Q : Unit → Shared → Prop} (F : Fr h₀ L s.heap m) (N : News h₀ L s.heap ((d, od) :: (e, dictExc 45 t d) :: post)) (X₀ : (hd.heap_39 w.params).In h₀) (ha : findIn (hd.heap_39 w.params) (.ref 45) name = some none)
    (off : ∀ p ∈ (e, dictExc 45 t d) :: post, p.1 ≠ d) (hl : (lookIn name od).isSome = true) (q : Obj.putName name (PyData.keyHash w.params name) (.str name (s.toks + 1)) v od = od') (q' : od'.data = .dict es.toArray n) (hz : es.length ≤ 1000)
    (h : ∀ h', Fr h₀ L h' m → News h₀ L h' ((d, od') :: (e, dictExc 45 t d) :: post) → Q () { s with heap := h', toks := s.toks + 2 }) :
    wpAny (model prog w) A (setAttr (.ref e) name v) Q E s := by
  have X := X₀.keeps F.keep
  have he := (N _ (.tail _ (.head _))).1
  have hd := (N _ (.head _)).1
  obtain ⟨cd, hcd, hdct⟩ := has_dict45 (prog := prog) (s := s) X
  refine fault_store (od := some od) X ⟨he, rfl, rfl, hd⟩ ha ?_
  unfold storeInOwnDict
  refine wpAny_bind (wpAny_pure ?_)
  rw [if_neg (by decide)]
  refine wpAny_bind ?_
  show wpAny _ _ (instanceDict e true) _ _ _
  unfold instanceDict
  refine wpAny_bind (wpAny_loadPart he ?_)
  dsimp only
  refine wpAny_bind (hcd.here (s := { s with toks := s.toks + 1 }) ?_)
  rw [hdct]
  rw [if_neg (by decide)]
  refine wpAny_pure ?_
  exact store_in (s := { s with toks := s.toks + 1 }) F N off hl q q' hz fun h' F' N' => ⟨rfl, h h' F' N'⟩
/-- self.x = v, the first of them: the dict is made -/
theorem set_first {e t : Addr} {od' : Obj} {name : Str} {v : Value} {es : List DictEntry} {n : Nat} {Q : Unit → Shared → Prop} (F : Fr h₀ L s.heap m) (N : News h₀ L s.heap ((t, tp) :: (e, bareExc 45 t) :: post)) (X₀ : (hd.heap_39 w.params).In h₀) (ha : findIn (hd.heap_39 w.params) (.ref 45) name = some none)
    (off : ∀ p ∈ post, p.1 ≠ e) (ot : @Ne Nat t e) (q : Obj.putName name (PyData.keyHash w.params name) (.str name (s.toks + 1)) v { cls := .type "dict", data := .dict #[] } = od') (q' : od'.data = .dict es.toArray n) (hz : es.length ≤ 1000)
    (h : ∀ d h', Fr h₀ L h' m → News h₀ L h' ((d, od') :: (e, dictExc 45 t d) :: (t, tp) :: post) → (∀ p ∈ (e, dictExc 45 t d) :: (t, tp) :: post, p.1 < d) → Q () { s with heap := h', toks := s.toks + 2 }) :
    wpAny (model prog w) A (setAttr (.ref e) name v) Q E s := by
  have X := X₀.keeps F.keep
  have he := (N _ (.tail _ (.head _))).1
  obtain ⟨cd, hcd, hdct⟩ := has_dict45 (prog := prog) (s := s) X
  refine fault_store (od := none) X ⟨he, rfl, rfl, trivial⟩ ha ?_
  unfold storeInOwnDict
  refine wpAny_bind (wpAny_pure ?_)
  rw [if_neg (by decide)]
  refine wpAny_bind ?_
  show wpAny _ _ (instanceDict e true) _ _ _
  unfold instanceDict
  refine wpAny_bind (wpAny_loadPart he ?_)
  dsimp only
  refine wpAny_bind (hcd.here (s := { s with toks := s.toks + 1 }) ?_)
  rw [hdct]
  rw [if_neg (by decide)]
  rw [if_neg (by decide)]
  refine wpAny_bind (wpAny_alloc' ?_)
  refine wpAny_bind (wpAny_update' (Heap.get?_push_of_some _ he) ?_)
  refine wpAny_pure ?_
  have elt : @LT.lt Nat _ e s.heap.objs.size := Heap.lt_size he
  have F1 := F.push { cls := .type "dict", data := .dict #[] }
  have pe := (N _ (.tail _ (.head _))).2
  have old : ∀ p ∈ (t, tp) :: post, p.1 ≠ e := fun p hp => by
    rcases List.mem_cons.mp hp with rfl | hp
    · exact ot
    · exact off p hp
  have mem : ∀ p ∈ (t, tp) :: post, p ∈ (t, tp) :: (e, bareExc 45 t) :: post := fun p hp => by
    rcases List.mem_cons.mp hp with rfl | hp
    · exact .head _
    · exact .tail _ (.tail _ hp)
  refine store_in (post := (e, dictExc 45 t s.heap.objs.size) :: (t, tp) :: post) (F1.change (Heap.SameBut.update ..) pe.1 pe.2) (fun p hp => ?_) (fun p hp => ?_) rfl q q' hz fun h' F' N' => ⟨rfl, h _ h' F' N' fun p hp => ?_⟩
  · rcases List.mem_cons.mp hp with rfl | hp
    · refine ⟨?_, Nat.ne_of_gt F.ns.lt, Heap.get?_none_of_le (Nat.le_trans F.above (Nat.le_of_lt F.ns.lt))⟩
      exact (Heap.get?_update_other _ _ (Nat.ne_of_lt elt)).trans (Heap.get?_push_size _ rfl)
    · rcases List.mem_cons.mp hp with rfl | hp
      · exact ⟨Heap.get?_update_self _ (Heap.get?_push_of_some _ he) rfl, pe⟩
      · have z := N p (mem p hp)
        exact ⟨(Heap.get?_update_other _ _ (old p hp).symm).trans (Heap.get?_push_of_some _ z.1), z.2⟩
  · rcases List.mem_cons.mp hp with rfl | hp
    · exact Nat.ne_of_lt elt
    · exact Nat.ne_of_lt (Heap.lt_size (N p (mem p hp)).1)
  · rcases List.mem_cons.mp hp with rfl | hp
    · exact elt
    · exact Heap.lt_size (N p (mem p hp)).1
theorem put_empty (name : Str) (k : Int) (key v : Value) : Obj.putName name k key v { cls := .type "dict", data := .dict #[] } = dictOf [⟨k, key, v⟩] 1 := rfl
theorem set_first' {e t : Addr} {name : Str} {v : Value} {Q : Unit → Shared → Prop} (F : Fr h₀ L s.heap m) (N : News h₀ L s.heap ((t, tp) :: (e, bareExc 45 t) :: post)) (X₀ : (hd.heap_39 w.params).In h₀) (ha : findIn (hd.heap_39 w.params) (.ref 45) name = some none)
    (off : ∀ p ∈ post, p.1 ≠ e) (ot : @Ne Nat t e)
    (h : ∀ d h', Fr h₀ L h' m → News h₀ L h' ((d, dictOf [⟨PyData.keyHash w.params name, .str name (s.toks + 1), v⟩] 1) :: (e, dictExc 45 t d) :: (t, tp) :: post) → (∀ p ∈ (e, dictExc 45 t d) :: (t, tp) :: post, p.1 < d) → Q () { s with heap := h', toks := s.toks + 2 }) :
    wpAny (model prog w) A (setAttr (.ref e) name v) Q E s :=
  set_first F N X₀ ha off ot (put_empty ..) rfl (Nat.le_of_ble_eq_true rfl) h
theorem put_spot {k k1 : Int} {t1 : Tok} {key v v1 : Value} : Obj.putName (Str.ofString "spot") k key v (dictOf [⟨k1, .str (Str.ofString "message") t1, v1⟩] 1) = dictOf [⟨k1, .str (Str.ofString "message") t1, v1⟩, ⟨k, key, v⟩] 2 := by kernel_rfl
theorem look_spot {k1 : Int} {t1 : Tok} {v1 : Value} : (lookIn (Str.ofString "spot") (dictOf [⟨k1, .str (Str.ofString "message") t1, v1⟩] 1)).isSome = true := by kernel_rfl
theorem set_next' {e t d : Addr} {k1 : Int} {t1 : Tok} {v1 v : Value} {Q : Unit → Shared → Prop} (F : Fr h₀ L s.heap m) (N : News h₀ L s.heap ((d, dictOf [⟨k1, .str (Str.ofString "message") t1, v1⟩] 1) :: (e, dictExc 45 t d) :: post)) (X₀ : (hd.heap_39 w.params).In h₀)
    (off : ∀ p ∈ (e, dictExc 45 t d) :: post, p.1 ≠ d)
    (h : ∀ h', Fr h₀ L h' m → News h₀ L h' ((d, dictOf [⟨k1, .str (Str.ofString "message") t1, v1⟩, ⟨PyData.keyHash w.params (Str.ofString "spot"), .str (Str.ofString "spot") (s.toks + 1), v⟩] 2) :: (e, dictExc 45 t d) :: post) → Q () { s with heap := h', toks := s.toks + 2 }) :
    wpAny (model prog w) A (setAttr (.ref e) (Str.ofString "spot") v) Q E s :=
  set_next F N X₀ (by k_is) off look_spot put_spot rfl (Nat.le_of_ble_eq_true rfl) h
end
end

section
-- FaultX
open LCg
/-- an exception on its way, its entry marked in whatever way -/
def RaisedX (base G : Heap) (l : List Env) (e : Addr) (cls : Value) (t : Addr) (vs : List Value) (news : List (Addr × Obj)) (h : Heap) : Prop :=
  (∃ B fl, base.StaysIn B ∧ (∀ b o, G.get? b = some o → b ∉ l.filterMap (·.frame) → B.get? b = some o) ∧ (∀ q ∈ news, B.get? q.1 = some q.2 ∧ G.get? q.1 = none ∧ base.get? q.1 = none) ∧
    (B.StaysIn h ∧ B.get? e = none ∧ h.FunFrames B l ∧ h.TracedAtW B e cls (.ref t) fl) ∧ B.get? t = none) ∧ h.TupAt t vs
theorem note_same {x : Value} {en en' : Env} (h : en'.frame = en.frame) : noteFrame x en' = noteFrame x en := by
  unfold noteFrame PySem.frameOf
  rw [h]
theorem frames_but {B h h' : Heap} {C : Addr} (hC : ∀ b o, B.get? b = some o → b = C → True) (hb : B.get? C ≠ none) (k : ∀ b o, b ≠ C → h.get? b = some o → (∀ vs, o.data ≠ .fields vs) → h'.get? b = some o) : ∀ {l : List Env}, h.FunFrames B l → h'.FunFrames (hideAll B [C]) l
  | [], _ => trivial
  | _ :: _, ⟨hk, ⟨L, o, hf, hn, ho, hd⟩, hr⟩ => by
    have hne : L ≠ C := fun q => hb (q ▸ hn)
    refine ⟨hk, ⟨L, o, hf, ?_, k L o hne ho hd, hd⟩, frames_but hC hb k hr⟩
    cases q : (hideAll B [C]).get? L with
    | none => rfl
    | some o' => rw [of_hideAll _ q] at hn; cases hn
section
variable {M : Model} {A : Around} {E : Value → Shared → Prop} {s' : Shared} {base g g₂ : Heap} {outer : List Env} {L C e t : Addr} {m mC : Str → Option Value} {env : Env} {news : List (Addr × Obj)}
/-- the exception leaves a comprehension of this frame -/
theorem comp_err {env' : Env} {c : Value} {vs : List Value} {oC : Obj} {Q : Value → Shared → Prop} {acc : Value} (K : Below A base outer g) (R : RaisedS base g₂ (env :: outer) e c t vs ((C, oC) :: news) s'.heap) (hsm : g₂.UpToSlots s'.heap) (hoC : NsObj oC mC) (off : ∀ p ∈ news, p.1 ≠ C) (hf : env.frame = some L) (hf' : env'.frame = some L)
    (k : ∀ h', RaisedX base g₂ (env :: outer) e c t vs news h' → g₂.UpToSlots h' → E (.ref e) { s' with heap := h' }) :
    notedBy M (A.deeper env) env' (fun x s'' => compPost M (A.deeper env) E none Q acc C (.error x) s'') (.ref e) s' := by
  obtain ⟨⟨B, hB, hBG, hl, hfl, hnew⟩, htup⟩ := R
  unfold notedBy
  rw [note_same (hf'.trans hf.symm)]
  refine wpAny_looks_onW (Around.frames_deeper K.stack) hf hfl fun h1 held up1 => ?_
  obtain ⟨st1, en1, fr1, oe, ws, T, oT, ts, he, hcls, hd, w1, hnT, hTe, hT, hdT, w3⟩ := held
  obtain ⟨hBC, hGC, hbC⟩ := hl _ (.head _)
  simp only at hBC hGC hbC
  have hC1 := st1 _ _ hBC
  have eC : e ≠ C := fun q => by rw [q, hBC] at en1; cases en1
  have TC : T ≠ C := fun q => by rw [q, hBC] at hnT; cases hnT
  have tC : t ≠ C := fun q => by rw [q, hBC] at hnew; cases hnew
  refine ⟨mC, hoC.ns hC1, fun h' sb cenv _ => ?_⟩
  have same : ∀ b, b ≠ C → h'.get? b = h1.get? b := sb.2
  have he' := (same e eC).trans he
  have hT' := (same T TC).trans hT
  have sz3 : 3 < ts.size := (Array.getElem?_eq_some_iff.mp w3).1
  unfold PySem.passOn
  refine wpAny_bind (wpAny_field he' hd w1 ?_)
  rw [if_neg (show ¬ ((Value.ref T == Value.none) = true) from by simp)]
  unfold setFlight
  refine wpAny_bind (wpAny_bind (wpAny_field he' hd w1 ?_))
  rw [if_pos (show (Value.ref T != Value.none) = true from by simp)]
  refine wpAny_setField hT' hdT sz3 (wpAny_throw ?_)
  have oth : ∀ b, b ≠ T → (h'.update T (Obj.mapFields (·.setIfInBounds 3 (cenv.frame.elim Value.none fun f => rawInt f)))).get? b = h'.get? b := fun b hb => Heap.get?_update_other _ _ (Ne.symm hb)
  have noT : ∀ b o, h'.get? b = some o → (∀ vs, o.data ≠ .fields vs) → b ≠ T := fun b o hb hnf q => by
    rw [q, hT'] at hb
    cases hb
    exact hnf ts hdT
  have notC : ∀ {b o}, (hideAll B [C]).get? b = some o → b ≠ C := fun q r => by
    rw [r, hideAll_none [C] (.head _)] at q
    cases q
  have notT : ∀ {b o}, B.get? b = some o → b ≠ T := fun q r => by rw [r, hnT] at q; cases q
  have sub : ∀ {b}, B.get? b = none → (hideAll B [C]).get? b = none := fun {b} q => by
    cases r : (hideAll B [C]).get? b with
    | none => rfl
    | some o => rw [of_hideAll _ r] at q; cases q
  refine k _ ⟨⟨hideAll B [C], _, fun b o q => hideAll_get _ (hB b o q) fun r => ?_, fun b o q nm => hideAll_get _ (hBG b o q nm) fun r => ?_, fun q hq => ?_, ⟨fun b o q => ?_, sub en1, ?_, oe, ws, T, _, _, (oth e (Ne.symm hTe)).trans he', hcls, hd, w1, sub hnT, hTe, Heap.get?_update_self _ hT' (Obj.isFreed_of_fields (Obj.data_mapFields hdT _)), Obj.data_mapFields hdT _, by
    rw [Array.getElem?_setIfInBounds_self_of_lt sz3]⟩, sub hnew⟩, ?_⟩ fun b o q hnf => ?_
  · rw [List.mem_singleton.mp r, hbC] at q; cases q
  · rw [List.mem_singleton.mp r, hGC] at q; cases q
  · have z := hl q (.tail _ hq)
    exact ⟨hideAll_get _ z.1 fun r => off q hq (List.mem_singleton.mp r), z.2⟩
  · exact (oth b (notT (of_hideAll _ q))).trans ((same b (notC q)).trans (st1 b o (of_hideAll _ q)))
  · exact frames_but (fun _ _ _ _ => trivial) (by rw [hBC]; exact fun q => by cases q) (fun b o hb q hnf => by
      have q' := (same b hb).trans q
      exact (oth b (noT b o q' hnf)).trans q') fr1
  · obtain ⟨ot, n, q1, q2, q3⟩ := htup.of_slots up1
    have q1' := (same t tC).trans q1
    exact ⟨ot, n, (oth t (noT t ot q1' fun vs r => by rw [q3] at r; cases r)).trans q1', q2, q3⟩
  · obtain ⟨sl, q'⟩ := (hsm.trans up1) b o q hnf
    have hb : b ≠ C := fun r => by rw [r, hGC] at q; cases q
    have q2 := (same b hb).trans q'
    exact ⟨sl, (oth b (noT b _ q2 hnf)).trans q2⟩
/-- the frame is left behind it -/
theorem leave_onX {c : Value} {vs : List Value} {Q : Unit → Shared → Prop} (K : Below A base outer g) (F : Fr g L g₂ m) (R : RaisedX base g₂ (env :: outer) e c t vs news s'.heap) (hsm : g₂.UpToSlots s'.heap) (hQ : ∀ h', RaisedS base g outer e c t vs news h' → g.UpToSlots h' → Q () { s' with heap := h' }) (hf : env.frame = some L) :
    wpAny M (A.deeper env) (leaving env (.ref e)) Q E s' := by
  obtain ⟨⟨B, fl, hB, hBG, hl, ⟨st, en, fr, tr⟩, hnew⟩, htup⟩ := R
  have done : ∀ h', Heap.FlyingW B outer e c (.ref t) h' → s'.heap.UpToSlots h' → Q () { s' with heap := h' } := fun h' x1 x2 => by
    refine hQ h' ⟨⟨B, hB, fun b o q nm => hBG b o (F.keep b o q) (fun hm => ?_), fun q hq => ⟨(hl q hq).1, kts_none F.keep (hl q hq).2.1, (hl q hq).2.2⟩, x1, hnew⟩, htup.of_slots x2⟩ ((Heap.UpToSlots.of_keeps F.keep).trans (hsm.trans x2))
    obtain ⟨en, hm, hg⟩ := List.mem_filterMap.mp hm
    rcases List.mem_cons.mp hm with rfl | hm
    · obtain rfl := Option.some.inj (hf.symm.trans hg)
      rw [kts_self F] at q; cases q
    · exact nm (List.mem_filterMap.mpr ⟨en, hm, hg⟩)
  by_cases hfl : (fl == rawInt L) = true
  · have hfl' : fl = rawInt L := by simpa using hfl
    subst hfl'
    unfold leaving
    refine wpAny_bind (wpAny_noteFrame_againW hf tr ?_)
    refine wpAny_landsW (L := L) ⟨st, en, fr, tr⟩ fun h' f u => ?_
    obtain ⟨k1, k2, ⟨_, _, k3⟩, k4⟩ := f
    exact done h' ⟨k1, k2, k3, k4⟩ u
  · obtain ⟨oe, ws, T, oT, ts, he, ⟨hcls, h0⟩, hd, w1, hnT, hTe, hT, hdT, w3⟩ := tr
    subst hcls
    unfold leaving noteFrame
    simp only [hf]
    refine wpAny_bind (wpAny_bind (wpAny_field he hd w1 ?_))
    rw [if_pos (show (Value.ref T != Value.none) = true from by simp)]
    refine wpAny_bind (wpAny_field hT hdT w3 ?_)
    rw [if_neg hfl]
    refine wpAny_bind (wpAny_setField hT hdT (Array.getElem?_eq_some_iff.mp w3).1 ?_)
    have oth : ∀ b, b ≠ T → (s'.heap.update T (Obj.mapFields (·.setIfInBounds 3 Value.none))).get? b = s'.heap.get? b := fun b hb => Heap.get?_update_other _ _ (Ne.symm hb)
    have noT : ∀ b o, s'.heap.get? b = some o → (∀ vs, o.data ≠ .fields vs) → b ≠ T := fun b o hb hnf q => by
      rw [q, hT] at hb
      cases hb
      exact hnf ts hdT
    refine wpAny_newEntryW (Around.frames_deeper K.stack) (fr.of_keeps fun b o hb hnf => ⟨o, (oth b (noT b o hb hnf)).trans hb, rfl⟩) hf ((oth e (Ne.symm hTe)).trans he)
      (fun b o hbo => (oth b fun q => by rw [q, hnT] at hbo; cases hbo).trans (st b o hbo)) en hd (Array.getElem?_eq_some_iff.mp w1).1 h0 fun h' ⟨x1, ⟨_, _, x2⟩, x3, x4⟩ => done h' ⟨x1, en, x2, x3⟩ fun b o hb hnf => x4 b o ((oth b (noT b o hb hnf)).trans hb) hnf
end
end

section
-- SplatDef
open LCg
section
variable {prog : Program} {w : World} {A : Around} {E : Value → Shared → Prop} {h₀ : Heap} {L : Addr} {m : Str → Option Value} {env : Env}
/-- a comprehension over two things whose second turn raises -/
theorem csrc_two {elt : PySem.Expr} {x : Str} {scope : Scope} {cl : List (Str × Addr)} {Q : Value → Shared → Prop} {ax fz fd sz sd nz lz : Addr} {v1 v2 : Value} {k : Nat} {t4 tk0 : Tok} {xs : Array Value} {n3 : Nat} {ys4 : Array Value} {n4 : Nat} {Y ex news : List (Addr × Obj)} {s₁ : Shared}
    (F : Fr h₀ L s₁.heap m) (N : News h₀ L s₁.heap news) (_hF : FuserIn w news fz fd sz sd nz lz) (hm : ∀ p ∈ stM w sd nz lz 0 t4 tk0 xs n3 ys4 n4, p ∈ news) (hc : Cut (stM w sd nz lz 0 t4 tk0 xs n3 ys4 n4) Y news ex) (hax : (ax, tupObj [v1, v2] k) ∈ ex ++ Y)
    (turn0 : ∀ (I : Addr) (oI : Obj) (C : Addr) (oC : Obj) (D : Addr) (m₂ : Str → Option Value) (h : Heap) (tk : Nat), isTupB oI = false → NsObj oC m₂ → m₂ x = some v1 → Fr h₀ L h m → News h₀ L h ((I, oI) :: (C, oC) :: (D, lst []) :: (stM w sd nz lz 0 t4 tk0 xs n3 ys4 n4 ++ (ex ++ Y))) → Off3 I C D (stM w sd nz lz 0 t4 tk0 xs n3 ys4 n4 ++ (ex ++ Y)) → ((@Ne Nat I C) ∧ (@Ne Nat I D) ∧ (@Ne Nat C D)) →
      wpAny (model prog w) A (eval elt (compEnvC scope cl C env)) (CompEnd h₀ L m { s₁ with heap := h, toks := tk } I oI C oC D (lst []) (SrcK ax [v1, v2] k) (fun _ nw' => ∀ p ∈ ex ++ Y, p ∈ nw')) (CErr prog w A E Q scope cl env C D) { s₁ with heap := h, toks := tk })
    (turn1 : ∀ (ys : List Value) (nw : List (Addr × Obj)) (I : Addr) (oI : Obj) (C : Addr) (oC : Obj) (D : Addr) (m₂ : Str → Option Value) (h : Heap) (tk : Nat), (∀ p ∈ ex ++ Y, p ∈ nw) → isTupB oI = false → NsObj oC m₂ → m₂ x = some v2 → Fr h₀ L h m → News h₀ L h ((I, oI) :: (C, oC) :: (D, lst ys) :: nw) → Off3 I C D nw → ((@Ne Nat I C) ∧ (@Ne Nat I D) ∧ (@Ne Nat C D)) →
      wpAny (model prog w) A (eval elt (compEnvC scope cl C env)) (fun _ _ => False) (CErr prog w A E Q scope cl env C D) { s₁ with heap := h, toks := tk }) :
    CSrcT prog w A h₀ L m env elt x scope cl E Q (.ref ax) s₁ := by
  have N0 : News h₀ L s₁.heap (stM w sd nz lz 0 t4 tk0 xs n3 ys4 n4 ++ (ex ++ Y)) := fun p hp => (List.mem_append.mp hp).elim (fun h => N p (hm p h)) fun h => N p (hc.sub p h)
  refine csrc (fun i ys nw => (i = 0 ∧ ys = [] ∧ nw = stM w sd nz lz 0 t4 tk0 xs n3 ys4 n4 ++ (ex ++ Y)) ∨ (i = 1 ∧ ∀ p ∈ ex ++ Y, p ∈ nw)) F N0 (List.mem_append.mpr (.inr hax)) (Nat.le_of_ble_eq_true rfl) (.inl ⟨rfl, rfl, rfl⟩) ?_ ?_
  · rintro i ys nw v I oI C oC D m₂ h tk (⟨rfl, rfl, rfl⟩ | ⟨rfl, hsub⟩) hS hv hoI hoC hx F' N' off ne
    · obtain rfl : v1 = v := by simpa using hv
      refine wpAny_mono (turn0 I oI C oC D m₂ h tk hoI hoC hx F' N' off ne) ?_ fun _ _ e => e
      rintro y s₂ ⟨h', tk', news', e, F2, N2, off2, hS2, r⟩
      exact ⟨h', tk', news', e, F2, N2, off2, hS2, .inr ⟨rfl, r⟩⟩
    · obtain rfl : v2 = v := by simpa using hv
      exact wpAny_mono (turn1 ys nw I oI C oC D m₂ h tk hsub hoI hoC hx F' N' off ne) (fun _ _ e => e.elim) fun _ _ e => e
  · rintro ys nw D h tk (⟨hj, _⟩ | ⟨hj, _⟩)
    · cases hj
    · cases hj
end
end

section
-- RefK
theorem reset_RefK : True := by
  w_top off
  trivial
local macro_rules | `(tactic| lsm_bools) => `(tactic| first | exact List.Mem.head _ | assumption | (refine' List.Mem.tail _ ?_; lsm_bools) | (refine' GrowT.mem ?g ?h; (case g => assumption); (case h => lsm_bools)) | fail "no entry")
local macro_rules | `(tactic| k_mem) => `(tactic| first | lsm_bools | fail "no entry")
local macro_rules | `(tactic| tb_start) => `(tactic| first
  | exact List.forall_mem_nil _
  | (refine' List.forall_mem_cons.mpr ⟨?a, ?b⟩; (case a => lsm_bools); (case b => tb_start))
  | (intro p hp; repeat (first | exact hp | refine List.mem_cons_of_mem _ ?_ | refine List.Mem.tail _ ?_ | refine GrowT.mem' (by assumption) ?_ | refine GrowT.mem (by assumption) ?_ | fail "no entry"))
  | fail "not within")
local macro_rules | `(tactic| k_all) => `(tactic| first
  | assumption
  | (refine' GrowT.off ?g ?o ?N ?s ?m ?c; (case g => assumption); (case o => k_all); (case N => k_asm); (case s => tb_start); (case m => lsm_bools); (case c => rfl))
  | (refine' offLt ?h ?s; (case h => assumption); (case s => tb_start))
  | fail "not apart")
local macro_rules | `(tactic| k_lt $h:ident) => `(tactic| (have hl9 := $h; replace $h := allLt_of $h; simp only [AllLt, and_true] at $h:ident))
local macro_rules | `(tactic| kqd_sub) => `(tactic| first
  | (refine' Cut.own ?m ?r; (case m => lsm_bools); (case r => kqd_sub))
  | (refine' Cut.oth ?o ?r; (case o => k_all); (case r => kqd_sub))
  | exact Cut.tail
  | fail "no cut")
local macro_rules | `(tactic| ktr_rel) => `(tactic| first
  | exact subT_nil
  | exact subT_of (fun _ hp => hp)
  | assumption
  | (refine' subT_skip ?a ?b; (case a => rfl); (case b => ktr_rel))
  | (refine' subT_cons ?a ?b; (case a => lsm_bools); (case b => ktr_rel))
  | (refine' subT_of ?h; (case h => tb_start))
  | (refine' subT_app ?a ?b; (case a => ktr_rel); (case b => ktr_rel))
  | fail "tuples not within")
local macro_rules | `(tactic| k_room) => `(tactic| ktr_room)
local macro_rules | `(tactic| k_units) => `(tactic| ktr_units)
local macro_rules | `(tactic| tb_rel) => `(tactic| first
  | exact TAll.nil
  | exact TIn.str _ _
  | exact TIn.int _ _
  | exact TIn.bytes _ _
  | assumption
  | (refine' TIn.mono ?s ?h; (case h => assumption); (case s => ktr_rel))
  | (refine' TAll.mono ?s ?h; (case h => assumption); (case s => ktr_rel))
  | (refine' TIn.tuple ?m ?r; (case m => lsm_bools); (case r => tb_rel))
  | (refine' TAll.cons ?h ?t; (case h => tb_rel); (case t => tb_rel))
  | fail "no tree")
local macro_rules | `(tactic| walk_at "compareOp In str ref") => `(tactic| (k_here; k_dflt (refine' in_tupL ?ht ?hi ?_; (case ht => (refine' tupK ?X ?l; (case X => k_in); (case l => k_is))); (case hi => exact rfl))))
local macro_rules | `(tactic| walk_at "compareOp Eq ref ref") => `(tactic| (k_here; k_dflt (first
  | (refine' eq_dat (r := false) ?H ?d1 ?d2 ?hc ?hd ?hu ?_; (case H => exact heldOf (by k_asm)); (case d1 => tb_rel); (case d2 => tb_rel); (case hc => with_unfolding_all rfl); (case hd => exact Nat.le_of_ble_eq_true rfl); (case hu => ktr_units))
  | (refine' eq_dat (r := true) ?H ?d1 ?d2 ?hc ?hd ?hu ?_; (case H => exact heldOf (by k_asm)); (case d1 => tb_rel); (case d2 => tb_rel); (case hc => with_unfolding_all rfl); (case hd => exact Nat.le_of_ble_eq_true rfl); (case hu => ktr_units)))))
local macro_rules | `(tactic| walk_at "compareOp NotEq ref ref") => `(tactic| (k_here; k_dflt (first
  | (refine' ne_dat (r := false) ?H ?d1 ?d2 ?hc ?hd ?hu ?_; (case H => exact heldOf (by k_asm)); (case d1 => tb_rel); (case d2 => tb_rel); (case hc => with_unfolding_all rfl); (case hd => exact Nat.le_of_ble_eq_true rfl); (case hu => ktr_units))
  | (refine' ne_dat (r := true) ?H ?d1 ?d2 ?hc ?hd ?hu ?_; (case H => exact heldOf (by k_asm)); (case d1 => tb_rel); (case d2 => tb_rel); (case hc => with_unfolding_all rfl); (case hd => exact Nat.le_of_ble_eq_true rfl); (case hu => ktr_units)))))
local macro_rules | `(tactic| walk_at "subscriptTail Name Constant ref int") => `(tactic| (k_here; k_dflt (refine' item_tupleT ?t ?a ?b ?c ?d ?_; (case t => exact News.isTup (by k_asm) (by k_mem)); (case a => decide); (case b => decide); (case c => rfl); (case d => rfl); k_whole)))
local macro_rules | `(tactic| walk_at "ite") => `(tactic| (k_closed; k_dflt (first | (refine' ite_pos ?c ?_; (case c => decide)) | (refine' ite_neg ?c ?_; (case c => decide)))))
local macro_rules | `(tactic| walk_at "call type:range cons nil") => `(tactic| (k_here; k_dflt (refine' range1_rows ?F ?N ?_; (case F => k_asm); (case N => k_asm); k_whole; intro h' tk' t1' u1' v1' hR' F' N' hst'; (try k_fold))))
local macro_rules | `(tactic| walk_at "pyIter ref") => `(tactic| (k_here; (with_reducible show wpAny _ _ (pyIter (Value.ref _)) (fun it s₂ => LoopAtV _ _ _ _ _ _ _ _ _ it s₂) _ _); refine' Hold.of ?_))
local macro_rules | `(tactic| walk_at "binaryOp Add ref ref") => `(tactic| (k_here; k_dflt (refine' add_cat ?F ?N ?a ?b ?z ?_; (case F => k_asm); (case N => k_asm); (case a => lsm_bools); (case b => lsm_bools); (case z => (simp only [sizeLine_eq, List.length_cons, List.length_nil]; omega)); k_whole; intro D' h' F' N' l1; (try k_lt l1); (try k_sweep))))
local macro_rules | `(tactic| walk_at "subscriptTail Name Slice ref ref") => `(tactic| (k_here; k_dflt (first
  | (refine' slice_whole ?F ?N ?t ?l ?z ?_ ?hs ?hg; (case F => k_asm); (case N => k_asm); (case t => lsm_bools); (case l => exact Nat.le_of_ble_eq_true rfl); (case z => exact Nat.le_of_ble_eq_true rfl); (case hs => with_unfolding_all rfl); (case hg => (intro _; with_unfolding_all rfl)); k_whole; intro h' F' N'; (try k_sweep))
  | (refine' slice_upto ?F ?N ?t ?l ?z ?_ ?hs ?hg; (case F => k_asm); (case N => k_asm); (case t => lsm_bools); (case l => exact Nat.le_of_ble_eq_true rfl); (case z => exact Nat.le_of_ble_eq_true rfl); (case hs => with_unfolding_all rfl); (case hg => (intro _; with_unfolding_all rfl)); k_whole; intro D' h' F' N' l1; (try k_lt l1); (try k_sweep)))))
local macro_rules | `(tactic| walk_at "subscriptTail Name Slice ref ref") => `(tactic| (k_here; k_dflt
  (refine' slice_from ?F ?N ?t ?o ?l ?z ?_ ?hs ?hg; (case F => k_asm); (case N => k_asm); (case t => lsm_bools); (case o => exact Nat.le_of_ble_eq_true rfl); (case l => (simp only [List.length_cons]; omega)); (case z => (simp only [sizeLine_eq, List.length_cons]; omega)); (case hs => with_unfolding_all rfl); (case hg => (intro _; with_unfolding_all rfl)); k_whole; intro D' h' F' N' l1; (try k_lt l1); (try k_sweep))))
local macro_rules | `(tactic| walk_at "subscriptTail Subscript Name Constant Slice ref ref") => `(tactic| (k_here; k_dflt
  (refine' slice_from ?F ?N ?t ?o ?l ?z ?_ ?hs ?hg; (case F => k_asm); (case N => k_asm); (case t => lsm_bools); (case o => exact Nat.le_of_ble_eq_true rfl); (case l => (simp only [List.length_cons]; omega)); (case z => (simp only [sizeLine_eq, List.length_cons]; omega)); (case hs => with_unfolding_all rfl); (case hg => (intro _; with_unfolding_all rfl)); k_whole; intro D' h' F' N' l1; (try k_lt l1); (try k_sweep))))
local macro_rules | `(tactic| walk_at "call type:tuple cons nil") => `(tactic| (k_here; k_dflt (refine' tuple_of ?F ?N ?t ?z ?_; (case F => k_asm); (case N => k_asm); (case t => lsm_bools); (case z => first | exact Nat.le_of_ble_eq_true rfl | (simp only [sizeLine_eq, List.length_append, List.length_cons, List.length_nil]; omega)); k_whole; intro D' h' F' N' l1; (try k_lt l1); (try k_sweep))))
local macro_rules | `(tactic| walk_at "subscriptTail Name Constant ref int") => `(tactic| (k_here; k_dflt (refine' item_tupI ?N ?m ?a ?b ?c ?_; (case N => k_asm); (case m => lsm_bools); (case a => decide); (case b => decide); (case c => exact rfl); k_whole)))
local macro_rules | `(tactic| walk_at "subscriptTail Subscript Name Constant Constant ref int") => `(tactic| (k_here; k_dflt (refine' item_tupI ?N ?m ?a ?b ?c ?_; (case N => k_asm); (case m => lsm_bools); (case a => decide); (case b => decide); (case c => exact rfl); k_whole)))
local macro_rules | `(tactic| walk_at "subscriptTail Subscript Subscript Constant Constant ref int") => `(tactic| (k_here; k_dflt (refine' item_tupI ?N ?m ?a ?b ?c ?_; (case N => k_asm); (case m => lsm_bools); (case a => decide); (case b => decide); (case c => exact rfl); k_whole)))
local macro_rules | `(tactic| walk_at "subscriptTail Call Name cons nil Constant ref int") => `(tactic| (k_here; k_dflt (refine' item_tupI ?N ?m ?a ?b ?c ?_; (case N => k_asm); (case m => lsm_bools); (case a => decide); (case b => decide); (case c => exact rfl); k_whole)))
local macro_rules | `(tactic| walk_at "binaryOp Add ref ref") => `(tactic| (k_here; k_dflt (refine' add_tupC ?F ?N ?a ?b ?l1 ?l2 ?z ?_; (case F => k_asm); (case N => k_asm); (case a => lsm_bools); (case b => lsm_bools); (case l1 => (simp only [List.length_cons, List.length_nil]; omega)); (case l2 => omega); (case z => (simp only [sizeLine_eq, List.length_cons, List.length_nil]; omega)); k_whole; intro D' h' F' N' l1; (try k_lt l1); (try k_sweep))))
local macro_rules | `(tactic| walk_at "call type:tuple cons nil") => `(tactic| (k_here; k_dflt (refine' tuple_same ?N ?t ?_; (case N => k_asm); (case t => lsm_bools); k_whole)))
local macro_rules | `(tactic| walk_at "call builtin:len cons nil") => `(tactic| (k_here; k_dflt (refine' len_tupK ?N ?t ?z ?_; (case N => k_asm); (case t => lsm_bools); (case z => (simp only [sizeLine_eq, List.length_cons, List.length_nil]; omega)); k_whole; intro tk1' tk2')))
local macro_rules | `(tactic| walk_at "eval ListComp") => `(tactic| (k_here; refine' Hold.of ?_))
local macro_rules | `(tactic| walk_at "compareOp NotEq ref ref") => `(tactic| (k_here; k_dflt (refine' ne_dat (r := false) ?H ?d1 ?d2 ?hc ?hd ?hu ?_; (case H => exact heldOf (by k_asm)); (case d1 => tb_rel); (case d2 => tb_rel); (case hc => exact cmp_head (by assumption) _); (case hd => exact Nat.le_of_ble_eq_true rfl); (case hu => ktr_units))))
local macro_rules | `(tactic| walk_at "call ref") => `(tactic| (k_here; (with_reducible show wpAny _ _ (call (Value.ref 233) [_] _) _ _ _); k_dflt (refine' plain_use ?C ?ho ?hv ?B ?F ?X ?N ?T ?hk ?hc ?hd ?hu ?_; (case C => assumption); (case ho => assumption); (case hv => assumption); (case B => k_asm); (case F => k_asm); (case X => k_asm); (case N => k_asm); (case T => k_asm); (case hk => first | rfl | assumption); (case hc => kqd_sub); (case hd => ktr_room); (case hu => ktr_units); k_whole; intro r' Y' h' tk' g' F' N' hr'; (try simp only [List.cons_append, List.nil_append] at N'); (try k_fold))))
local macro_rules | `(tactic| walk_at "call ref") => `(tactic| (k_here; (with_reducible show wpAny _ _ (call (Value.ref 240) [_] _) _ _ _); k_dflt (refine' things_use ?C ?ho ?hv ?B ?F ?X ?N ?T ?hk ?hc ?hd ?hu ?_; (case C => assumption); (case ho => assumption); (case hv => assumption); (case B => k_asm); (case F => k_asm); (case X => k_asm); (case N => k_asm); (case T => k_asm); (case hk => first | rfl | assumption); (case hc => kqd_sub); (case hd => ktr_room); (case hu => ktr_units); k_whole; intro a' vs' k' Y' h' tk' g' F' N' hr' hrl'; (try simp only [List.cons_append, List.nil_append] at N'); (try k_fold))))
local macro_rules | `(tactic| walk_at "exec For Name Subscript") => `(tactic| (k_here; (rename Fr _ _ _ _ => lF'); (with_unfolding_all refine' For_invVF lF' ?k1 ?k2 ?_; (case k1 => exact rfl); (case k2 => exact rfl); k_whole)))
local macro_rules | `(tactic| walk_at "compareOp Eq ref ref") => `(tactic| (k_here; k_dflt (refine' eq_dat (r := false) ?H ?d1 ?d2 ?hc ?hd ?hu ?_; (case H => exact heldOf (by k_asm)); (case d1 => tb_rel); (case d2 => tb_rel); (case hc => exact cmp_head (by assumption) _); (case hd => exact Nat.le_of_ble_eq_true rfl); (case hu => ktr_units))))
local macro_rules | `(tactic| walk_at "compareOp Eq str str") => `(tactic| (k_here; k_dflt (refine' eq_str_no ?h ?_; (case h => assumption); k_whole)))
local macro_rules | `(tactic| ktr_enter) => `(tactic| (refine' code_defC ?k1 ?k2 ?k3 ?k4 ?k5 ?kA ?kF ?kK ?k6 ?k7 ?k8 ?k9 ?kB ?kD ?_ ?c2 ?c3 ?c4; (case kA => exact rfl); (case kF => exact rfl); (case kK => assumption); (case k1 => k_asm); (case k2 => k_asm); (case k3 => k_asm); (case k4 => k_asm); (case k5 => k_asm); (case k6 => k_is); (case k7 => k_is); (case k8 => ktr_room); (case k9 => exact BindsTo.of_eq rfl); (case kB => exact rfl); (case kD => decide +kernel); (case c2 => exact rfl); (case c3 => exact rfl); (case c4 => exact rfl); k_whole; intro g' L' h' tk' cells' FG' F' N' Y' B' X' T' l1; (try k_lt l1); k_cells Y'; (try simp only [List.cons_append, List.nil_append] at N'); (try dsimp only); (try k_fold)))
local macro_rules | `(tactic| walk_at "call ref") => `(tactic| (k_here; (with_reducible show wpAny _ _ (call (Value.ref 108) [Value.ref _, _] _) _ _ _); k_dflt (refine' fuse_use (f := 108) ?C ?ho ?hv ?hF ?hst ?hne ?hlen ?hm ?hc ?y1 ?y2 ?y3 ?B ?F ?X ?N ?T ?hk ?hd ?hu ?_; (case C => assumption); (case hv => assumption); (case ho => assumption); (case hF => assumption); (case hst => assumption); (case hne => assumption); (case hlen => first | assumption | omega); (case B => k_asm); (case F => k_asm); (case X => k_asm); (case N => k_asm); (case T => k_asm); (case hk => first | rfl | assumption); (case hm => tb_start); (case hc => kqd_sub); (case y1 => k_all); (case y2 => k_all); (case y3 => k_all); (case hd => ktr_room); (case hu => ktr_units); k_whole; intro r' t4' tk4' xs' n3' ys' n4' Y' h' tk' g' F' N' hst' hr'; (try simp only [List.cons_append, List.nil_append] at N'); (try k_fold))))
local macro_rules | `(tactic| walk_at "call ref") => `(tactic| (k_here; (with_reducible show wpAny _ _ (call (Value.ref 115) [Value.ref _, _] _) _ _ _); k_dflt (refine' fuse_use (f := 115) ?C ?ho ?hv ?hF ?hst ?hne ?hlen ?hm ?hc ?y1 ?y2 ?y3 ?B ?F ?X ?N ?T ?hk ?hd ?hu ?_; (case C => assumption); (case hv => assumption); (case ho => assumption); (case hF => assumption); (case hst => assumption); (case hne => assumption); (case hlen => first | assumption | omega); (case B => k_asm); (case F => k_asm); (case X => k_asm); (case N => k_asm); (case T => k_asm); (case hk => first | rfl | assumption); (case hm => tb_start); (case hc => kqd_sub); (case y1 => k_all); (case y2 => k_all); (case y3 => k_all); (case hd => ktr_room); (case hu => ktr_units); k_whole; intro r' t4' tk4' xs' n3' ys' n4' Y' h' tk' g' F' N' hst' hr'; (try simp only [List.cons_append, List.nil_append] at N'); (try k_fold))))
local macro_rules | `(tactic| walk_at "call ref") => `(tactic| (k_here; (with_reducible show wpAny _ _ (call (Value.ref 120) [Value.ref _, _] _) _ _ _); k_dflt (refine' fuse_use (f := 120) ?C ?ho ?hv ?hF ?hst ?hne ?hlen ?hm ?hc ?y1 ?y2 ?y3 ?B ?F ?X ?N ?T ?hk ?hd ?hu ?_; (case C => assumption); (case hv => assumption); (case ho => assumption); (case hF => assumption); (case hst => assumption); (case hne => assumption); (case hlen => first | assumption | omega); (case B => k_asm); (case F => k_asm); (case X => k_asm); (case N => k_asm); (case T => k_asm); (case hk => first | rfl | assumption); (case hm => tb_start); (case hc => kqd_sub); (case y1 => k_all); (case y2 => k_all); (case y3 => k_all); (case hd => ktr_room); (case hu => ktr_units); k_whole; intro r' t4' tk4' xs' n3' ys' n4' Y' h' tk' g' F' N' hst' hr'; (try simp only [List.cons_append, List.nil_append] at N'); (try k_fold))))
local macro_rules | `(tactic| walk_at "call ref") => `(tactic| (k_here; (with_reducible show wpAny _ _ (call (Value.ref 68) [_, Value.str _ _] _) _ _ _); k_dflt (refine' isEx_use ?C ?hv ?e ?B ?F ?X ?N ?T ?hk ?hs ?hd ?hu ?_; (case C => exact isEx_con _); (case hv => assumption); (case e => first | rfl | assumption); (case B => k_asm); (case F => k_asm); (case X => k_asm); (case N => k_asm); (case T => k_asm); (case hk => first | rfl | assumption); (case hs => tb_start); (case hd => ktr_room); (case hu => ktr_units); k_whole; intro h' tk' F' N'; (try k_fold))))
local macro_rules | `(tactic| walk_at "eval Call Name cons nil") => `(tactic| (k_here; refine Call_ ?_))
local macro_rules | `(tactic| walk_at "call ref") => `(tactic| (k_here; (with_reducible show wpAny _ _ (call (Value.ref 45) _) _ _ _); k_dflt (refine' call_fault ?X ?F ?N ?z ?_; (case F => k_asm); (case N => k_asm); (case X => k_in); (case z => exact Nat.le_of_ble_eq_true rfl); k_whole; intro e' t' h' F' N' l1 l2; (try k_lt l1); (try k_lt l2); (try k_sweep); refine wpAny_call ?_; first | k_enter | kdv_enter | kdv_enterE | refine' Hold.of ?_)))
local macro_rules | `(tactic| walk_at "exec Raise some none") => `(tactic| (k_here; k_dflt (refine' Raise_fault ?hh ?_; (case hh => first | rfl | assumption))))
local macro_rules | `(tactic| walk_at "Faulty") => `(tactic| (refine' faulty_of ?X ?F ?N ?he ?h1 ?_; (case F => k_asm); (case N => k_asm); (case X => k_in); (case he => lsm_bools); (case h1 => rfl); k_whole))
local macro_rules | `(tactic| walk_at "leaving ref") => `(tactic| (k_here; first
  | (refine' leave_on ?K ?F ?R ?U ?_ ?hf; (case R => assumption); (case hf => exact rfl); (case K => assumption); (case U => assumption); (case F => assumption); k_whole; intro h' R' U'; (try dsimp only at R' U' ⊢))
  | (refine' leave_fault ?K ?F ?N ?kp ?he ?hc ?hd ?h1 ?h0 ?ht ?hs ?hn ?hn2 ?_ ?hf ?hk; (case hf => exact rfl); (case hk => exact rfl); (case K => assumption); (case F => k_asm); (case N => k_asm); (case kp => assumption); (case he => lsm_bools); (case hc => rfl); (case hd => rfl); (case h1 => rfl); (case h0 => rfl); (case ht => lsm_bools); (case hs => tb_start); (case hn => k_all); (case hn2 => k_all); k_whole; intro h' R' U'; (try dsimp only at R' U' ⊢))))
local macro_rules | `(tactic| walk_at "noteFrame ref") => `(tactic| (k_here; (refine' caught_SO0 (KF := hd.heap_39 _) ?R ?F ?K ?U ?XB ?TB ?D ?T0 ?ex ?q ?_; (case R => assumption); (case F => assumption); (case K => assumption); (case U => assumption); (case XB => assumption); (case TB => assumption); (case D => assumption); (case T0 => first | assumption | exact KtsTurn.refl); (case ex => k_is); (case q => first | k_is | kernel_rfl); k_whole; intro h' g' n' T' F' N' G' M' K' X' P' D')))
local macro_rules | `(tactic| walk_at "compareOp Gt int int") => `(tactic| (k_here; k_dflt (refine' gt_yes ?e ?_; (case e => rfl); k_whole)))
local macro_rules | `(tactic| walk_at "getMethod type:Exception") => `(tactic| (k_here; refine' method_type ?F ?X ?m (by decide +kernel) ?e ?h ?_; (case F => k_asm); (case X => k_asm); (case m => first | rfl | kernel_rfl); (case e => k_dflt k_is); (case h => k_handed)))
local macro_rules | `(tactic| walk_at "call builtin:Exception.__init__") => `(tactic| (k_here; (refine' exc_init ?F ?N ?X ?off ?z ?_; (case F => k_asm); (case N => k_asm); (case X => k_in); (case off => k_all); (case z => exact Nat.le_of_ble_eq_true rfl); k_whole; intro t' h' F' N' l1; (try k_lt l1); (try k_sweep))))
local macro_rules | `(tactic| walk_at "setAttr ref") => `(tactic| (k_here; k_dflt (first
  | (refine' set_first' ?F ?N ?X ?ha ?off ?ot ?_; (case F => k_asm); (case N => k_asm); (case X => k_in); (case ha => k_is); (case off => k_all); (case ot => exact adr_ne (by omega)); k_whole; intro d' h' F' N' l1; (try k_lt l1); (try k_sweep))
  | (refine' set_next' ?F ?N ?X ?off ?_; (case F => k_asm); (case N => k_asm); (case X => k_in); (case off => k_all); k_whole; intro h' F' N'; (try k_sweep)))))
set_option maxHeartbeats 8000000 in
theorem refused_keyed (w : World) : RefC w (tE "dotcall" [tS "f", tE "parameters" [tS "k"], tS "a"]) := by
  intro tv Y htv
  have hkeep : KeepIs Y := trivial
  have he1 : isEx (tE "dotcall" [tS "f", tE "parameters" [tS "k"], tS "a"]) (kS "dotcall") = true := by simp [isEx]
  have he2 : isEx (tE "parameters" [tS "k"]) (kS "parameters") = true := by simp [isEx]
  obtain ⟨a, n, t1, t2, b, vs, k, rfl, hm, hm2, hT⟩ := ex_inv htv
  cases hT with
  | @cons v0 _ _ _ hv0 hT =>
  cases hT with
  | @cons v1 _ _ _ hv1 hT =>
  cases hT with
  | @cons v2 _ _ _ hv2 hT =>
  cases hT
  obtain ⟨a1, rfl⟩ := tree_ref hv1
  intro dp un gd cn cs fa ccd A₀ h₀ L m s mean mg mb Q E B F X N Tp hk hd hu fin
  refine wpAny_call ?_
  w_strict (
    (refine' code_defS0 ?k1 ?k2 ?k3 ?k4 ?k5 ?kA ?k6 ?k7 ?k8 ?k9 ?kB ?_ ?cK ?c2 ?c3 ?c4 ?c5; (case kA => exact rfl); (case k2 => k_asm); (case k1 => k_asm); (case k3 => k_asm); (case k4 => k_asm); (case k5 => k_asm); (case k6 => k_is); (case k7 => k_is); (case k8 => k_room); (case k9 => exact BindsTo.of_eq rfl); (case kB => exact locs rfl); (case cK => assumption); (case c2 => exact rfl); (case c3 => exact rfl); (case c4 => exact rfl); (case c5 => decide); k_whole; intro g' L' h' FG' F' N' B' X' T' D'; (try dsimp only); (try k_lift B'); (try k_fold))
    k_steps)
  exact fin _ _ (by k_asm) (by k_asm)
end

section
-- RefL
theorem reset_RefL : True := by
  w_top off
  trivial
local macro_rules | `(tactic| lsm_bools) => `(tactic| first | exact List.Mem.head _ | assumption | (refine' List.Mem.tail _ ?_; lsm_bools) | (refine' GrowT.mem ?g ?h; (case g => assumption); (case h => lsm_bools)) | fail "no entry")
local macro_rules | `(tactic| k_mem) => `(tactic| first | lsm_bools | fail "no entry")
local macro_rules | `(tactic| tb_start) => `(tactic| first
  | exact List.forall_mem_nil _
  | (refine' List.forall_mem_cons.mpr ⟨?a, ?b⟩; (case a => lsm_bools); (case b => tb_start))
  | (intro p hp; repeat (first | exact hp | refine List.mem_cons_of_mem _ ?_ | refine List.Mem.tail _ ?_ | refine GrowT.mem' (by assumption) ?_ | refine GrowT.mem (by assumption) ?_ | fail "no entry"))
  | fail "not within")
local macro_rules | `(tactic| k_all) => `(tactic| first
  | assumption
  | (refine' GrowT.off ?g ?o ?N ?s ?m ?c; (case g => assumption); (case o => k_all); (case N => k_asm); (case s => tb_start); (case m => lsm_bools); (case c => rfl))
  | (refine' offLt ?h ?s; (case h => assumption); (case s => tb_start))
  | fail "not apart")
local macro_rules | `(tactic| k_lt $h:ident) => `(tactic| (have hl9 := $h; replace $h := allLt_of $h; simp only [AllLt, and_true] at $h:ident))
local macro_rules | `(tactic| kqd_sub) => `(tactic| first
  | (refine' Cut.own ?m ?r; (case m => lsm_bools); (case r => kqd_sub))
  | (refine' Cut.oth ?o ?r; (case o => k_all); (case r => kqd_sub))
  | exact Cut.tail
  | fail "no cut")
local macro_rules | `(tactic| ktr_rel) => `(tactic| first
  | exact subT_nil
  | exact subT_of (fun _ hp => hp)
  | assumption
  | (refine' subT_skip ?a ?b; (case a => rfl); (case b => ktr_rel))
  | (refine' subT_cons ?a ?b; (case a => lsm_bools); (case b => ktr_rel))
  | (refine' subT_of ?h; (case h => tb_start))
  | (refine' subT_app ?a ?b; (case a => ktr_rel); (case b => ktr_rel))
  | fail "tuples not within")
local macro_rules | `(tactic| k_room) => `(tactic| ktr_room)
local macro_rules | `(tactic| k_units) => `(tactic| ktr_units)
local macro_rules | `(tactic| tb_rel) => `(tactic| first
  | exact TAll.nil
  | exact TIn.str _ _
  | exact TIn.int _ _
  | exact TIn.bytes _ _
  | assumption
  | (refine' TIn.mono ?s ?h; (case h => assumption); (case s => ktr_rel))
  | (refine' TAll.mono ?s ?h; (case h => assumption); (case s => ktr_rel))
  | (refine' TIn.tuple ?m ?r; (case m => lsm_bools); (case r => tb_rel))
  | (refine' TAll.cons ?h ?t; (case h => tb_rel); (case t => tb_rel))
  | fail "no tree")
local macro_rules | `(tactic| walk_at "compareOp In str ref") => `(tactic| (k_here; k_dflt (refine' in_tupL ?ht ?hi ?_; (case ht => (refine' tupK ?X ?l; (case X => k_in); (case l => k_is))); (case hi => exact rfl))))
local macro_rules | `(tactic| walk_at "compareOp Eq ref ref") => `(tactic| (k_here; k_dflt (first
  | (refine' eq_dat (r := false) ?H ?d1 ?d2 ?hc ?hd ?hu ?_; (case H => exact heldOf (by k_asm)); (case d1 => tb_rel); (case d2 => tb_rel); (case hc => with_unfolding_all rfl); (case hd => exact Nat.le_of_ble_eq_true rfl); (case hu => ktr_units))
  | (refine' eq_dat (r := true) ?H ?d1 ?d2 ?hc ?hd ?hu ?_; (case H => exact heldOf (by k_asm)); (case d1 => tb_rel); (case d2 => tb_rel); (case hc => with_unfolding_all rfl); (case hd => exact Nat.le_of_ble_eq_true rfl); (case hu => ktr_units)))))
local macro_rules | `(tactic| walk_at "compareOp NotEq ref ref") => `(tactic| (k_here; k_dflt (first
  | (refine' ne_dat (r := false) ?H ?d1 ?d2 ?hc ?hd ?hu ?_; (case H => exact heldOf (by k_asm)); (case d1 => tb_rel); (case d2 => tb_rel); (case hc => with_unfolding_all rfl); (case hd => exact Nat.le_of_ble_eq_true rfl); (case hu => ktr_units))
  | (refine' ne_dat (r := true) ?H ?d1 ?d2 ?hc ?hd ?hu ?_; (case H => exact heldOf (by k_asm)); (case d1 => tb_rel); (case d2 => tb_rel); (case hc => with_unfolding_all rfl); (case hd => exact Nat.le_of_ble_eq_true rfl); (case hu => ktr_units)))))
local macro_rules | `(tactic| walk_at "subscriptTail Name Constant ref int") => `(tactic| (k_here; k_dflt (refine' item_tupleT ?t ?a ?b ?c ?d ?_; (case t => exact News.isTup (by k_asm) (by k_mem)); (case a => decide); (case b => decide); (case c => rfl); (case d => rfl); k_whole)))
local macro_rules | `(tactic| walk_at "ite") => `(tactic| (k_closed; k_dflt (first | (refine' ite_pos ?c ?_; (case c => decide)) | (refine' ite_neg ?c ?_; (case c => decide)))))
local macro_rules | `(tactic| walk_at "call type:range cons nil") => `(tactic| (k_here; k_dflt (refine' range1_rows ?F ?N ?_; (case F => k_asm); (case N => k_asm); k_whole; intro h' tk' t1' u1' v1' hR' F' N' hst'; (try k_fold))))
local macro_rules | `(tactic| walk_at "pyIter ref") => `(tactic| (k_here; (with_reducible show wpAny _ _ (pyIter (Value.ref _)) (fun it s₂ => LoopAtV _ _ _ _ _ _ _ _ _ it s₂) _ _); refine' Hold.of ?_))
local macro_rules | `(tactic| walk_at "binaryOp Add ref ref") => `(tactic| (k_here; k_dflt (refine' add_cat ?F ?N ?a ?b ?z ?_; (case F => k_asm); (case N => k_asm); (case a => lsm_bools); (case b => lsm_bools); (case z => (simp only [sizeLine_eq, List.length_cons, List.length_nil]; omega)); k_whole; intro D' h' F' N' l1; (try k_lt l1); (try k_sweep))))
local macro_rules | `(tactic| walk_at "subscriptTail Name Slice ref ref") => `(tactic| (k_here; k_dflt (first
  | (refine' slice_whole ?F ?N ?t ?l ?z ?_ ?hs ?hg; (case F => k_asm); (case N => k_asm); (case t => lsm_bools); (case l => exact Nat.le_of_ble_eq_true rfl); (case z => exact Nat.le_of_ble_eq_true rfl); (case hs => with_unfolding_all rfl); (case hg => (intro _; with_unfolding_all rfl)); k_whole; intro h' F' N'; (try k_sweep))
  | (refine' slice_upto ?F ?N ?t ?l ?z ?_ ?hs ?hg; (case F => k_asm); (case N => k_asm); (case t => lsm_bools); (case l => exact Nat.le_of_ble_eq_true rfl); (case z => exact Nat.le_of_ble_eq_true rfl); (case hs => with_unfolding_all rfl); (case hg => (intro _; with_unfolding_all rfl)); k_whole; intro D' h' F' N' l1; (try k_lt l1); (try k_sweep)))))
local macro_rules | `(tactic| walk_at "subscriptTail Name Slice ref ref") => `(tactic| (k_here; k_dflt
  (refine' slice_from ?F ?N ?t ?o ?l ?z ?_ ?hs ?hg; (case F => k_asm); (case N => k_asm); (case t => lsm_bools); (case o => exact Nat.le_of_ble_eq_true rfl); (case l => (simp only [List.length_cons]; omega)); (case z => (simp only [sizeLine_eq, List.length_cons]; omega)); (case hs => with_unfolding_all rfl); (case hg => (intro _; with_unfolding_all rfl)); k_whole; intro D' h' F' N' l1; (try k_lt l1); (try k_sweep))))
local macro_rules | `(tactic| walk_at "subscriptTail Subscript Name Constant Slice ref ref") => `(tactic| (k_here; k_dflt
  (refine' slice_from ?F ?N ?t ?o ?l ?z ?_ ?hs ?hg; (case F => k_asm); (case N => k_asm); (case t => lsm_bools); (case o => exact Nat.le_of_ble_eq_true rfl); (case l => (simp only [List.length_cons]; omega)); (case z => (simp only [sizeLine_eq, List.length_cons]; omega)); (case hs => with_unfolding_all rfl); (case hg => (intro _; with_unfolding_all rfl)); k_whole; intro D' h' F' N' l1; (try k_lt l1); (try k_sweep))))
local macro_rules | `(tactic| walk_at "call type:tuple cons nil") => `(tactic| (k_here; k_dflt (refine' tuple_of ?F ?N ?t ?z ?_; (case F => k_asm); (case N => k_asm); (case t => lsm_bools); (case z => first | exact Nat.le_of_ble_eq_true rfl | (simp only [sizeLine_eq, List.length_append, List.length_cons, List.length_nil]; omega)); k_whole; intro D' h' F' N' l1; (try k_lt l1); (try k_sweep))))
local macro_rules | `(tactic| walk_at "subscriptTail Name Constant ref int") => `(tactic| (k_here; k_dflt (refine' item_tupI ?N ?m ?a ?b ?c ?_; (case N => k_asm); (case m => lsm_bools); (case a => decide); (case b => decide); (case c => exact rfl); k_whole)))
local macro_rules | `(tactic| walk_at "subscriptTail Subscript Name Constant Constant ref int") => `(tactic| (k_here; k_dflt (refine' item_tupI ?N ?m ?a ?b ?c ?_; (case N => k_asm); (case m => lsm_bools); (case a => decide); (case b => decide); (case c => exact rfl); k_whole)))
local macro_rules | `(tactic| walk_at "subscriptTail Subscript Subscript Constant Constant ref int") => `(tactic| (k_here; k_dflt (refine' item_tupI ?N ?m ?a ?b ?c ?_; (case N => k_asm); (case m => lsm_bools); (case a => decide); (case b => decide); (case c => exact rfl); k_whole)))
local macro_rules | `(tactic| walk_at "subscriptTail Call Name cons nil Constant ref int") => `(tactic| (k_here; k_dflt (refine' item_tupI ?N ?m ?a ?b ?c ?_; (case N => k_asm); (case m => lsm_bools); (case a => decide); (case b => decide); (case c => exact rfl); k_whole)))
local macro_rules | `(tactic| walk_at "binaryOp Add ref ref") => `(tactic| (k_here; k_dflt (refine' add_tupC ?F ?N ?a ?b ?l1 ?l2 ?z ?_; (case F => k_asm); (case N => k_asm); (case a => lsm_bools); (case b => lsm_bools); (case l1 => (simp only [List.length_cons, List.length_nil]; omega)); (case l2 => omega); (case z => (simp only [sizeLine_eq, List.length_cons, List.length_nil]; omega)); k_whole; intro D' h' F' N' l1; (try k_lt l1); (try k_sweep))))
local macro_rules | `(tactic| walk_at "call type:tuple cons nil") => `(tactic| (k_here; k_dflt (refine' tuple_same ?N ?t ?_; (case N => k_asm); (case t => lsm_bools); k_whole)))
local macro_rules | `(tactic| walk_at "call builtin:len cons nil") => `(tactic| (k_here; k_dflt (refine' len_tupK ?N ?t ?z ?_; (case N => k_asm); (case t => lsm_bools); (case z => (simp only [sizeLine_eq, List.length_cons, List.length_nil]; omega)); k_whole; intro tk1' tk2')))
local macro_rules | `(tactic| walk_at "eval ListComp") => `(tactic| (k_here; refine' Hold.of ?_))
local macro_rules | `(tactic| walk_at "compareOp NotEq ref ref") => `(tactic| (k_here; k_dflt (refine' ne_dat (r := false) ?H ?d1 ?d2 ?hc ?hd ?hu ?_; (case H => exact heldOf (by k_asm)); (case d1 => tb_rel); (case d2 => tb_rel); (case hc => exact cmp_head (by assumption) _); (case hd => exact Nat.le_of_ble_eq_true rfl); (case hu => ktr_units))))
local macro_rules | `(tactic| walk_at "call ref") => `(tactic| (k_here; (with_reducible show wpAny _ _ (call (Value.ref 233) [_] _) _ _ _); k_dflt (refine' plain_use ?C ?ho ?hv ?B ?F ?X ?N ?T ?hk ?hc ?hd ?hu ?_; (case C => assumption); (case ho => assumption); (case hv => assumption); (case B => k_asm); (case F => k_asm); (case X => k_asm); (case N => k_asm); (case T => k_asm); (case hk => first | rfl | assumption); (case hc => kqd_sub); (case hd => ktr_room); (case hu => ktr_units); k_whole; intro r' Y' h' tk' g' F' N' hr'; (try simp only [List.cons_append, List.nil_append] at N'); (try k_fold))))
local macro_rules | `(tactic| walk_at "call ref") => `(tactic| (k_here; (with_reducible show wpAny _ _ (call (Value.ref 240) [_] _) _ _ _); k_dflt (refine' things_use ?C ?ho ?hv ?B ?F ?X ?N ?T ?hk ?hc ?hd ?hu ?_; (case C => assumption); (case ho => assumption); (case hv => assumption); (case B => k_asm); (case F => k_asm); (case X => k_asm); (case N => k_asm); (case T => k_asm); (case hk => first | rfl | assumption); (case hc => kqd_sub); (case hd => ktr_room); (case hu => ktr_units); k_whole; intro a' vs' k' Y' h' tk' g' F' N' hr' hrl'; (try simp only [List.cons_append, List.nil_append] at N'); (try k_fold))))
local macro_rules | `(tactic| walk_at "exec For Name Subscript") => `(tactic| (k_here; (rename Fr _ _ _ _ => lF'); (with_unfolding_all refine' For_invVF lF' ?k1 ?k2 ?_; (case k1 => exact rfl); (case k2 => exact rfl); k_whole)))
local macro_rules | `(tactic| walk_at "compareOp Eq ref ref") => `(tactic| (k_here; k_dflt (refine' eq_dat (r := false) ?H ?d1 ?d2 ?hc ?hd ?hu ?_; (case H => exact heldOf (by k_asm)); (case d1 => tb_rel); (case d2 => tb_rel); (case hc => exact cmp_head (by assumption) _); (case hd => exact Nat.le_of_ble_eq_true rfl); (case hu => ktr_units))))
local macro_rules | `(tactic| walk_at "compareOp Eq str str") => `(tactic| (k_here; k_dflt (refine' eq_str_no ?h ?_; (case h => assumption); k_whole)))
local macro_rules | `(tactic| ktr_enter) => `(tactic| (refine' code_defC ?k1 ?k2 ?k3 ?k4 ?k5 ?kA ?kF ?kK ?k6 ?k7 ?k8 ?k9 ?kB ?kD ?_ ?c2 ?c3 ?c4; (case kA => exact rfl); (case kF => exact rfl); (case kK => assumption); (case k1 => k_asm); (case k2 => k_asm); (case k3 => k_asm); (case k4 => k_asm); (case k5 => k_asm); (case k6 => k_is); (case k7 => k_is); (case k8 => ktr_room); (case k9 => exact BindsTo.of_eq rfl); (case kB => exact rfl); (case kD => decide +kernel); (case c2 => exact rfl); (case c3 => exact rfl); (case c4 => exact rfl); k_whole; intro g' L' h' tk' cells' FG' F' N' Y' B' X' T' l1; (try k_lt l1); k_cells Y'; (try simp only [List.cons_append, List.nil_append] at N'); (try dsimp only); (try k_fold)))
local macro_rules | `(tactic| walk_at "call ref") => `(tactic| (k_here; (with_reducible show wpAny _ _ (call (Value.ref 108) [Value.ref _, _] _) _ _ _); k_dflt (refine' fuse_use (f := 108) ?C ?ho ?hv ?hF ?hst ?hne ?hlen ?hm ?hc ?y1 ?y2 ?y3 ?B ?F ?X ?N ?T ?hk ?hd ?hu ?_; (case C => assumption); (case hv => assumption); (case ho => assumption); (case hF => assumption); (case hst => assumption); (case hne => assumption); (case hlen => first | assumption | omega); (case B => k_asm); (case F => k_asm); (case X => k_asm); (case N => k_asm); (case T => k_asm); (case hk => first | rfl | assumption); (case hm => tb_start); (case hc => kqd_sub); (case y1 => k_all); (case y2 => k_all); (case y3 => k_all); (case hd => ktr_room); (case hu => ktr_units); k_whole; intro r' t4' tk4' xs' n3' ys' n4' Y' h' tk' g' F' N' hst' hr'; (try simp only [List.cons_append, List.nil_append] at N'); (try k_fold))))
local macro_rules | `(tactic| walk_at "call ref") => `(tactic| (k_here; (with_reducible show wpAny _ _ (call (Value.ref 115) [Value.ref _, _] _) _ _ _); k_dflt (refine' fuse_use (f := 115) ?C ?ho ?hv ?hF ?hst ?hne ?hlen ?hm ?hc ?y1 ?y2 ?y3 ?B ?F ?X ?N ?T ?hk ?hd ?hu ?_; (case C => assumption); (case hv => assumption); (case ho => assumption); (case hF => assumption); (case hst => assumption); (case hne => assumption); (case hlen => first | assumption | omega); (case B => k_asm); (case F => k_asm); (case X => k_asm); (case N => k_asm); (case T => k_asm); (case hk => first | rfl | assumption); (case hm => tb_start); (case hc => kqd_sub); (case y1 => k_all); (case y2 => k_all); (case y3 => k_all); (case hd => ktr_room); (case hu => ktr_units); k_whole; intro r' t4' tk4' xs' n3' ys' n4' Y' h' tk' g' F' N' hst' hr'; (try simp only [List.cons_append, List.nil_append] at N'); (try k_fold))))
local macro_rules | `(tactic| walk_at "call ref") => `(tactic| (k_here; (with_reducible show wpAny _ _ (call (Value.ref 120) [Value.ref _, _] _) _ _ _); k_dflt (refine' fuse_use (f := 120) ?C ?ho ?hv ?hF ?hst ?hne ?hlen ?hm ?hc ?y1 ?y2 ?y3 ?B ?F ?X ?N ?T ?hk ?hd ?hu ?_; (case C => assumption); (case hv => assumption); (case ho => assumption); (case hF => assumption); (case hst => assumption); (case hne => assumption); (case hlen => first | assumption | omega); (case B => k_asm); (case F => k_asm); (case X => k_asm); (case N => k_asm); (case T => k_asm); (case hk => first | rfl | assumption); (case hm => tb_start); (case hc => kqd_sub); (case y1 => k_all); (case y2 => k_all); (case y3 => k_all); (case hd => ktr_room); (case hu => ktr_units); k_whole; intro r' t4' tk4' xs' n3' ys' n4' Y' h' tk' g' F' N' hst' hr'; (try simp only [List.cons_append, List.nil_append] at N'); (try k_fold))))
local macro_rules | `(tactic| walk_at "call ref") => `(tactic| (k_here; (with_reducible show wpAny _ _ (call (Value.ref 68) [_, Value.str _ _] _) _ _ _); k_dflt (refine' isEx_use ?C ?hv ?e ?B ?F ?X ?N ?T ?hk ?hs ?hd ?hu ?_; (case C => exact isEx_con _); (case hv => assumption); (case e => first | rfl | assumption); (case B => k_asm); (case F => k_asm); (case X => k_asm); (case N => k_asm); (case T => k_asm); (case hk => first | rfl | assumption); (case hs => tb_start); (case hd => ktr_room); (case hu => ktr_units); k_whole; intro h' tk' F' N'; (try k_fold))))
local macro_rules | `(tactic| walk_at "eval Call Name cons nil") => `(tactic| (k_here; refine Call_ ?_))
local macro_rules | `(tactic| k_all) => `(tactic| first
  | assumption
  | (refine' GrowT.off ?g ?o ?N ?s ?m ?c; (case g => assumption); (case o => k_all); (case N => k_asm); (case s => tb_start); (case m => lsm_bools); (case c => rfl))
  | (refine' offLt ?h ?s; (case h => assumption); (case s => tb_start))
  | exact List.forall_mem_nil _
  | (refine' List.forall_mem_cons.mpr ⟨?a, ?b⟩; (case a => first | exact adr_ne (by omega) | (refine' apart_of ?N ?p ?q ?e; (case N => k_asm); (case p => lsm_bools); (case q => lsm_bools); (case e => rfl))); (case b => k_all))
  | fail "not apart")
local macro_rules | `(tactic| walk_at "call ref") => `(tactic| (k_here; (with_reducible show wpAny _ _ (call (Value.ref 120) [Value.ref _, _] _) _ _ _); k_dflt (refine' fuse_useE ?C ?ho ?hv ?hlen ?hF ?e1 ?e2 ?hne ?hm ?hc ?y1 ?y2 ?y3 ?B ?F ?X ?N ?T ?hk ?hd ?hu ?_; (case C => assumption); (case hv => assumption); (case ho => assumption); (case hlen => assumption); (case N => k_asm); (case hF => refine' ⟨?f1, ⟨_, _, _, ?f2⟩, ?f3⟩; (case f1 => lsm_bools); (case f2 => lsm_bools); (case f3 => lsm_bools)); (case hm => tb_start); (case e1 => rfl); (case e2 => rfl); (case hne => exact adr_ne (by omega)); (case hc => kqd_sub); (case B => k_asm); (case F => k_asm); (case X => k_asm); (case T => k_asm); (case hk => first | rfl | assumption); (case y1 => k_all); (case y2 => k_all); (case y3 => k_all); (case hd => ktr_room); (case hu => ktr_units); k_whole; intro r' t4' tk4' nvs' n3' lvs' n4' Y' h' tk' g' F' N' ln' ll' hn' hl' hr'; (try simp only [List.cons_append, List.nil_append] at N'); (try k_fold))))
local macro_rules | `(tactic| walk_at "call ref") => `(tactic| (k_here; (with_reducible show wpAny _ _ (call (Value.ref 151) [Value.ref _, _] _) _ _ _); k_dflt (refine' fo_use ?C ?hn ?hm ?hN ?hv ?B ?F ?X ?N ?T ?hk ?hd ?hu ?_; (case C => assumption); (case N => k_asm); (case hm => lsm_bools); (case hN => (refine' TAll.mono ?s ?h; (case h => assumption); (case s => exact subT_of (by tb_start)))); (case hv => (refine' TIn.mono ?s ?h; (case h => assumption); (case s => exact subT_of (by tb_start)))); (case hn => omega); (case B => k_asm); (case F => k_asm); (case X => k_asm); (case T => k_asm); (case hk => first | rfl | assumption); (case hd => ktr_room); (case hu => ktr_units); k_whole; intro r' Y' h' tk' g' F' N' hr'; (try simp only [List.cons_append, List.nil_append] at N'); (try k_fold))))
local macro_rules | `(tactic| walk_at "binaryOp Add ref ref") => `(tactic| (k_here; k_dflt (refine' add_tupE ?F ?N ?a ?b ?l1 ?z ?_; (case F => k_asm); (case N => k_asm); (case a => lsm_bools); (case b => lsm_bools); (case l1 => (simp only [List.length_cons, List.length_nil]; omega)); (case z => (simp only [sizeLine_eq, List.length_cons, List.length_nil]; omega)); k_whole; intro D' n' h' F' N'; (try k_sweep))))
local macro_rules | `(tactic| walk_at "compareOp NotEq ref ref") => `(tactic| (k_here; k_dflt (first
  | (refine' ne_nn ?N ?h1 ?h2 ?hu ?_; (case N => k_asm); (case h1 => lsm_bools); (case h2 => lsm_bools); (case hu => ktr_units); k_whole)
  | (refine' ne_cn ?N ?h1 ?h2 ?d1 ?ok ?hu ?_; (case N => k_asm); (case h1 => lsm_bools); (case h2 => lsm_bools); (case d1 => tb_rel); (case ok => decide +kernel); (case hu => ktr_units); k_whole))))
local macro_rules | `(tactic| walk_at "compareOp Eq ref ref") => `(tactic| (k_here; k_dflt (first
  | (refine' eq_dat (r := false) ?H ?d1 ?d2 ?hc ?hd ?hu ?_; (case H => exact heldOf (by k_asm)); (case d1 => tb_rel); (case d2 => (show TIn _ _ (symD _); tb_rel)); (case hc => with_unfolding_all rfl); (case hd => exact Nat.le_of_ble_eq_true rfl); (case hu => ktr_units))
  | (refine' eq_dat (r := true) ?H ?d1 ?d2 ?hc ?hd ?hu ?_; (case H => exact heldOf (by k_asm)); (case d1 => tb_rel); (case d2 => (show TIn _ _ (symD _); tb_rel)); (case hc => with_unfolding_all rfl); (case hd => exact Nat.le_of_ble_eq_true rfl); (case hu => ktr_units)))))
local macro_rules | `(tactic| walk_at "call builtin:list.extend") => `(tactic| (k_here; k_dflt (refine' ext_nilT ?F ?N ?b ?U ?z ?_; (case F => k_asm); (case N => k_asm); (case b => lsm_bools); (case U => k_upd); (case z => exact Nat.le_of_ble_eq_true rfl)); intro h' F' N'; (try dsimp only at N'); (try k_sweep)))
local macro_rules | `(tactic| walk_at "call ref") => `(tactic| (k_here; (with_reducible show wpAny _ _ (call (Value.ref 141) [_] _) _ _ _); k_dflt (refine' mend_use ?C ?hv ?B ?F ?X ?N ?T ?hk ?hd ?hu ?_; (case N => k_asm); (case hv => (refine' TIn.mono ?s ?h; (case h => assumption); (case s => exact subT_of (by tb_start)))); (case C => assumption); (case B => k_asm); (case F => k_asm); (case X => k_asm); (case T => k_asm); (case hk => first | rfl | assumption); (case hd => ktr_room); (case hu => ktr_units); k_whole; intro Y' h' tk' g' F' N'; (try k_fold))))
local macro_rules | `(tactic| walk_at "subscriptTail Subscript Name Constant Slice ref ref") => `(tactic| (k_here; k_dflt
  (refine' slice_from ?F ?N ?t ?o ?l ?z ?_ ?hs ?hg; (case F => k_asm); (case N => k_asm); (case t => lsm_bools); (case o => exact Nat.le_of_ble_eq_true rfl); (case l => exact Nat.le_of_ble_eq_true rfl); (case z => exact Nat.le_of_ble_eq_true rfl); (case hs => with_unfolding_all rfl); (case hg => (intro _; with_unfolding_all rfl)); k_whole; intro D' h' F' N' l1; (try k_lt l1); (try k_sweep))))
local macro_rules | `(tactic| walk_at "subscriptTail Name Slice ref ref") => `(tactic| (k_here; k_dflt
  (refine' slice_from ?F ?N ?t ?o ?l ?z ?_ ?hs ?hg; (case F => k_asm); (case N => k_asm); (case t => lsm_bools); (case o => exact Nat.le_of_ble_eq_true rfl); (case l => exact Nat.le_of_ble_eq_true rfl); (case z => exact Nat.le_of_ble_eq_true rfl); (case hs => with_unfolding_all rfl); (case hg => (intro _; with_unfolding_all rfl)); k_whole; intro D' h' F' N' l1; (try k_lt l1); (try k_sweep))))
local macro_rules | `(tactic| walk_at "call ref") => `(tactic| (k_here; (with_reducible show wpAny _ _ (call (Value.ref 146) [_] _) _ _ _); k_dflt (refine' goal_use ?C ?hv ?B ?F ?X ?N ?T ?hk ?hd ?hu ?_; (case C => assumption); (case N => k_asm); (case hv => (refine' TIn.mono ?s ?h; (case h => assumption); (case s => exact subT_of (by tb_start)))); (case B => k_asm); (case F => k_asm); (case X => k_asm); (case T => k_asm); (case hk => first | rfl | assumption); (case hd => ktr_room); (case hu => ktr_units); k_whole; intro r' Y' h' tk' g' F' N' hr'; (try k_fold))))
local macro_rules | `(tactic| walk_at "compareOp NotEq int int") => `(tactic| (k_here; k_dflt (refine' ne_int_same ?e ?_; (case e => rfl); k_whole)))
local macro_rules | `(tactic| walk_at "call ref") => `(tactic| (k_here; (with_reducible show wpAny _ _ (call (Value.ref 45) _) _ _ _); k_dflt (refine' call_fault ?X ?F ?N ?z ?_; (case F => k_asm); (case N => k_asm); (case X => k_in); (case z => exact Nat.le_of_ble_eq_true rfl); k_whole; intro e' t' h' F' N' l1 l2; (try k_lt l1); (try k_lt l2); (try k_sweep); refine wpAny_call ?_; first | k_enter | kdv_enter | kdv_enterE | refine' Hold.of ?_)))
local macro_rules | `(tactic| walk_at "exec Raise some none") => `(tactic| (k_here; k_dflt (refine' Raise_fault ?hh ?_; (case hh => first | rfl | assumption))))
local macro_rules | `(tactic| walk_at "Faulty") => `(tactic| (refine' faulty_of ?X ?F ?N ?he ?h1 ?_; (case F => k_asm); (case N => k_asm); (case X => k_in); (case he => lsm_bools); (case h1 => rfl); k_whole))
local macro_rules | `(tactic| walk_at "leaving ref") => `(tactic| (k_here; first
  | (refine' leave_on ?K ?F ?R ?U ?_ ?hf; (case R => assumption); (case hf => exact rfl); (case K => assumption); (case U => assumption); (case F => assumption); k_whole; intro h' R' U'; (try dsimp only at R' U' ⊢))
  | (refine' leave_fault ?K ?F ?N ?kp ?he ?hc ?hd ?h1 ?h0 ?ht ?hs ?hn ?hn2 ?_ ?hf ?hk; (case hf => exact rfl); (case hk => exact rfl); (case K => assumption); (case F => k_asm); (case N => k_asm); (case kp => assumption); (case he => lsm_bools); (case hc => rfl); (case hd => rfl); (case h1 => rfl); (case h0 => rfl); (case ht => lsm_bools); (case hs => tb_start); (case hn => k_all); (case hn2 => k_all); k_whole; intro h' R' U'; (try dsimp only at R' U' ⊢))))
local macro_rules | `(tactic| walk_at "noteFrame ref") => `(tactic| (k_here; (refine' caught_SO0 (KF := hd.heap_39 _) ?R ?F ?K ?U ?XB ?TB ?D ?T0 ?ex ?q ?_; (case R => assumption); (case F => assumption); (case K => assumption); (case U => assumption); (case XB => assumption); (case TB => assumption); (case D => assumption); (case T0 => first | assumption | exact KtsTurn.refl); (case ex => k_is); (case q => first | k_is | kernel_rfl); k_whole; intro h' g' n' T' F' N' G' M' K' X' P' D')))
local macro_rules | `(tactic| walk_at "compareOp Gt int int") => `(tactic| (k_here; k_dflt (refine' gt_yes ?e ?_; (case e => rfl); k_whole)))
local macro_rules | `(tactic| walk_at "getMethod type:Exception") => `(tactic| (k_here; refine' method_type ?F ?X ?m (by decide +kernel) ?e ?h ?_; (case F => k_asm); (case X => k_asm); (case m => first | rfl | kernel_rfl); (case e => k_dflt k_is); (case h => k_handed)))
local macro_rules | `(tactic| walk_at "call builtin:Exception.__init__") => `(tactic| (k_here; (refine' exc_init ?F ?N ?X ?off ?z ?_; (case F => k_asm); (case N => k_asm); (case X => k_in); (case off => k_all); (case z => exact Nat.le_of_ble_eq_true rfl); k_whole; intro t' h' F' N' l1; (try k_lt l1); (try k_sweep))))
local macro_rules | `(tactic| walk_at "setAttr ref") => `(tactic| (k_here; k_dflt (first
  | (refine' set_first' ?F ?N ?X ?ha ?off ?ot ?_; (case F => k_asm); (case N => k_asm); (case X => k_in); (case ha => k_is); (case off => k_all); (case ot => exact adr_ne (by omega)); k_whole; intro d' h' F' N' l1; (try k_lt l1); (try k_sweep))
  | (refine' set_next' ?F ?N ?X ?off ?_; (case F => k_asm); (case N => k_asm); (case X => k_in); (case off => k_all); k_whole; intro h' F' N'; (try k_sweep)))))
open LCg LCt
set_option maxHeartbeats 8000000 in
theorem refused_last (w : World) (nn : Nat) (hnn : nn ≤ 3) (BC : FuseC w 120 (30 + 8 * nn) (160 + 60 * nn) (TreeOk nn) thingsT bodyT) (M1 : MendC w (tS "end") true) (t : T) (hto : TreeOk nn t) : RefC w (tE ".=" [tE "ref" [tS "y", tS "end"], t]) := by
  intro tv Y htv
  have hkeep : KeepIs Y := trivial
  have hth : (thingsT t).length ≤ 40 := Nat.le_trans (things_len nn t hto) (cntB_le hnn)
  have he1 : isEx (tE ".=" [tE "ref" [tS "y", tS "end"], t]) (kS "dotcall") = false := beq_eq_false_iff_ne.mpr (by decide)
  have he2 : isEx (tE ".=" [tE "ref" [tS "y", tS "end"], t]) (kS ".=") = true := by simp [isEx]
  have he3 : isEx (tE "ref" [tS "y", tS "end"]) (kS "ref") = true := by simp [isEx]
  obtain ⟨a, n, t1, t2, b, vs, k, rfl, hm, hm2, hT⟩ := ex_inv htv
  cases hT with
  | @cons v0 _ _ _ hv0 hT =>
  cases hT with
  | @cons v1 _ _ _ hv1 hT =>
  cases hT
  obtain ⟨a1, rfl⟩ := tree_ref hv1
  obtain ⟨a0, n0, t3, t4, b0, vs0, k0, rfl, hm3, hm4, hT0⟩ := ex_inv hv0
  cases hT0 with
  | @cons u0 _ _ _ hu0 hT0 =>
  cases hT0 with
  | @cons u1 _ _ _ hu1 hT0 =>
  cases hT0
  intro dp un gd cn cs fa ccd A₀ h₀ L m s mean mg mb Q E B F X N Tp hk hd hu fin
  refine wpAny_call ?_
  w_strict (
    (refine' code_defS0 ?k1 ?k2 ?k3 ?k4 ?k5 ?kA ?k6 ?k7 ?k8 ?k9 ?kB ?_ ?cK ?c2 ?c3 ?c4 ?c5; (case kA => exact rfl); (case k2 => k_asm); (case k1 => k_asm); (case k3 => k_asm); (case k4 => k_asm); (case k5 => k_asm); (case k6 => k_is); (case k7 => k_is); (case k8 => k_room); (case k9 => exact BindsTo.of_eq rfl); (case kB => exact locs rfl); (case cK => assumption); (case c2 => exact rfl); (case c3 => exact rfl); (case c4 => exact rfl); (case c5 => decide); k_whole; intro g' L' h' FG' F' N' B' X' T' D'; (try dsimp only); (try k_lift B'); (try k_fold))
    k_steps)
  unfold Hold
  rename Fr _ _ _ _ => F1
  refine' comp_tup_if F1 ?hclos ?hcell ?hkind ?hnames ?hx ?h ?hs
  case hclos => with_unfolding_all rfl
  case hcell => decide
  case hkind => rfl
  case hnames => decide
  case hx => rfl
  case hs => (intro _; with_unfolding_all rfl)
  case h =>
    w_strict (
      k_steps)
    refine' ifsrc (vs := [u1]) ?hh ?F ?N ?hm ?hz fun g9 => ?R
    case hh => rfl
    case F => k_asm
    case N => k_asm
    case hm => lsm_bools
    case hz => exact Nat.le_of_ble_eq_true rfl
    case R =>
      refine CompRestT.succ (k := 0) ?_
      intro v I oI C oC D m₂ h tk E' hP hoC hx F' N' off ne
      obtain rfl : u1 = v := by simpa using hP
      have off' := off
      simp only [LCg.Off3] at off'
      k_sweep
      w_strict (
        k_steps)
      refine' turn_end ?F ?N (fun p hp => GrowT.mem' (by assumption) hp) off ?S ?_
      case F => k_asm
      case N => k_asm
      case S => exact List.Mem.head _
      clear off' off ne F' N' hoC hx hP
      refine CompRestT.zero ?_
      intro D h tk F' N' o1
      have o1' := o1
      simp only [LCg.Off1] at o1'
      k_sweep
      w_strict (
        k_steps)
      exact fin _ _ (by k_asm) (by k_asm)
end

section
-- RefS
theorem reset_RefS : True := by
  w_top off
  trivial
local macro_rules | `(tactic| lsm_bools) => `(tactic| first | exact List.Mem.head _ | assumption | (refine' List.Mem.tail _ ?_; lsm_bools) | (refine' GrowT.mem ?g ?h; (case g => assumption); (case h => lsm_bools)) | fail "no entry")
local macro_rules | `(tactic| k_mem) => `(tactic| first | lsm_bools | fail "no entry")
local macro_rules | `(tactic| tb_start) => `(tactic| first
  | exact List.forall_mem_nil _
  | (refine' List.forall_mem_cons.mpr ⟨?a, ?b⟩; (case a => lsm_bools); (case b => tb_start))
  | (intro p hp; repeat (first | exact hp | refine List.mem_cons_of_mem _ ?_ | refine List.Mem.tail _ ?_ | refine GrowT.mem' (by assumption) ?_ | refine GrowT.mem (by assumption) ?_ | fail "no entry"))
  | fail "not within")
local macro_rules | `(tactic| k_all) => `(tactic| first
  | assumption
  | (refine' GrowT.off ?g ?o ?N ?s ?m ?c; (case g => assumption); (case o => k_all); (case N => k_asm); (case s => tb_start); (case m => lsm_bools); (case c => rfl))
  | (refine' offLt ?h ?s; (case h => assumption); (case s => tb_start))
  | fail "not apart")
local macro_rules | `(tactic| k_lt $h:ident) => `(tactic| (have hl9 := $h; replace $h := allLt_of $h; simp only [AllLt, and_true] at $h:ident))
local macro_rules | `(tactic| kqd_sub) => `(tactic| first
  | (refine' Cut.own ?m ?r; (case m => lsm_bools); (case r => kqd_sub))
  | (refine' Cut.oth ?o ?r; (case o => k_all); (case r => kqd_sub))
  | exact Cut.tail
  | fail "no cut")
local macro_rules | `(tactic| ktr_rel) => `(tactic| first
  | exact subT_nil
  | exact subT_of (fun _ hp => hp)
  | assumption
  | (refine' subT_skip ?a ?b; (case a => rfl); (case b => ktr_rel))
  | (refine' subT_cons ?a ?b; (case a => lsm_bools); (case b => ktr_rel))
  | (refine' subT_of ?h; (case h => tb_start))
  | (refine' subT_app ?a ?b; (case a => ktr_rel); (case b => ktr_rel))
  | fail "tuples not within")
local macro_rules | `(tactic| k_room) => `(tactic| ktr_room)
local macro_rules | `(tactic| k_units) => `(tactic| ktr_units)
local macro_rules | `(tactic| tb_rel) => `(tactic| first
  | exact TAll.nil
  | exact TIn.str _ _
  | exact TIn.int _ _
  | exact TIn.bytes _ _
  | assumption
  | (refine' TIn.mono ?s ?h; (case h => assumption); (case s => ktr_rel))
  | (refine' TAll.mono ?s ?h; (case h => assumption); (case s => ktr_rel))
  | (refine' TIn.tuple ?m ?r; (case m => lsm_bools); (case r => tb_rel))
  | (refine' TAll.cons ?h ?t; (case h => tb_rel); (case t => tb_rel))
  | fail "no tree")
local macro_rules | `(tactic| walk_at "compareOp In str ref") => `(tactic| (k_here; k_dflt (refine' in_tupL ?ht ?hi ?_; (case ht => (refine' tupK ?X ?l; (case X => k_in); (case l => k_is))); (case hi => exact rfl))))
local macro_rules | `(tactic| walk_at "compareOp Eq ref ref") => `(tactic| (k_here; k_dflt (first
  | (refine' eq_dat (r := false) ?H ?d1 ?d2 ?hc ?hd ?hu ?_; (case H => exact heldOf (by k_asm)); (case d1 => tb_rel); (case d2 => tb_rel); (case hc => with_unfolding_all rfl); (case hd => exact Nat.le_of_ble_eq_true rfl); (case hu => ktr_units))
  | (refine' eq_dat (r := true) ?H ?d1 ?d2 ?hc ?hd ?hu ?_; (case H => exact heldOf (by k_asm)); (case d1 => tb_rel); (case d2 => tb_rel); (case hc => with_unfolding_all rfl); (case hd => exact Nat.le_of_ble_eq_true rfl); (case hu => ktr_units)))))
local macro_rules | `(tactic| walk_at "compareOp NotEq ref ref") => `(tactic| (k_here; k_dflt (first
  | (refine' ne_dat (r := false) ?H ?d1 ?d2 ?hc ?hd ?hu ?_; (case H => exact heldOf (by k_asm)); (case d1 => tb_rel); (case d2 => tb_rel); (case hc => with_unfolding_all rfl); (case hd => exact Nat.le_of_ble_eq_true rfl); (case hu => ktr_units))
  | (refine' ne_dat (r := true) ?H ?d1 ?d2 ?hc ?hd ?hu ?_; (case H => exact heldOf (by k_asm)); (case d1 => tb_rel); (case d2 => tb_rel); (case hc => with_unfolding_all rfl); (case hd => exact Nat.le_of_ble_eq_true rfl); (case hu => ktr_units)))))
local macro_rules | `(tactic| walk_at "subscriptTail Name Constant ref int") => `(tactic| (k_here; k_dflt (refine' item_tupleT ?t ?a ?b ?c ?d ?_; (case t => exact News.isTup (by k_asm) (by k_mem)); (case a => decide); (case b => decide); (case c => rfl); (case d => rfl); k_whole)))
local macro_rules | `(tactic| walk_at "ite") => `(tactic| (k_closed; k_dflt (first | (refine' ite_pos ?c ?_; (case c => decide)) | (refine' ite_neg ?c ?_; (case c => decide)))))
local macro_rules | `(tactic| walk_at "call type:range cons nil") => `(tactic| (k_here; k_dflt (refine' range1_rows ?F ?N ?_; (case F => k_asm); (case N => k_asm); k_whole; intro h' tk' t1' u1' v1' hR' F' N' hst'; (try k_fold))))
local macro_rules | `(tactic| walk_at "pyIter ref") => `(tactic| (k_here; (with_reducible show wpAny _ _ (pyIter (Value.ref _)) (fun it s₂ => LoopAtV _ _ _ _ _ _ _ _ _ it s₂) _ _); refine' Hold.of ?_))
local macro_rules | `(tactic| walk_at "binaryOp Add ref ref") => `(tactic| (k_here; k_dflt (refine' add_cat ?F ?N ?a ?b ?z ?_; (case F => k_asm); (case N => k_asm); (case a => lsm_bools); (case b => lsm_bools); (case z => (simp only [sizeLine_eq, List.length_cons, List.length_nil]; omega)); k_whole; intro D' h' F' N' l1; (try k_lt l1); (try k_sweep))))
local macro_rules | `(tactic| walk_at "subscriptTail Name Slice ref ref") => `(tactic| (k_here; k_dflt (first
  | (refine' slice_whole ?F ?N ?t ?l ?z ?_ ?hs ?hg; (case F => k_asm); (case N => k_asm); (case t => lsm_bools); (case l => exact Nat.le_of_ble_eq_true rfl); (case z => exact Nat.le_of_ble_eq_true rfl); (case hs => with_unfolding_all rfl); (case hg => (intro _; with_unfolding_all rfl)); k_whole; intro h' F' N'; (try k_sweep))
  | (refine' slice_upto ?F ?N ?t ?l ?z ?_ ?hs ?hg; (case F => k_asm); (case N => k_asm); (case t => lsm_bools); (case l => exact Nat.le_of_ble_eq_true rfl); (case z => exact Nat.le_of_ble_eq_true rfl); (case hs => with_unfolding_all rfl); (case hg => (intro _; with_unfolding_all rfl)); k_whole; intro D' h' F' N' l1; (try k_lt l1); (try k_sweep)))))
local macro_rules | `(tactic| walk_at "subscriptTail Name Slice ref ref") => `(tactic| (k_here; k_dflt
  (refine' slice_from ?F ?N ?t ?o ?l ?z ?_ ?hs ?hg; (case F => k_asm); (case N => k_asm); (case t => lsm_bools); (case o => exact Nat.le_of_ble_eq_true rfl); (case l => (simp only [List.length_cons]; omega)); (case z => (simp only [sizeLine_eq, List.length_cons]; omega)); (case hs => with_unfolding_all rfl); (case hg => (intro _; with_unfolding_all rfl)); k_whole; intro D' h' F' N' l1; (try k_lt l1); (try k_sweep))))
local macro_rules | `(tactic| walk_at "subscriptTail Subscript Name Constant Slice ref ref") => `(tactic| (k_here; k_dflt
  (refine' slice_from ?F ?N ?t ?o ?l ?z ?_ ?hs ?hg; (case F => k_asm); (case N => k_asm); (case t => lsm_bools); (case o => exact Nat.le_of_ble_eq_true rfl); (case l => (simp only [List.length_cons]; omega)); (case z => (simp only [sizeLine_eq, List.length_cons]; omega)); (case hs => with_unfolding_all rfl); (case hg => (intro _; with_unfolding_all rfl)); k_whole; intro D' h' F' N' l1; (try k_lt l1); (try k_sweep))))
local macro_rules | `(tactic| walk_at "call type:tuple cons nil") => `(tactic| (k_here; k_dflt (refine' tuple_of ?F ?N ?t ?z ?_; (case F => k_asm); (case N => k_asm); (case t => lsm_bools); (case z => first | exact Nat.le_of_ble_eq_true rfl | (simp only [sizeLine_eq, List.length_append, List.length_cons, List.length_nil]; omega)); k_whole; intro D' h' F' N' l1; (try k_lt l1); (try k_sweep))))
local macro_rules | `(tactic| walk_at "subscriptTail Name Constant ref int") => `(tactic| (k_here; k_dflt (refine' item_tupI ?N ?m ?a ?b ?c ?_; (case N => k_asm); (case m => lsm_bools); (case a => decide); (case b => decide); (case c => exact rfl); k_whole)))
local macro_rules | `(tactic| walk_at "subscriptTail Subscript Name Constant Constant ref int") => `(tactic| (k_here; k_dflt (refine' item_tupI ?N ?m ?a ?b ?c ?_; (case N => k_asm); (case m => lsm_bools); (case a => decide); (case b => decide); (case c => exact rfl); k_whole)))
local macro_rules | `(tactic| walk_at "subscriptTail Subscript Subscript Constant Constant ref int") => `(tactic| (k_here; k_dflt (refine' item_tupI ?N ?m ?a ?b ?c ?_; (case N => k_asm); (case m => lsm_bools); (case a => decide); (case b => decide); (case c => exact rfl); k_whole)))
local macro_rules | `(tactic| walk_at "subscriptTail Call Name cons nil Constant ref int") => `(tactic| (k_here; k_dflt (refine' item_tupI ?N ?m ?a ?b ?c ?_; (case N => k_asm); (case m => lsm_bools); (case a => decide); (case b => decide); (case c => exact rfl); k_whole)))
local macro_rules | `(tactic| walk_at "binaryOp Add ref ref") => `(tactic| (k_here; k_dflt (refine' add_tupC ?F ?N ?a ?b ?l1 ?l2 ?z ?_; (case F => k_asm); (case N => k_asm); (case a => lsm_bools); (case b => lsm_bools); (case l1 => (simp only [List.length_cons, List.length_nil]; omega)); (case l2 => omega); (case z => (simp only [sizeLine_eq, List.length_cons, List.length_nil]; omega)); k_whole; intro D' h' F' N' l1; (try k_lt l1); (try k_sweep))))
local macro_rules | `(tactic| walk_at "call type:tuple cons nil") => `(tactic| (k_here; k_dflt (refine' tuple_same ?N ?t ?_; (case N => k_asm); (case t => lsm_bools); k_whole)))
local macro_rules | `(tactic| walk_at "call builtin:len cons nil") => `(tactic| (k_here; k_dflt (refine' len_tupK ?N ?t ?z ?_; (case N => k_asm); (case t => lsm_bools); (case z => (simp only [sizeLine_eq, List.length_cons, List.length_nil]; omega)); k_whole; intro tk1' tk2')))
local macro_rules | `(tactic| walk_at "eval ListComp") => `(tactic| (k_here; refine' Hold.of ?_))
local macro_rules | `(tactic| walk_at "compareOp NotEq ref ref") => `(tactic| (k_here; k_dflt (refine' ne_dat (r := false) ?H ?d1 ?d2 ?hc ?hd ?hu ?_; (case H => exact heldOf (by k_asm)); (case d1 => tb_rel); (case d2 => tb_rel); (case hc => exact cmp_head (by assumption) _); (case hd => exact Nat.le_of_ble_eq_true rfl); (case hu => ktr_units))))
local macro_rules | `(tactic| walk_at "call ref") => `(tactic| (k_here; (with_reducible show wpAny _ _ (call (Value.ref 233) [_] _) _ _ _); k_dflt (refine' plain_use ?C ?ho ?hv ?B ?F ?X ?N ?T ?hk ?hc ?hd ?hu ?_; (case C => assumption); (case ho => assumption); (case hv => assumption); (case B => k_asm); (case F => k_asm); (case X => k_asm); (case N => k_asm); (case T => k_asm); (case hk => first | rfl | assumption); (case hc => kqd_sub); (case hd => ktr_room); (case hu => ktr_units); k_whole; intro r' Y' h' tk' g' F' N' hr'; (try simp only [List.cons_append, List.nil_append] at N'); (try k_fold))))
local macro_rules | `(tactic| walk_at "call ref") => `(tactic| (k_here; (with_reducible show wpAny _ _ (call (Value.ref 240) [_] _) _ _ _); k_dflt (refine' things_use ?C ?ho ?hv ?B ?F ?X ?N ?T ?hk ?hc ?hd ?hu ?_; (case C => assumption); (case ho => assumption); (case hv => assumption); (case B => k_asm); (case F => k_asm); (case X => k_asm); (case N => k_asm); (case T => k_asm); (case hk => first | rfl | assumption); (case hc => kqd_sub); (case hd => ktr_room); (case hu => ktr_units); k_whole; intro a' vs' k' Y' h' tk' g' F' N' hr' hrl'; (try simp only [List.cons_append, List.nil_append] at N'); (try k_fold))))
local macro_rules | `(tactic| walk_at "exec For Name Subscript") => `(tactic| (k_here; (rename Fr _ _ _ _ => lF'); (with_unfolding_all refine' For_invVF lF' ?k1 ?k2 ?_; (case k1 => exact rfl); (case k2 => exact rfl); k_whole)))
local macro_rules | `(tactic| walk_at "compareOp Eq ref ref") => `(tactic| (k_here; k_dflt (refine' eq_dat (r := false) ?H ?d1 ?d2 ?hc ?hd ?hu ?_; (case H => exact heldOf (by k_asm)); (case d1 => tb_rel); (case d2 => tb_rel); (case hc => exact cmp_head (by assumption) _); (case hd => exact Nat.le_of_ble_eq_true rfl); (case hu => ktr_units))))
local macro_rules | `(tactic| walk_at "compareOp Eq str str") => `(tactic| (k_here; k_dflt (refine' eq_str_no ?h ?_; (case h => assumption); k_whole)))
local macro_rules | `(tactic| ktr_enter) => `(tactic| (refine' code_defC ?k1 ?k2 ?k3 ?k4 ?k5 ?kA ?kF ?kK ?k6 ?k7 ?k8 ?k9 ?kB ?kD ?_ ?c2 ?c3 ?c4; (case kA => exact rfl); (case kF => exact rfl); (case kK => assumption); (case k1 => k_asm); (case k2 => k_asm); (case k3 => k_asm); (case k4 => k_asm); (case k5 => k_asm); (case k6 => k_is); (case k7 => k_is); (case k8 => ktr_room); (case k9 => exact BindsTo.of_eq rfl); (case kB => exact rfl); (case kD => decide +kernel); (case c2 => exact rfl); (case c3 => exact rfl); (case c4 => exact rfl); k_whole; intro g' L' h' tk' cells' FG' F' N' Y' B' X' T' l1; (try k_lt l1); k_cells Y'; (try simp only [List.cons_append, List.nil_append] at N'); (try dsimp only); (try k_fold)))
local macro_rules | `(tactic| walk_at "call ref") => `(tactic| (k_here; (with_reducible show wpAny _ _ (call (Value.ref 108) [Value.ref _, _] _) _ _ _); k_dflt (refine' fuse_use (f := 108) ?C ?ho ?hv ?hF ?hst ?hne ?hlen ?hm ?hc ?y1 ?y2 ?y3 ?B ?F ?X ?N ?T ?hk ?hd ?hu ?_; (case C => assumption); (case hv => assumption); (case ho => assumption); (case hF => assumption); (case hst => assumption); (case hne => assumption); (case hlen => first | assumption | omega); (case B => k_asm); (case F => k_asm); (case X => k_asm); (case N => k_asm); (case T => k_asm); (case hk => first | rfl | assumption); (case hm => tb_start); (case hc => kqd_sub); (case y1 => k_all); (case y2 => k_all); (case y3 => k_all); (case hd => ktr_room); (case hu => ktr_units); k_whole; intro r' t4' tk4' xs' n3' ys' n4' Y' h' tk' g' F' N' hst' hr'; (try simp only [List.cons_append, List.nil_append] at N'); (try k_fold))))
local macro_rules | `(tactic| walk_at "call ref") => `(tactic| (k_here; (with_reducible show wpAny _ _ (call (Value.ref 115) [Value.ref _, _] _) _ _ _); k_dflt (refine' fuse_use (f := 115) ?C ?ho ?hv ?hF ?hst ?hne ?hlen ?hm ?hc ?y1 ?y2 ?y3 ?B ?F ?X ?N ?T ?hk ?hd ?hu ?_; (case C => assumption); (case hv => assumption); (case ho => assumption); (case hF => assumption); (case hst => assumption); (case hne => assumption); (case hlen => first | assumption | omega); (case B => k_asm); (case F => k_asm); (case X => k_asm); (case N => k_asm); (case T => k_asm); (case hk => first | rfl | assumption); (case hm => tb_start); (case hc => kqd_sub); (case y1 => k_all); (case y2 => k_all); (case y3 => k_all); (case hd => ktr_room); (case hu => ktr_units); k_whole; intro r' t4' tk4' xs' n3' ys' n4' Y' h' tk' g' F' N' hst' hr'; (try simp only [List.cons_append, List.nil_append] at N'); (try k_fold))))
local macro_rules | `(tactic| walk_at "call ref") => `(tactic| (k_here; (with_reducible show wpAny _ _ (call (Value.ref 120) [Value.ref _, _] _) _ _ _); k_dflt (refine' fuse_use (f := 120) ?C ?ho ?hv ?hF ?hst ?hne ?hlen ?hm ?hc ?y1 ?y2 ?y3 ?B ?F ?X ?N ?T ?hk ?hd ?hu ?_; (case C => assumption); (case hv => assumption); (case ho => assumption); (case hF => assumption); (case hst => assumption); (case hne => assumption); (case hlen => first | assumption | omega); (case B => k_asm); (case F => k_asm); (case X => k_asm); (case N => k_asm); (case T => k_asm); (case hk => first | rfl | assumption); (case hm => tb_start); (case hc => kqd_sub); (case y1 => k_all); (case y2 => k_all); (case y3 => k_all); (case hd => ktr_room); (case hu => ktr_units); k_whole; intro r' t4' tk4' xs' n3' ys' n4' Y' h' tk' g' F' N' hst' hr'; (try simp only [List.cons_append, List.nil_append] at N'); (try k_fold))))
local macro_rules | `(tactic| walk_at "call ref") => `(tactic| (k_here; (with_reducible show wpAny _ _ (call (Value.ref 68) [_, Value.str _ _] _) _ _ _); k_dflt (refine' isEx_use ?C ?hv ?e ?B ?F ?X ?N ?T ?hk ?hs ?hd ?hu ?_; (case C => exact isEx_con _); (case hv => assumption); (case e => first | rfl | assumption); (case B => k_asm); (case F => k_asm); (case X => k_asm); (case N => k_asm); (case T => k_asm); (case hk => first | rfl | assumption); (case hs => tb_start); (case hd => ktr_room); (case hu => ktr_units); k_whole; intro h' tk' F' N'; (try k_fold))))
local macro_rules | `(tactic| walk_at "eval Call Name cons nil") => `(tactic| (k_here; refine Call_ ?_))
local macro_rules | `(tactic| k_all) => `(tactic| first
  | assumption
  | (refine' GrowT.off ?g ?o ?N ?s ?m ?c; (case g => assumption); (case o => k_all); (case N => k_asm); (case s => tb_start); (case m => lsm_bools); (case c => rfl))
  | (refine' offLt ?h ?s; (case h => assumption); (case s => tb_start))
  | exact List.forall_mem_nil _
  | (refine' List.forall_mem_cons.mpr ⟨?a, ?b⟩; (case a => first | exact adr_ne (by omega) | (refine' apart_of ?N ?p ?q ?e; (case N => k_asm); (case p => lsm_bools); (case q => lsm_bools); (case e => rfl))); (case b => k_all))
  | fail "not apart")
local macro_rules | `(tactic| walk_at "call ref") => `(tactic| (k_here; (with_reducible show wpAny _ _ (call (Value.ref 120) [Value.ref _, _] _) _ _ _); k_dflt (refine' fuse_useE ?C ?ho ?hv ?hlen ?hF ?e1 ?e2 ?hne ?hm ?hc ?y1 ?y2 ?y3 ?B ?F ?X ?N ?T ?hk ?hd ?hu ?_; (case C => assumption); (case hv => assumption); (case ho => assumption); (case hlen => assumption); (case N => k_asm); (case hF => refine' ⟨?f1, ⟨_, _, _, ?f2⟩, ?f3⟩; (case f1 => lsm_bools); (case f2 => lsm_bools); (case f3 => lsm_bools)); (case hm => tb_start); (case e1 => rfl); (case e2 => rfl); (case hne => exact adr_ne (by omega)); (case hc => kqd_sub); (case B => k_asm); (case F => k_asm); (case X => k_asm); (case T => k_asm); (case hk => first | rfl | assumption); (case y1 => k_all); (case y2 => k_all); (case y3 => k_all); (case hd => ktr_room); (case hu => ktr_units); k_whole; intro r' t4' tk4' nvs' n3' lvs' n4' Y' h' tk' g' F' N' ln' ll' hn' hl' hr'; (try simp only [List.cons_append, List.nil_append] at N'); (try k_fold))))
local macro_rules | `(tactic| walk_at "call ref") => `(tactic| (k_here; (with_reducible show wpAny _ _ (call (Value.ref 151) [Value.ref _, _] _) _ _ _); k_dflt (refine' fo_use ?C ?hn ?hm ?hN ?hv ?B ?F ?X ?N ?T ?hk ?hd ?hu ?_; (case C => assumption); (case N => k_asm); (case hm => lsm_bools); (case hN => (refine' TAll.mono ?s ?h; (case h => assumption); (case s => exact subT_of (by tb_start)))); (case hv => (refine' TIn.mono ?s ?h; (case h => assumption); (case s => exact subT_of (by tb_start)))); (case hn => omega); (case B => k_asm); (case F => k_asm); (case X => k_asm); (case T => k_asm); (case hk => first | rfl | assumption); (case hd => ktr_room); (case hu => ktr_units); k_whole; intro r' Y' h' tk' g' F' N' hr'; (try simp only [List.cons_append, List.nil_append] at N'); (try k_fold))))
local macro_rules | `(tactic| walk_at "binaryOp Add ref ref") => `(tactic| (k_here; k_dflt (refine' add_tupE ?F ?N ?a ?b ?l1 ?z ?_; (case F => k_asm); (case N => k_asm); (case a => lsm_bools); (case b => lsm_bools); (case l1 => (simp only [List.length_cons, List.length_nil]; omega)); (case z => (simp only [sizeLine_eq, List.length_cons, List.length_nil]; omega)); k_whole; intro D' n' h' F' N'; (try k_sweep))))
local macro_rules | `(tactic| walk_at "call ref") => `(tactic| (k_here; (with_reducible show wpAny _ _ (call (Value.ref 141) [_] _) _ _ _); k_dflt (refine' mend_use ?C ?hv ?B ?F ?X ?N ?T ?hk ?hd ?hu ?_; (case N => k_asm); (case hv => (refine' TIn.mono ?s ?h; (case h => assumption); (case s => exact subT_of (by tb_start)))); (case C => assumption); (case B => k_asm); (case F => k_asm); (case X => k_asm); (case T => k_asm); (case hk => first | rfl | assumption); (case hd => ktr_room); (case hu => ktr_units); k_whole; intro Y' h' tk' g' F' N'; (try k_fold))))
local macro_rules | `(tactic| walk_at "subscriptTail Subscript Name Constant Slice ref ref") => `(tactic| (k_here; k_dflt
  (refine' slice_from ?F ?N ?t ?o ?l ?z ?_ ?hs ?hg; (case F => k_asm); (case N => k_asm); (case t => lsm_bools); (case o => exact Nat.le_of_ble_eq_true rfl); (case l => exact Nat.le_of_ble_eq_true rfl); (case z => exact Nat.le_of_ble_eq_true rfl); (case hs => with_unfolding_all rfl); (case hg => (intro _; with_unfolding_all rfl)); k_whole; intro D' h' F' N' l1; (try k_lt l1); (try k_sweep))))
local macro_rules | `(tactic| walk_at "subscriptTail Name Slice ref ref") => `(tactic| (k_here; k_dflt
  (refine' slice_from ?F ?N ?t ?o ?l ?z ?_ ?hs ?hg; (case F => k_asm); (case N => k_asm); (case t => lsm_bools); (case o => exact Nat.le_of_ble_eq_true rfl); (case l => exact Nat.le_of_ble_eq_true rfl); (case z => exact Nat.le_of_ble_eq_true rfl); (case hs => with_unfolding_all rfl); (case hg => (intro _; with_unfolding_all rfl)); k_whole; intro D' h' F' N' l1; (try k_lt l1); (try k_sweep))))
local macro_rules | `(tactic| walk_at "call ref") => `(tactic| (k_here; (with_reducible show wpAny _ _ (call (Value.ref 45) _) _ _ _); k_dflt (refine' call_fault ?X ?F ?N ?z ?_; (case F => k_asm); (case N => k_asm); (case X => k_in); (case z => exact Nat.le_of_ble_eq_true rfl); k_whole; intro e' t' h' F' N' l1 l2; (try k_lt l1); (try k_lt l2); (try k_sweep); refine wpAny_call ?_; first | k_enter | kdv_enter | kdv_enterE | refine' Hold.of ?_)))
local macro_rules | `(tactic| walk_at "exec Raise some none") => `(tactic| (k_here; k_dflt (refine' Raise_fault ?hh ?_; (case hh => first | rfl | assumption))))
local macro_rules | `(tactic| walk_at "Faulty") => `(tactic| (refine' faulty_of ?X ?F ?N ?he ?h1 ?_; (case F => k_asm); (case N => k_asm); (case X => k_in); (case he => lsm_bools); (case h1 => rfl); k_whole))
local macro_rules | `(tactic| walk_at "leaving ref") => `(tactic| (k_here; first
  | (refine' leave_onX ?K ?F ?R ?U ?_ ?hf; (case R => assumption); (case hf => exact rfl); (case K => assumption); (case U => assumption); (case F => assumption); k_whole; intro h' R' U'; (try dsimp only at R' U' ⊢))
  | (refine' leave_on ?K ?F ?R ?U ?_ ?hf; (case R => assumption); (case hf => exact rfl); (case K => assumption); (case U => assumption); (case F => assumption); k_whole; intro h' R' U'; (try dsimp only at R' U' ⊢))
  | (refine' leave_fault ?K ?F ?N ?kp ?he ?hc ?hd ?h1 ?h0 ?ht ?hs ?hn ?hn2 ?_ ?hf ?hk; (case hf => exact rfl); (case hk => exact rfl); (case K => assumption); (case F => k_asm); (case N => k_asm); (case kp => assumption); (case he => lsm_bools); (case hc => rfl); (case hd => rfl); (case h1 => rfl); (case h0 => rfl); (case ht => lsm_bools); (case hs => tb_start); (case hn => k_all); (case hn2 => k_all); k_whole; intro h' R' U'; (try dsimp only at R' U' ⊢))))
local macro_rules | `(tactic| walk_at "noteFrame ref") => `(tactic| (k_here; (refine' caught_SO0 (KF := hd.heap_39 _) ?R ?F ?K ?U ?XB ?TB ?D ?T0 ?ex ?q ?_; (case R => assumption); (case F => assumption); (case K => assumption); (case U => assumption); (case XB => assumption); (case TB => assumption); (case D => assumption); (case T0 => first | assumption | exact KtsTurn.refl); (case ex => k_is); (case q => first | k_is | kernel_rfl); k_whole; intro h' g' n' T' F' N' G' M' K' X' P' D')))
local macro_rules | `(tactic| walk_at "compareOp Gt int int") => `(tactic| (k_here; k_dflt (refine' gt_yes ?e ?_; (case e => rfl); k_whole)))
local macro_rules | `(tactic| walk_at "getMethod type:Exception") => `(tactic| (k_here; refine' method_type ?F ?X ?m (by decide +kernel) ?e ?h ?_; (case F => k_asm); (case X => k_asm); (case m => first | rfl | kernel_rfl); (case e => k_dflt k_is); (case h => k_handed)))
local macro_rules | `(tactic| walk_at "call builtin:Exception.__init__") => `(tactic| (k_here; (refine' exc_init ?F ?N ?X ?off ?z ?_; (case F => k_asm); (case N => k_asm); (case X => k_in); (case off => k_all); (case z => exact Nat.le_of_ble_eq_true rfl); k_whole; intro t' h' F' N' l1; (try k_lt l1); (try k_sweep))))
local macro_rules | `(tactic| walk_at "setAttr ref") => `(tactic| (k_here; k_dflt (first
  | (refine' set_first' ?F ?N ?X ?ha ?off ?ot ?_; (case F => k_asm); (case N => k_asm); (case X => k_in); (case ha => k_is); (case off => k_all); (case ot => exact adr_ne (by omega)); k_whole; intro d' h' F' N' l1; (try k_lt l1); (try k_sweep))
  | (refine' set_next' ?F ?N ?X ?off ?_; (case F => k_asm); (case N => k_asm); (case X => k_in); (case off => k_all); k_whole; intro h' F' N'; (try k_sweep)))))
local macro_rules | `(tactic| walk_at "CErr") => `(tactic| (k_here; k_dflt (refine' comp_err ?K ?R ?U ?hoC ?off ?hf ?hf' ?_; (case R => assumption); (case K => assumption); (case U => assumption); (case hoC => assumption); (case off => assumption); (case hf => exact rfl); (case hf' => exact rfl); k_whole; intro h' R' U'; (try dsimp only at R' U' ⊢))))
open LCg
theorem tree_noP {nn : Nat} {t : T} (h : TreeOk nn t) : isEx t (kS "parameters") = false := by
  rcases h with h | h
  · cases leaf_kind h with
    | sym => rfl
    | int => rfl
    | text => rfl
    | ex h ps h1 h2 h3 => exact beq_eq_false_iff_ne.mpr h3
  · cases nn with
    | zero => exact h.elim
    | succ nn =>
      obtain ⟨c, ps, rfl, _⟩ := h
      rfl
set_option maxHeartbeats 8000000 in
theorem refused_splat (w : World) (nn : Nat) (hnn : nn ≤ 3) (BC : FuseC w 120 (30 + 8 * nn) (160 + 60 * nn) (TreeOk nn) thingsT bodyT) (t : T) (hto : TreeOk nn t) : RefC w (tE "dotcall" [tS "f", t, tE "..." [tS "a"]]) := by
  intro tv Y htv
  have hth : (thingsT t).length ≤ 40 := Nat.le_trans (things_len nn t hto) (cntB_le hnn)
  have he1 : isEx (tE "dotcall" [tS "f", t, tE "..." [tS "a"]]) (kS "dotcall") = true := by simp [isEx]
  have he2 : isEx t (kS "parameters") = false := tree_noP hto
  have he3 : isEx (tE "..." [tS "a"]) (kS "dotcall") = false := beq_eq_false_iff_ne.mpr (by decide)
  have he4 : isEx (tE "..." [tS "a"]) (kS "...") = true := by simp [isEx]
  obtain ⟨a, n, t1, t2, b, vs, k, rfl, hm, hm2, hT⟩ := ex_inv htv
  cases hT with
  | @cons v0 _ _ _ hv0 hT =>
  cases hT with
  | @cons v1 _ _ _ hv1 hT =>
  cases hT with
  | @cons v2 _ _ _ hv2 hT =>
  cases hT
  obtain ⟨a0, n0, t3, t4, rfl, hm0⟩ := sym_inv hv0
  obtain ⟨a1, rfl⟩ := tree_ref hv1
  obtain ⟨a2, n2, t5, t6, b2, vs2, k2, rfl, hm3, hm4, hT2⟩ := ex_inv hv2
  intro dp un gd cn cs fa ccd A₀ h₀ L m s mean mg mb Q E B F X N Tp hk hd hu fin
  refine wpAny_call ?_
  w_strict (
    (refine' code_defS0 ?k1 ?k2 ?k3 ?k4 ?k5 ?kA ?k6 ?k7 ?k8 ?k9 ?kB ?_ ?cK ?c2 ?c3 ?c4 ?c5; (case kA => exact rfl); (case k2 => k_asm); (case k1 => k_asm); (case k3 => k_asm); (case k4 => k_asm); (case k5 => k_asm); (case k6 => k_is); (case k7 => k_is); (case k8 => k_room); (case k9 => exact BindsTo.of_eq rfl); (case kB => exact locs rfl); (case cK => assumption); (case c2 => exact rfl); (case c3 => exact rfl); (case c4 => exact rfl); (case c5 => decide); k_whole; intro g' L' h' FG' F' N' B' X' T' D'; (try dsimp only); (try k_lift B'); (try k_fold))
    k_steps)
  unfold Hold
  rename Fr _ _ _ _ => F1
  refine' comp_tup F1 ?hh ?hclos ?hcell ?hkind ?hnames ?hx ?h ?hs
  case hh => rfl
  case hclos => with_unfolding_all rfl
  case hcell => decide
  case hkind => rfl
  case hnames => decide
  case hx => rfl
  case hs => (intro _; with_unfolding_all rfl)
  case h =>
    w_strict (
      k_steps)
    refine' csrc_two (w := w) (v1 := .ref a1) (v2 := .ref a2) (Y := Y) ?F ?N ?hF ?hm ?hc ?hax ?turn0 ?turn1
    case F => k_asm
    case N => k_asm
    case hF =>
      refine' ⟨?f1, ⟨_, _, _, ?f2⟩, ?f3⟩
      case f1 => lsm_bools
      case f2 => lsm_bools
      case f3 => lsm_bools
    case hm => tb_start
    case hc => kqd_sub
    case hax => lsm_bools
    case turn0 =>
      intro I oI C oC D m₂ h tk hoI hoC hx F' N' off ne
      simp only [List.cons_append, List.nil_append] at N'
      have off' := off
      simp only [List.cons_append, List.nil_append, LCg.Off3] at off'
      k_sweep
      w_strict (
        k_steps)
      refine' CompEnd.intro ?F ?N _ ?sub off.2.2.2 ?hS (fun _ h => h)
      case F => k_asm
      case N => k_asm
      case sub =>
        simp only [List.cons_append, List.nil_append]
        tb_start
      case hS => exact List.Mem.head _
    case turn1 =>
      intro ys nw I oI C oC D m₂ h tk hsub hoI hoC hx F' N' off ne
      have q1 := hsub _ (.head _)
      have q2 := hsub _ (.tail _ (.head _))
      have q3 := hsub _ (.tail _ (.tail _ (.head _)))
      have q4 := hsub _ (.tail _ (.tail _ (.tail _ (.head _))))
      have q5 := hsub _ (.tail _ (.tail _ (.tail _ (.tail _ (.head _)))))
      have q6 := hsub _ (.tail _ (.tail _ (.tail _ (.tail _ (.tail _ (.head _))))))
      have hYn : ∀ p ∈ Y, p ∈ nw := fun p hp => hsub p (.tail _ (.tail _ (.tail _ (.tail _ (.tail _ (.tail _ hp))))))
      have hm3n := hYn _ hm3
      have hm4n := hYn _ hm4
      have hv2n := TIn.mono (subT_of hYn) hv2
      have hoffC : ∀ p ∈ nw, p.1 ≠ C := fun p hp => (off.mem p hp).2.1
      have hkeep : KeepIs ((C, oC) :: nw) := trivial
      k_sweep
      w_strict (
        k_steps)
      exact fin _ _ (by k_asm) (fun p hp => (show News _ _ _ nw by k_asm) p (hYn p hp))
end

section
-- LawDef
/-- the contracts of fused and of _law_is_right, as the law takes them -/
def DotFC (w : World) : Prop := ∀ (t : T) (tv : Value), DotT 3 t → ∀ (Y : List (Addr × Obj)), TIn Y tv t.dat → ∀ (sz sd : Addr), (sz, instObj 182 sd) ∈ Y → ∀ (t4 tk : Tok), (∀ p ∈ Y, p.1 ≠ sd) →
  Con w 158 [tv, .ref sz] 80 600 [(sd, dictOf [attrE w "many" t4 (.int 0 tk)] 1)] Y (fun M' Y₁ r => M' = [] ∧ ToldIn Y₁ r 84 (fnT (thingsT t).length (bodyT t 0)) (thingsT t))
def SetFC (w : World) (place goal : T) : Prop := ∀ (t : T) (tv : Value), TreeOk 3 t → ∀ (Y : List (Addr × Obj)), TIn Y tv (tE ".=" [place, t]).dat → ∀ (sz sd : Addr), (sz, instObj 182 sd) ∈ Y → ∀ (t4 tk : Tok), (∀ p ∈ Y, p.1 ≠ sd) →
  Con w 158 [tv, .ref sz] 80 600 [(sd, dictOf [attrE w "many" t4 (.int 0 tk)] 1)] Y (fun M' Y₁ r => M' = [] ∧ ToldIn Y₁ r 86 (fnT (thingsT t).length (bodyT t 0)) (goal :: thingsT t))
def RightC (w : World) (wd : Str) (bc : Addr) : Prop := ∀ (told tv : Value) (tw : Tok) (al : Addr) (avs : List Value) (an : Nat) (ah : List T) (t : T) (Y : List (Addr × Obj)), TreeOk 3 t → (al, listOf (List.toArray avs) an) ∈ Y → TAll Y avs (T.dats ah) → ah.length ≤ 1 → (∀ t ∈ ah, kqdOk 8 t.dat = true) →
  ToldIn Y told bc (fnT (thingsT t).length (bodyT t 0)) (ah ++ thingsT t) → TIn Y tv t.dat → Con w 252 [told, .str wd tw, .ref al, tv] 50 400 [] Y (fun M' _ r => M' = [] ∧ r = .bool true)
theorem Cut.in_rest {w : World} {sd : Addr} {t4 tk : Tok} {k : Int} {Y news ex : List (Addr × Obj)} {sz : Addr} (c : Cut [(sd, dictOf [attrE w "many" t4 (.int k tk)] 1)] Y news ex) (h : (sz, instObj 182 sd) ∈ news) : (sz, instObj 182 sd) ∈ ex ++ Y := by
  rcases c.has _ h with q | q
  · have := congrArg (fun p => p.2.cls) (List.mem_singleton.mp q)
    simp only at this
    cases this
  · exact q
section
variable {w : World} {Y news ex : List (Addr × Obj)}
  {dp un : Nat} {gd : Option (List Code)} {cn : Str} {cs : Scope} {fa : Addr} {ccd : Value} {cl : List (Str × Addr)} {outer : List Env} {A₀ : Around} {base h₀ : Heap} {L0 : Addr} {m : Str → Option Value} {s : Shared}
  {mean : ExcName → Option Value} {mg mb : Str → Option Value} {Q E : Value → Shared → Prop}
theorem fusedD_use {t : T} {tv : Value} {sz sd : Addr} {t4 tk : Tok} (C : DotFC w) (ho : DotT 3 t) (hv : TIn Y tv t.dat) (hs : (sz, instObj 182 sd) ∈ news)
    (hm : ∀ p ∈ [(sd, dictOf [attrE w "many" t4 (.int 0 tk)] 1)], p ∈ news) (hc : Cut [(sd, dictOf [attrE w "many" t4 (.int 0 tk)] 1)] Y news ex) (y1 : ∀ p ∈ Y, p.1 ≠ sd)
    (B : Below A₀ base outer h₀) (F : Fr h₀ L0 s.heap m) (X : (hd.heap_39 w.params).In h₀) (N : News h₀ L0 s.heap news)
    (Tp : Top hd.view_39 (looseW hd.view_39 [Str.ofString "RowsError"]) mean mg mb h₀) (hk : cs.kind = .function) (hd : dp + 80 < recursionLimit) (hu : un + 600 < cLine)
    (ret : ∀ r Y₂ h' tk', GrowT Y Y₂ → Fr h₀ L0 h' m → News h₀ L0 h' (ex ++ Y₂) → ToldIn Y₂ r 84 (fnT (thingsT t).length (bodyT t 0)) (thingsT t) → Q r { s with heap := h', toks := tk' }) :
    wpAny (model PySem.Challenge.rw_pq0689_01.row.prog w) (ktrTop dp un gd cn cs L0 fa ccd cl outer) (call (.ref 158) [tv, .ref sz]) Q E s := by
  refine Con.use (ex := ex) (fun ho' => C t tv ho (ex ++ Y) (TIn.mono (fun p h _ => List.mem_append.mpr (.inr h)) hv) sz sd (hc.in_rest hs) t4 tk (ho' _ (.head _))) ?_ hc hm (fun q hq => by rw [List.mem_singleton.mp hq]; exact y1) B F X N Tp hk hd hu ?_
  · rintro M' X Z r hs ⟨h1, h2⟩
    exact ⟨h1, h2.mono hs⟩
  · rintro r M' Y₂ h' tk' g F' N' ⟨rfl, h2⟩
    exact ret r Y₂ h' tk' g F' (by simpa using N') h2
/-- the same for a dot assignment; the rest of the ledger stands in ex too -/
theorem fusedS_use {place goal t : T} {tv : Value} {sz sd : Addr} {t4 tk : Tok} (C : SetFC w place goal) (ho : TreeOk 3 t) (hs : (sz, instObj 182 sd) ∈ news)
    (hm : ∀ p ∈ [(sd, dictOf [attrE w "many" t4 (.int 0 tk)] 1)], p ∈ news) (hc : Cut [(sd, dictOf [attrE w "many" t4 (.int 0 tk)] 1)] Y news ex) (hv : TIn (ex ++ Y) tv (tE ".=" [place, t]).dat) (y1 : ∀ p ∈ Y, p.1 ≠ sd)
    (B : Below A₀ base outer h₀) (F : Fr h₀ L0 s.heap m) (X : (hd.heap_39 w.params).In h₀) (N : News h₀ L0 s.heap news)
    (Tp : Top hd.view_39 (looseW hd.view_39 [Str.ofString "RowsError"]) mean mg mb h₀) (hk : cs.kind = .function) (hd : dp + 80 < recursionLimit) (hu : un + 600 < cLine)
    (ret : ∀ r Y₂ h' tk', GrowT Y Y₂ → Fr h₀ L0 h' m → News h₀ L0 h' (ex ++ Y₂) → ToldIn Y₂ r 86 (fnT (thingsT t).length (bodyT t 0)) (goal :: thingsT t) → Q r { s with heap := h', toks := tk' }) :
    wpAny (model PySem.Challenge.rw_pq0689_01.row.prog w) (ktrTop dp un gd cn cs L0 fa ccd cl outer) (call (.ref 158) [tv, .ref sz]) Q E s := by
  refine Con.use (ex := ex) (fun ho' => C t tv ho (ex ++ Y) hv sz sd (hc.in_rest hs) t4 tk (ho' _ (.head _))) ?_ hc hm (fun q hq => by rw [List.mem_singleton.mp hq]; exact y1) B F X N Tp hk hd hu ?_
  · rintro M' X Z r hs ⟨h1, h2⟩
    exact ⟨h1, h2.mono hs⟩
  · rintro r M' Y₂ h' tk' g F' N' ⟨rfl, h2⟩
    exact ret r Y₂ h' tk' g F' (by simpa using N') h2
theorem Cut.all {news : List (Addr × Obj)} (c : Cut [] Y news ex) : ∀ p ∈ news, p ∈ ex ++ Y := fun p hp => (c.has p hp).elim (fun h => nomatch h) id
theorem right_use {told tv : Value} {wd : Str} {bc : Addr} {tw : Tok} {al : Addr} {avs : List Value} {an : Nat} {ah : List T} {t : T} (C : RightC w wd bc) (ht : TreeOk 3 t) (hc : Cut [] Y news ex) (htold : ToldIn news told bc (fnT (thingsT t).length (bodyT t 0)) (ah ++ thingsT t)) (hal : (al, listOf (List.toArray avs) an) ∈ news) (hah : TAll news avs (T.dats ah)) (hah1 : ah.length ≤ 1) (hahk : ∀ t ∈ ah, kqdOk 8 t.dat = true)
    (htv : TIn news tv t.dat) (B : Below A₀ base outer h₀) (F : Fr h₀ L0 s.heap m) (X : (hd.heap_39 w.params).In h₀) (N : News h₀ L0 s.heap news)
    (Tp : Top hd.view_39 (looseW hd.view_39 [Str.ofString "RowsError"]) mean mg mb h₀) (hk : cs.kind = .function) (hd : dp + 50 < recursionLimit) (hu : un + 400 < cLine)
    (ret : ∀ Y₂ h' tk', GrowT Y Y₂ → Fr h₀ L0 h' m → News h₀ L0 h' (ex ++ Y₂) → Q (.bool true) { s with heap := h', toks := tk' }) :
    wpAny (model PySem.Challenge.rw_pq0689_01.row.prog w) (ktrTop dp un gd cn cs L0 fa ccd cl outer) (call (.ref 252) [told, .str wd tw, .ref al, tv]) Q E s := by
  have sub := subT_of hc.all
  refine Con.use (ex := ex) (Y := Y) (fun _ => C told tv tw al avs an ah t _ ht (hc.all _ hal) (hah.mono sub) hah1 hahk (htold.mono sub) (htv.mono sub)) ?_ hc (fun _ h => nomatch h) (fun _ h => nomatch h) B F X N Tp hk hd hu ?_
  · rintro M' X Z r _ h
    exact h
  · rintro r M' Y₂ h' tk' g F' N' ⟨rfl, rfl⟩
    exact ret Y₂ h' tk' g F' (by simpa using N')
end
theorem setT_in {X : List (Addr × Obj)} {a b : Addr} {n k : Nat} {t1 t2 : Tok} {v0 v1 : Value} {p t : T} (h1 : (a, tupObj [.str (Str.ofString "expr") t1, .str (Str.ofString ".=") t2, .ref b] n) ∈ X) (h2 : (b, tupObj [v0, v1] k) ∈ X) (q0 : TIn X v0 p.dat) (q1 : TIn X v1 t.dat) : TIn X (.ref a) (tE ".=" [p, t]).dat :=
  .tuple h1 (.cons (.str _ _) (.cons (.str _ _) (.cons (.tuple h2 (.cons q0 (.cons q1 .nil))) .nil)))
theorem deal_b (x : Int) : 0 ≤ x.fmod 65413 ∧ x.fmod 65413 < 65413 := by
  rw [Int.fmod_eq_emod_of_nonneg _ (by decide)]
  omega
theorem joinP {M : Model} {A : Around} {h₀ : Heap} {L : Addr} {s : Shared} {E : Value → Shared → Prop} {Y : List (Addr × Obj)} {t : Sem Flow} {m : Str → Option Value} {Q : Flow → Shared → Prop} (F : Fr h₀ L s.heap m) (Post : (Str → Option Value) → (Str → Option Value) → List (Addr × Obj) → List (Addr × Obj) → Prop) (h1 : wpAny M A t (JFlow h₀ L Y (Post m) s) E s)
    (h2 : ∀ m' M' Y₂ h' tk', GrowT Y Y₂ → Fr h₀ L h' m' → News h₀ L h' (M' ++ Y₂) → Post m m' M' Y₂ → Q .next { s with heap := h', toks := tk' }) : wpAny M A t Q E s := joinF F (Post m) h1 h2
end

section
-- LawSym
theorem reset_LawSym : True := by
  w_top off
  trivial
local macro_rules | `(tactic| lsm_bools) => `(tactic| first | exact List.Mem.head _ | assumption | (refine' List.Mem.tail _ ?_; lsm_bools) | (refine' GrowT.mem ?g ?h; (case g => assumption); (case h => lsm_bools)) | fail "no entry")
local macro_rules | `(tactic| k_mem) => `(tactic| first | lsm_bools | fail "no entry")
local macro_rules | `(tactic| tb_start) => `(tactic| first
  | exact List.forall_mem_nil _
  | (refine' List.forall_mem_cons.mpr ⟨?a, ?b⟩; (case a => lsm_bools); (case b => tb_start))
  | (intro p hp; repeat (first | exact hp | refine List.mem_cons_of_mem _ ?_ | refine List.Mem.tail _ ?_ | refine GrowT.mem' (by assumption) ?_ | refine GrowT.mem (by assumption) ?_ | fail "no entry"))
  | fail "not within")
local macro_rules | `(tactic| k_all) => `(tactic| first
  | assumption
  | (refine' GrowT.off ?g ?o ?N ?s ?m ?c; (case g => assumption); (case o => k_all); (case N => k_asm); (case s => tb_start); (case m => lsm_bools); (case c => rfl))
  | (refine' offLt ?h ?s; (case h => assumption); (case s => tb_start))
  | fail "not apart")
local macro_rules | `(tactic| k_lt $h:ident) => `(tactic| (have hl9 := $h; replace $h := allLt_of $h; simp only [AllLt, and_true] at $h:ident))
local macro_rules | `(tactic| kqd_sub) => `(tactic| first
  | (refine' Cut.own ?m ?r; (case m => lsm_bools); (case r => kqd_sub))
  | (refine' Cut.oth ?o ?r; (case o => k_all); (case r => kqd_sub))
  | exact Cut.tail
  | fail "no cut")
local macro_rules | `(tactic| ktr_rel) => `(tactic| first
  | exact subT_nil
  | exact subT_of (fun _ hp => hp)
  | assumption
  | (refine' subT_skip ?a ?b; (case a => rfl); (case b => ktr_rel))
  | (refine' subT_cons ?a ?b; (case a => lsm_bools); (case b => ktr_rel))
  | (refine' subT_of ?h; (case h => tb_start))
  | (refine' subT_app ?a ?b; (case a => ktr_rel); (case b => ktr_rel))
  | fail "tuples not within")
local macro_rules | `(tactic| k_room) => `(tactic| ktr_room)
local macro_rules | `(tactic| k_units) => `(tactic| ktr_units)
local macro_rules | `(tactic| tb_rel) => `(tactic| first
  | exact TAll.nil
  | exact TIn.str _ _
  | exact TIn.int _ _
  | exact TIn.bytes _ _
  | assumption
  | (refine' TIn.mono ?s ?h; (case h => assumption); (case s => ktr_rel))
  | (refine' TAll.mono ?s ?h; (case h => assumption); (case s => ktr_rel))
  | (refine' TIn.tuple ?m ?r; (case m => lsm_bools); (case r => tb_rel))
  | (refine' TAll.cons ?h ?t; (case h => tb_rel); (case t => tb_rel))
  | fail "no tree")
local macro_rules | `(tactic| walk_at "compareOp In str ref") => `(tactic| (k_here; k_dflt (refine' in_tupL ?ht ?hi ?_; (case ht => (refine' tupK ?X ?l; (case X => k_in); (case l => k_is))); (case hi => exact rfl))))
local macro_rules | `(tactic| walk_at "compareOp Eq ref ref") => `(tactic| (k_here; k_dflt (first
  | (refine' eq_dat (r := false) ?H ?d1 ?d2 ?hc ?hd ?hu ?_; (case H => exact heldOf (by k_asm)); (case d1 => tb_rel); (case d2 => tb_rel); (case hc => with_unfolding_all rfl); (case hd => exact Nat.le_of_ble_eq_true rfl); (case hu => ktr_units))
  | (refine' eq_dat (r := true) ?H ?d1 ?d2 ?hc ?hd ?hu ?_; (case H => exact heldOf (by k_asm)); (case d1 => tb_rel); (case d2 => tb_rel); (case hc => with_unfolding_all rfl); (case hd => exact Nat.le_of_ble_eq_true rfl); (case hu => ktr_units)))))
local macro_rules | `(tactic| walk_at "compareOp NotEq ref ref") => `(tactic| (k_here; k_dflt (first
  | (refine' ne_dat (r := false) ?H ?d1 ?d2 ?hc ?hd ?hu ?_; (case H => exact heldOf (by k_asm)); (case d1 => tb_rel); (case d2 => tb_rel); (case hc => with_unfolding_all rfl); (case hd => exact Nat.le_of_ble_eq_true rfl); (case hu => ktr_units))
  | (refine' ne_dat (r := true) ?H ?d1 ?d2 ?hc ?hd ?hu ?_; (case H => exact heldOf (by k_asm)); (case d1 => tb_rel); (case d2 => tb_rel); (case hc => with_unfolding_all rfl); (case hd => exact Nat.le_of_ble_eq_true rfl); (case hu => ktr_units)))))
local macro_rules | `(tactic| walk_at "subscriptTail Name Constant ref int") => `(tactic| (k_here; k_dflt (refine' item_tupleT ?t ?a ?b ?c ?d ?_; (case t => exact News.isTup (by k_asm) (by k_mem)); (case a => decide); (case b => decide); (case c => rfl); (case d => rfl); k_whole)))
local macro_rules | `(tactic| walk_at "ite") => `(tactic| (k_closed; k_dflt (first | (refine' ite_pos ?c ?_; (case c => decide)) | (refine' ite_neg ?c ?_; (case c => decide)))))
local macro_rules | `(tactic| walk_at "call type:range cons nil") => `(tactic| (k_here; k_dflt (refine' range1_rows ?F ?N ?_; (case F => k_asm); (case N => k_asm); k_whole; intro h' tk' t1' u1' v1' hR' F' N' hst'; (try k_fold))))
local macro_rules | `(tactic| walk_at "pyIter ref") => `(tactic| (k_here; (with_reducible show wpAny _ _ (pyIter (Value.ref _)) (fun it s₂ => LoopAtV _ _ _ _ _ _ _ _ _ it s₂) _ _); refine' Hold.of ?_))
local macro_rules | `(tactic| walk_at "binaryOp Add ref ref") => `(tactic| (k_here; k_dflt (refine' add_cat ?F ?N ?a ?b ?z ?_; (case F => k_asm); (case N => k_asm); (case a => lsm_bools); (case b => lsm_bools); (case z => (simp only [sizeLine_eq, List.length_cons, List.length_nil]; omega)); k_whole; intro D' h' F' N' l1; (try k_lt l1); (try k_sweep))))
local macro_rules | `(tactic| walk_at "subscriptTail Name Slice ref ref") => `(tactic| (k_here; k_dflt (first
  | (refine' slice_whole ?F ?N ?t ?l ?z ?_ ?hs ?hg; (case F => k_asm); (case N => k_asm); (case t => lsm_bools); (case l => exact Nat.le_of_ble_eq_true rfl); (case z => exact Nat.le_of_ble_eq_true rfl); (case hs => with_unfolding_all rfl); (case hg => (intro _; with_unfolding_all rfl)); k_whole; intro h' F' N'; (try k_sweep))
  | (refine' slice_upto ?F ?N ?t ?l ?z ?_ ?hs ?hg; (case F => k_asm); (case N => k_asm); (case t => lsm_bools); (case l => exact Nat.le_of_ble_eq_true rfl); (case z => exact Nat.le_of_ble_eq_true rfl); (case hs => with_unfolding_all rfl); (case hg => (intro _; with_unfolding_all rfl)); k_whole; intro D' h' F' N' l1; (try k_lt l1); (try k_sweep)))))
local macro_rules | `(tactic| walk_at "subscriptTail Name Slice ref ref") => `(tactic| (k_here; k_dflt
  (refine' slice_from ?F ?N ?t ?o ?l ?z ?_ ?hs ?hg; (case F => k_asm); (case N => k_asm); (case t => lsm_bools); (case o => exact Nat.le_of_ble_eq_true rfl); (case l => (simp only [List.length_cons]; omega)); (case z => (simp only [sizeLine_eq, List.length_cons]; omega)); (case hs => with_unfolding_all rfl); (case hg => (intro _; with_unfolding_all rfl)); k_whole; intro D' h' F' N' l1; (try k_lt l1); (try k_sweep))))
local macro_rules | `(tactic| walk_at "subscriptTail Subscript Name Constant Slice ref ref") => `(tactic| (k_here; k_dflt
  (refine' slice_from ?F ?N ?t ?o ?l ?z ?_ ?hs ?hg; (case F => k_asm); (case N => k_asm); (case t => lsm_bools); (case o => exact Nat.le_of_ble_eq_true rfl); (case l => (simp only [List.length_cons]; omega)); (case z => (simp only [sizeLine_eq, List.length_cons]; omega)); (case hs => with_unfolding_all rfl); (case hg => (intro _; with_unfolding_all rfl)); k_whole; intro D' h' F' N' l1; (try k_lt l1); (try k_sweep))))
local macro_rules | `(tactic| walk_at "call type:tuple cons nil") => `(tactic| (k_here; k_dflt (refine' tuple_of ?F ?N ?t ?z ?_; (case F => k_asm); (case N => k_asm); (case t => lsm_bools); (case z => first | exact Nat.le_of_ble_eq_true rfl | (simp only [sizeLine_eq, List.length_append, List.length_cons, List.length_nil]; omega)); k_whole; intro D' h' F' N' l1; (try k_lt l1); (try k_sweep))))
local macro_rules | `(tactic| walk_at "subscriptTail Name Constant ref int") => `(tactic| (k_here; k_dflt (refine' item_tupI ?N ?m ?a ?b ?c ?_; (case N => k_asm); (case m => lsm_bools); (case a => decide); (case b => decide); (case c => exact rfl); k_whole)))
local macro_rules | `(tactic| walk_at "subscriptTail Subscript Name Constant Constant ref int") => `(tactic| (k_here; k_dflt (refine' item_tupI ?N ?m ?a ?b ?c ?_; (case N => k_asm); (case m => lsm_bools); (case a => decide); (case b => decide); (case c => exact rfl); k_whole)))
local macro_rules | `(tactic| walk_at "subscriptTail Subscript Subscript Constant Constant ref int") => `(tactic| (k_here; k_dflt (refine' item_tupI ?N ?m ?a ?b ?c ?_; (case N => k_asm); (case m => lsm_bools); (case a => decide); (case b => decide); (case c => exact rfl); k_whole)))
local macro_rules | `(tactic| walk_at "subscriptTail Call Name cons nil Constant ref int") => `(tactic| (k_here; k_dflt (refine' item_tupI ?N ?m ?a ?b ?c ?_; (case N => k_asm); (case m => lsm_bools); (case a => decide); (case b => decide); (case c => exact rfl); k_whole)))
local macro_rules | `(tactic| walk_at "binaryOp Add ref ref") => `(tactic| (k_here; k_dflt (refine' add_tupC ?F ?N ?a ?b ?l1 ?l2 ?z ?_; (case F => k_asm); (case N => k_asm); (case a => lsm_bools); (case b => lsm_bools); (case l1 => (simp only [List.length_cons, List.length_nil]; omega)); (case l2 => omega); (case z => (simp only [sizeLine_eq, List.length_cons, List.length_nil]; omega)); k_whole; intro D' h' F' N' l1; (try k_lt l1); (try k_sweep))))
local macro_rules | `(tactic| walk_at "call type:tuple cons nil") => `(tactic| (k_here; k_dflt (refine' tuple_same ?N ?t ?_; (case N => k_asm); (case t => lsm_bools); k_whole)))
local macro_rules | `(tactic| walk_at "call builtin:len cons nil") => `(tactic| (k_here; k_dflt (refine' len_tupK ?N ?t ?z ?_; (case N => k_asm); (case t => lsm_bools); (case z => (simp only [sizeLine_eq, List.length_cons, List.length_nil]; omega)); k_whole; intro tk1' tk2')))
local macro_rules | `(tactic| walk_at "eval ListComp") => `(tactic| (k_here; refine' Hold.of ?_))
local macro_rules | `(tactic| walk_at "compareOp NotEq ref ref") => `(tactic| (k_here; k_dflt (refine' ne_dat (r := false) ?H ?d1 ?d2 ?hc ?hd ?hu ?_; (case H => exact heldOf (by k_asm)); (case d1 => tb_rel); (case d2 => tb_rel); (case hc => exact cmp_head (by assumption) _); (case hd => exact Nat.le_of_ble_eq_true rfl); (case hu => ktr_units))))
local macro_rules | `(tactic| walk_at "call ref") => `(tactic| (k_here; (with_reducible show wpAny _ _ (call (Value.ref 233) [_] _) _ _ _); k_dflt (refine' plain_use ?C ?ho ?hv ?B ?F ?X ?N ?T ?hk ?hc ?hd ?hu ?_; (case C => assumption); (case ho => assumption); (case hv => assumption); (case B => k_asm); (case F => k_asm); (case X => k_asm); (case N => k_asm); (case T => k_asm); (case hk => first | rfl | assumption); (case hc => kqd_sub); (case hd => ktr_room); (case hu => ktr_units); k_whole; intro r' Y' h' tk' g' F' N' hr'; (try simp only [List.cons_append, List.nil_append] at N'); (try k_fold))))
local macro_rules | `(tactic| walk_at "call ref") => `(tactic| (k_here; (with_reducible show wpAny _ _ (call (Value.ref 240) [_] _) _ _ _); k_dflt (refine' things_use ?C ?ho ?hv ?B ?F ?X ?N ?T ?hk ?hc ?hd ?hu ?_; (case C => assumption); (case ho => assumption); (case hv => assumption); (case B => k_asm); (case F => k_asm); (case X => k_asm); (case N => k_asm); (case T => k_asm); (case hk => first | rfl | assumption); (case hc => kqd_sub); (case hd => ktr_room); (case hu => ktr_units); k_whole; intro a' vs' k' Y' h' tk' g' F' N' hr' hrl'; (try simp only [List.cons_append, List.nil_append] at N'); (try k_fold))))
local macro_rules | `(tactic| walk_at "exec For Name Subscript") => `(tactic| (k_here; (rename Fr _ _ _ _ => lF'); (with_unfolding_all refine' For_invVF lF' ?k1 ?k2 ?_; (case k1 => exact rfl); (case k2 => exact rfl); k_whole)))
local macro_rules | `(tactic| walk_at "compareOp Eq ref ref") => `(tactic| (k_here; k_dflt (refine' eq_dat (r := false) ?H ?d1 ?d2 ?hc ?hd ?hu ?_; (case H => exact heldOf (by k_asm)); (case d1 => tb_rel); (case d2 => tb_rel); (case hc => exact cmp_head (by assumption) _); (case hd => exact Nat.le_of_ble_eq_true rfl); (case hu => ktr_units))))
local macro_rules | `(tactic| walk_at "compareOp Eq str str") => `(tactic| (k_here; k_dflt (refine' eq_str_no ?h ?_; (case h => assumption); k_whole)))
def SymC (w : World) : Prop := ∀ (x : Str) (tk : Tok) (Y : List (Addr × Obj)), Con w 214 [.str x tk] 5 40 [] Y (fun M' Y₁ r => M' = [] ∧ ∃ a, r = .ref a ∧ TIn Y₁ r (symD x))
def TreeC (w : World) : Prop := ∀ (x : Str) (tk : Tok) (lz : Addr) (vs : List Value) (n : Nat) (ds : List Dat) (Y : List (Addr × Obj)), vs.length ≤ 60 → (lz, listOf (List.toArray vs) n) ∈ Y → TAll Y vs ds → Con w 207 [.str x tk, .ref lz] 5 40 [] Y (fun M' Y₁ r => M' = [] ∧ ∃ a, r = .ref a ∧ TIn Y₁ r (.tuple [sS "expr", .str x, .tuple ds]))
set_option maxHeartbeats 4000000 in
theorem sym_con (w : World) : SymC w := by
  intro x tk Y
  refine Con.intro ?_
  intro dp un gd cn cs fa ccd cl outer A₀ base h₀ L m s mean mg mb Q E B F X N Tp hk hd hu fin
  simp only [List.nil_append] at N
  refine wpAny_call ?_
  w_strict (
    k_dflt ktr_enter
    k_steps)
  refine' fin [] _ _ _ _ (by k_asm) (by k_asm) (List.forall_mem_nil _) ?Y (fun Y₁ hs => ⟨rfl, _, rfl, TIn.mono hs ?P⟩)
  case Y => tb_start
  case P =>
    show TIn _ _ (symD _)
    tb_rel
set_option maxHeartbeats 4000000 in
theorem tree_con (w : World) : TreeC w := by
  intro x tk lz vs n ds Y hl hm hT
  refine Con.intro ?_
  intro dp un gd cn cs fa ccd cl outer A₀ base h₀ L m s mean mg mb Q E B F X N Tp hk hd hu fin
  simp only [List.nil_append] at N
  refine wpAny_call ?_
  w_strict (
    k_dflt ktr_enter
    k_steps)
  refine' fin [] _ _ _ _ (by k_asm) (by k_asm) (List.forall_mem_nil _) ?Y (fun Y₁ hs => ⟨rfl, _, rfl, TIn.mono hs ?P⟩)
  case Y => tb_start
  case P =>
    show TIn _ _ (.tuple [sS "expr", .str x, .tuple ds])
    tb_rel
section
variable {w : World} {Y news ex : List (Addr × Obj)}
  {dp un : Nat} {gd : Option (List Code)} {cn : Str} {cs : Scope} {fa : Addr} {ccd : Value} {cl : List (Str × Addr)} {outer : List Env} {A₀ : Around} {base h₀ : Heap} {L0 : Addr} {m : Str → Option Value} {s : Shared}
  {mean : ExcName → Option Value} {mg mb : Str → Option Value} {Q E : Value → Shared → Prop}
theorem sym_use {x : Str} {tk : Tok} (C : SymC w) (hc : Cut [] Y news ex) (B : Below A₀ base outer h₀) (F : Fr h₀ L0 s.heap m) (X : (hd.heap_39 w.params).In h₀) (N : News h₀ L0 s.heap news)
    (Tp : Top hd.view_39 (looseW hd.view_39 [Str.ofString "RowsError"]) mean mg mb h₀) (hk : cs.kind = .function) (hd : dp + 5 < recursionLimit) (hu : un + 40 < cLine)
    (ret : ∀ a Y₂ h' tk', GrowT Y Y₂ → Fr h₀ L0 h' m → News h₀ L0 h' (ex ++ Y₂) → TIn Y₂ (.ref a) (symD x) → Q (.ref a) { s with heap := h', toks := tk' }) :
    wpAny (model PySem.Challenge.rw_pq0689_01.row.prog w) (ktrTop dp un gd cn cs L0 fa ccd cl outer) (call (.ref 214) [.str x tk]) Q E s := by
  refine Con.use (ex := ex) (Y := Y) (fun _ => C x tk _) ?_ hc (fun _ h => nomatch h) (fun _ h => nomatch h) B F X N Tp hk hd hu ?_
  · rintro M' X Z r hs ⟨h1, a, h2, h3⟩
    exact ⟨h1, a, h2, h3.mono hs⟩
  · rintro r M' Y₂ h' tk' g F' N' ⟨rfl, a, rfl, h3⟩
    exact ret a Y₂ h' tk' g F' (by simpa using N') h3
theorem tree_use {x : Str} {tk : Tok} {lz : Addr} {vs : List Value} {n : Nat} {ds : List Dat} (C : TreeC w) (hc : Cut [] Y news ex) (hm : (lz, listOf (List.toArray vs) n) ∈ news) (hl : vs.length ≤ 60) (hT : TAll news vs ds) (B : Below A₀ base outer h₀) (F : Fr h₀ L0 s.heap m) (X : (hd.heap_39 w.params).In h₀) (N : News h₀ L0 s.heap news)
    (Tp : Top hd.view_39 (looseW hd.view_39 [Str.ofString "RowsError"]) mean mg mb h₀) (hk : cs.kind = .function) (hd : dp + 5 < recursionLimit) (hu : un + 40 < cLine)
    (ret : ∀ a Y₂ h' tk', GrowT Y Y₂ → Fr h₀ L0 h' m → News h₀ L0 h' (ex ++ Y₂) → TIn Y₂ (.ref a) (.tuple [sS "expr", .str x, .tuple ds]) → Q (.ref a) { s with heap := h', toks := tk' }) :
    wpAny (model PySem.Challenge.rw_pq0689_01.row.prog w) (ktrTop dp un gd cn cs L0 fa ccd cl outer) (call (.ref 207) [.str x tk, .ref lz]) Q E s := by
  refine Con.use (ex := ex) (Y := Y) (fun _ => C x tk lz vs n ds _ hl (hc.all _ hm) (hT.mono (subT_of hc.all))) ?_ hc (fun _ h => nomatch h) (fun _ h => nomatch h) B F X N Tp hk hd hu ?_
  · rintro M' X Z r hs ⟨h1, a, h2, h3⟩
    exact ⟨h1, a, h2, h3.mono hs⟩
  · rintro r M' Y₂ h' tk' g F' N' ⟨rfl, a, rfl, h3⟩
    exact ret a Y₂ h' tk' g F' (by simpa using N') h3
end
end

section
-- Law
theorem reset_Law : True := by
  w_top off
  trivial
local macro_rules | `(tactic| lsm_bools) => `(tactic| first | exact List.Mem.head _ | assumption | (refine' List.Mem.tail _ ?_; lsm_bools) | (refine' GrowT.mem ?g ?h; (case g => assumption); (case h => lsm_bools)) | fail "no entry")
local macro_rules | `(tactic| k_mem) => `(tactic| first | lsm_bools | fail "no entry")
local macro_rules | `(tactic| tb_start) => `(tactic| first
  | exact List.forall_mem_nil _
  | (refine' List.forall_mem_cons.mpr ⟨?a, ?b⟩; (case a => lsm_bools); (case b => tb_start))
  | (intro p hp; repeat (first | exact hp | refine List.mem_cons_of_mem _ ?_ | refine List.Mem.tail _ ?_ | refine GrowT.mem' (by assumption) ?_ | refine GrowT.mem (by assumption) ?_ | fail "no entry"))
  | fail "not within")
local macro_rules | `(tactic| k_all) => `(tactic| first
  | assumption
  | (refine' GrowT.off ?g ?o ?N ?s ?m ?c; (case g => assumption); (case o => k_all); (case N => k_asm); (case s => tb_start); (case m => lsm_bools); (case c => rfl))
  | (refine' offLt ?h ?s; (case h => assumption); (case s => tb_start))
  | fail "not apart")
local macro_rules | `(tactic| k_lt $h:ident) => `(tactic| (have hl9 := $h; replace $h := allLt_of $h; simp only [AllLt, and_true] at $h:ident))
local macro_rules | `(tactic| kqd_sub) => `(tactic| first
  | (refine' Cut.own ?m ?r; (case m => lsm_bools); (case r => kqd_sub))
  | (refine' Cut.oth ?o ?r; (case o => k_all); (case r => kqd_sub))
  | exact Cut.tail
  | fail "no cut")
local macro_rules | `(tactic| ktr_rel) => `(tactic| first
  | exact subT_nil
  | exact subT_of (fun _ hp => hp)
  | assumption
  | (refine' subT_skip ?a ?b; (case a => rfl); (case b => ktr_rel))
  | (refine' subT_cons ?a ?b; (case a => lsm_bools); (case b => ktr_rel))
  | (refine' subT_of ?h; (case h => tb_start))
  | (refine' subT_app ?a ?b; (case a => ktr_rel); (case b => ktr_rel))
  | fail "tuples not within")
local macro_rules | `(tactic| k_room) => `(tactic| ktr_room)
local macro_rules | `(tactic| k_units) => `(tactic| ktr_units)
local macro_rules | `(tactic| tb_rel) => `(tactic| first
  | exact TAll.nil
  | exact TIn.str _ _
  | exact TIn.int _ _
  | exact TIn.bytes _ _
  | assumption
  | (refine' TIn.mono ?s ?h; (case h => assumption); (case s => ktr_rel))
  | (refine' TAll.mono ?s ?h; (case h => assumption); (case s => ktr_rel))
  | (refine' TIn.tuple ?m ?r; (case m => lsm_bools); (case r => tb_rel))
  | (refine' TAll.cons ?h ?t; (case h => tb_rel); (case t => tb_rel))
  | fail "no tree")
local macro_rules | `(tactic| walk_at "compareOp In str ref") => `(tactic| (k_here; k_dflt (refine' in_tupL ?ht ?hi ?_; (case ht => (refine' tupK ?X ?l; (case X => k_in); (case l => k_is))); (case hi => exact rfl))))
local macro_rules | `(tactic| walk_at "compareOp Eq ref ref") => `(tactic| (k_here; k_dflt (first
  | (refine' eq_dat (r := false) ?H ?d1 ?d2 ?hc ?hd ?hu ?_; (case H => exact heldOf (by k_asm)); (case d1 => tb_rel); (case d2 => tb_rel); (case hc => with_unfolding_all rfl); (case hd => exact Nat.le_of_ble_eq_true rfl); (case hu => ktr_units))
  | (refine' eq_dat (r := true) ?H ?d1 ?d2 ?hc ?hd ?hu ?_; (case H => exact heldOf (by k_asm)); (case d1 => tb_rel); (case d2 => tb_rel); (case hc => with_unfolding_all rfl); (case hd => exact Nat.le_of_ble_eq_true rfl); (case hu => ktr_units)))))
local macro_rules | `(tactic| walk_at "compareOp NotEq ref ref") => `(tactic| (k_here; k_dflt (first
  | (refine' ne_dat (r := false) ?H ?d1 ?d2 ?hc ?hd ?hu ?_; (case H => exact heldOf (by k_asm)); (case d1 => tb_rel); (case d2 => tb_rel); (case hc => with_unfolding_all rfl); (case hd => exact Nat.le_of_ble_eq_true rfl); (case hu => ktr_units))
  | (refine' ne_dat (r := true) ?H ?d1 ?d2 ?hc ?hd ?hu ?_; (case H => exact heldOf (by k_asm)); (case d1 => tb_rel); (case d2 => tb_rel); (case hc => with_unfolding_all rfl); (case hd => exact Nat.le_of_ble_eq_true rfl); (case hu => ktr_units)))))
local macro_rules | `(tactic| walk_at "subscriptTail Name Constant ref int") => `(tactic| (k_here; k_dflt (refine' item_tupleT ?t ?a ?b ?c ?d ?_; (case t => exact News.isTup (by k_asm) (by k_mem)); (case a => decide); (case b => decide); (case c => rfl); (case d => rfl); k_whole)))
local macro_rules | `(tactic| walk_at "ite") => `(tactic| (k_closed; k_dflt (first | (refine' ite_pos ?c ?_; (case c => decide)) | (refine' ite_neg ?c ?_; (case c => decide)))))
local macro_rules | `(tactic| walk_at "call type:range cons nil") => `(tactic| (k_here; k_dflt (refine' range1_rows ?F ?N ?_; (case F => k_asm); (case N => k_asm); k_whole; intro h' tk' t1' u1' v1' hR' F' N' hst'; (try k_fold))))
local macro_rules | `(tactic| walk_at "pyIter ref") => `(tactic| (k_here; (with_reducible show wpAny _ _ (pyIter (Value.ref _)) (fun it s₂ => LoopAtV _ _ _ _ _ _ _ _ _ it s₂) _ _); refine' Hold.of ?_))
local macro_rules | `(tactic| walk_at "binaryOp Add ref ref") => `(tactic| (k_here; k_dflt (refine' add_cat ?F ?N ?a ?b ?z ?_; (case F => k_asm); (case N => k_asm); (case a => lsm_bools); (case b => lsm_bools); (case z => (simp only [sizeLine_eq, List.length_cons, List.length_nil]; omega)); k_whole; intro D' h' F' N' l1; (try k_lt l1); (try k_sweep))))
local macro_rules | `(tactic| walk_at "eval ListComp") => `(tactic| (k_here; refine' Hold.of ?_))
local macro_rules | `(tactic| walk_at "compareOp NotEq ref ref") => `(tactic| (k_here; k_dflt (refine' ne_dat (r := false) ?H ?d1 ?d2 ?hc ?hd ?hu ?_; (case H => exact heldOf (by k_asm)); (case d1 => tb_rel); (case d2 => tb_rel); (case hc => exact cmp_head (by assumption) _); (case hd => exact Nat.le_of_ble_eq_true rfl); (case hu => ktr_units))))
local macro_rules | `(tactic| walk_at "call ref") => `(tactic| (k_here; (with_reducible show wpAny _ _ (call (Value.ref 233) [_] _) _ _ _); k_dflt (refine' plain_use ?C ?ho ?hv ?B ?F ?X ?N ?T ?hk ?hc ?hd ?hu ?_; (case C => assumption); (case ho => assumption); (case hv => assumption); (case B => k_asm); (case F => k_asm); (case X => k_asm); (case N => k_asm); (case T => k_asm); (case hk => first | rfl | assumption); (case hc => kqd_sub); (case hd => ktr_room); (case hu => ktr_units); k_whole; intro r' Y' h' tk' g' F' N' hr'; (try simp only [List.cons_append, List.nil_append] at N'); (try k_fold))))
local macro_rules | `(tactic| walk_at "call ref") => `(tactic| (k_here; (with_reducible show wpAny _ _ (call (Value.ref 240) [_] _) _ _ _); k_dflt (refine' things_use ?C ?ho ?hv ?B ?F ?X ?N ?T ?hk ?hc ?hd ?hu ?_; (case C => assumption); (case ho => assumption); (case hv => assumption); (case B => k_asm); (case F => k_asm); (case X => k_asm); (case N => k_asm); (case T => k_asm); (case hk => first | rfl | assumption); (case hc => kqd_sub); (case hd => ktr_room); (case hu => ktr_units); k_whole; intro a' vs' k' Y' h' tk' g' F' N' hr' hrl'; (try simp only [List.cons_append, List.nil_append] at N'); (try k_fold))))
local macro_rules | `(tactic| walk_at "exec For Name Subscript") => `(tactic| (k_here; (rename Fr _ _ _ _ => lF'); (with_unfolding_all refine' For_invVF lF' ?k1 ?k2 ?_; (case k1 => exact rfl); (case k2 => exact rfl); k_whole)))
local macro_rules | `(tactic| walk_at "compareOp Eq ref ref") => `(tactic| (k_here; k_dflt (refine' eq_dat (r := false) ?H ?d1 ?d2 ?hc ?hd ?hu ?_; (case H => exact heldOf (by k_asm)); (case d1 => tb_rel); (case d2 => tb_rel); (case hc => exact cmp_head (by assumption) _); (case hd => exact Nat.le_of_ble_eq_true rfl); (case hu => ktr_units))))
local macro_rules | `(tactic| walk_at "compareOp Eq str str") => `(tactic| (k_here; k_dflt (refine' eq_str_no ?h ?_; (case h => assumption); k_whole)))
local macro_rules | `(tactic| ktr_enter) => `(tactic| (refine' code_defC ?k1 ?k2 ?k3 ?k4 ?k5 ?kA ?kF ?kK ?k6 ?k7 ?k8 ?k9 ?kB ?kD ?_ ?c2 ?c3 ?c4; (case kA => exact rfl); (case kF => exact rfl); (case kK => assumption); (case k1 => k_asm); (case k2 => k_asm); (case k3 => k_asm); (case k4 => k_asm); (case k5 => k_asm); (case k6 => k_is); (case k7 => k_is); (case k8 => ktr_room); (case k9 => exact BindsTo.of_eq rfl); (case kB => exact rfl); (case kD => decide +kernel); (case c2 => exact rfl); (case c3 => exact rfl); (case c4 => exact rfl); k_whole; intro g' L' h' tk' cells' FG' F' N' Y' B' X' T' l1; (try k_lt l1); k_cells Y'; (try simp only [List.cons_append, List.nil_append] at N'); (try dsimp only); (try k_fold)))
local macro_rules | `(tactic| walk_at "call ref") => `(tactic| (k_here; (with_reducible show wpAny _ _ (call (Value.ref 200) [Value.ref _, Value.int _ _] _) _ _ _); k_dflt (refine' card_use ?B ?F ?X ?N ?T ?hk ?U ?hl ?hm ?hm' ?hd ?hu ?_; (case B => k_asm); (case F => k_asm); (case X => k_asm); (case N => k_asm); (case T => k_asm); (case hk => first | rfl | assumption); (case U => k_updF); (case hl => exact ⟨by assumption, by assumption, by assumption⟩); (case hm => decide); (case hm' => decide); (case hd => ktr_room); (case hu => ktr_units); k_whole; intro a' b' c' ta' tb' tc' n' h' tk' F' N' hb' hc1 hc2; obtain ⟨hb1, hb2, hb3⟩ := hb'; (try dsimp only at N'); (try k_fold))))
local macro_rules | `(tactic| walk_at "call ref") => `(tactic| (k_here; (with_reducible show wpAny _ _ (call (Value.ref 221) [Value.ref _] _) _ _ _); k_dflt (refine' lawLeaf_useT ?B ?F ?X ?N ?T ?hk ?hm ?hc ?hy ?hl ?hd ?hu ?_; (case B => k_asm); (case F => k_asm); (case X => k_asm); (case N => k_asm); (case T => k_asm); (case hk => first | rfl | assumption); (case hm => tb_start); (case hc => kqd_sub); (case hy => k_all); (case hl => exact ⟨by assumption, by assumption, by assumption⟩); (case hd => ktr_room); (case hu => ktr_units); k_whole; intro r' a' b' ta' tb' n' k' Y' h' tk' g' F' N' hb' hk7 hr'; obtain ⟨hb1, hb2, hb3⟩ := hb'; (try simp only [List.cons_append, List.nil_append] at N'); (try k_fold))))
local macro_rules | `(tactic| walk_at "call ref") => `(tactic| (k_here; (with_reducible show wpAny _ _ (call (Value.ref 228) [Value.ref _, Value.int _ _] _) _ _ _); k_dflt (refine' dots_use ?C ?B ?F ?X ?N ?T ?hk ?hm ?hc ?hy ?hl ?hd ?hu ?_; (case C => assumption); (case B => k_asm); (case F => k_asm); (case X => k_asm); (case N => k_asm); (case T => k_asm); (case hk => first | rfl | assumption); (case hm => tb_start); (case hc => kqd_sub); (case hy => k_all); (case hl => exact ⟨by assumption, by assumption, by assumption⟩); (case hd => ktr_room); (case hu => ktr_units); k_whole; intro r' a' b' ta' tb' n' k' Y' h' tk' g' F' N' hb' hk7 hr'; obtain ⟨hb1, hb2, hb3⟩ := hb'; (try simp only [List.cons_append, List.nil_append] at N'); (try k_fold))))
local macro_rules | `(tactic| walk_at "call ref") => `(tactic| (k_here; (with_reducible show wpAny _ _ (call (Value.ref 193) _) _ _ _); refine' Hold.of ?_))
local macro_rules | `(tactic| walk_at "call ref") => `(tactic| (k_here; (with_reducible show wpAny _ _ (call (Value.ref 158) [_, Value.ref _] _) _ _ _); k_dflt (first
  | (refine' fusedD_use ?C ?ho ?hv ?hs ?hm ?hc ?y1 ?B ?F ?X ?N ?T ?hk ?hd ?hu ?_; (case C => assumption); (case N => k_asm); (case hv => assumption); (case ho => assumption); (case hs => lsm_bools); (case hm => tb_start); (case hc => kqd_sub); (case y1 => k_all); (case B => k_asm); (case F => k_asm); (case X => k_asm); (case T => k_asm); (case hk => first | rfl | assumption); (case hd => ktr_room); (case hu => ktr_units); k_whole; intro r' Y' h' tk' g' F' N' hr'; (try simp only [List.cons_append, List.nil_append] at N'); (try k_fold))
  | (refine' fusedS_use ?C ?ho ?hs ?hm ?hc ?hv ?y1 ?B ?F ?X ?N ?T ?hk ?hd ?hu ?_; (case C => assumption); (case N => k_asm); (case hs => lsm_bools); (case hm => tb_start); (case hc => kqd_sub); (case hv => (refine' TIn.mono ?s ?h; (case h => assumption); (case s => exact subT_of (by tb_start)))); (case ho => assumption); (case y1 => k_all); (case B => k_asm); (case F => k_asm); (case X => k_asm); (case T => k_asm); (case hk => first | rfl | assumption); (case hd => ktr_room); (case hu => ktr_units); k_whole; intro r' Y' h' tk' g' F' N' hr'; (try simp only [List.cons_append, List.nil_append] at N'); (try k_fold))
  | refine' Hold.of ?_)))
local macro_rules | `(tactic| walk_at "call ref") => `(tactic| (k_here; (with_reducible show wpAny _ _ (call (Value.ref 252) [_, Value.str _ _, Value.ref _, _] _) _ _ _); first | k_dflt (refine' right_use (ah := []) ?C ?ht ?hc ?told ?al ?hah ?h1 ?hk9 ?tv ?B ?F ?X ?N ?T ?hk ?hd ?hu ?_; (case C => assumption); (case N => k_asm); (case hc => kqd_sub); (case told => (refine' ToldIn.mono ?s ?h; (case h => assumption); (case s => exact subT_of (by tb_start)))); (case al => lsm_bools); (case hah => exact TAll.nil); (case h1 => exact Nat.zero_le _); (case hk9 => exact fun _ h => nomatch h); (case tv => (refine' TIn.mono ?s ?h; (case h => assumption); (case s => exact subT_of (by tb_start)))); (case ht => first | assumption | exact .inr (by assumption)); (case B => k_asm); (case F => k_asm); (case X => k_asm); (case T => k_asm); (case hk => first | rfl | assumption); (case hd => ktr_room); (case hu => ktr_units); k_whole; intro Y' h' tk' g' F' N'; (try simp only [List.cons_append, List.nil_append] at N'); (try k_fold)) | k_dflt (refine' Hold.of ?_)))
local macro_rules | `(tactic| walk_at "call ref") => `(tactic| (k_here; (with_reducible show wpAny _ _ (call (Value.ref 259) [_] _) _ _ _); refine' Hold.of ?_))
local macro_rules | `(tactic| walk_at "eval IfExp Compare Name Call") => `(tactic| (k_here; refine' Hold.of ?_))
local macro_rules | `(tactic| walk_at "exec If Compare") => `(tactic| (k_here; refine' Hold.of ?_))
local macro_rules | `(tactic| kqd_sub) => `(tactic| first
  | (refine' Cut.oth (List.forall_mem_nil _) ?r; (case r => kqd_sub))
  | (refine' Cut.own ?m ?r; (case m => lsm_bools); (case r => kqd_sub))
  | (refine' Cut.oth ?o ?r; (case o => k_all); (case r => kqd_sub))
  | exact Cut.tail
  | fail "no cut")
local macro_rules | `(tactic| walk_at "call ref") => `(tactic| (k_here; (with_reducible show wpAny _ _ (call (Value.ref 214) [Value.str _ _] _) _ _ _); k_dflt (refine' sym_use ?C ?hc ?B ?F ?X ?N ?T ?hk ?hd ?hu ?_; (case C => exact sym_con _); (case N => k_asm); (case hc => kqd_sub); (case B => k_asm); (case F => k_asm); (case X => k_asm); (case T => k_asm); (case hk => first | rfl | assumption); (case hd => ktr_room); (case hu => ktr_units); k_whole; intro a' Y' h' tk' g' F' N' hr'; (try simp only [List.cons_append, List.nil_append] at N'); (try k_fold))))
local macro_rules | `(tactic| walk_at "call ref") => `(tactic| (k_here; (with_reducible show wpAny _ _ (call (Value.ref 207) [Value.str _ _, Value.ref _] _) _ _ _); k_dflt (refine' tree_use ?C ?hc ?hm ?hl ?hT ?B ?F ?X ?N ?T ?hk ?hd ?hu ?_; (case C => exact tree_con _); (case N => k_asm); (case hc => kqd_sub); (case hm => lsm_bools); (case hl => exact Nat.le_of_ble_eq_true rfl); (case hT => tb_rel); (case B => k_asm); (case F => k_asm); (case X => k_asm); (case T => k_asm); (case hk => first | rfl | assumption); (case hd => ktr_room); (case hu => ktr_units); k_whole; intro a' Y' h' tk' g' F' N' hr'; (try simp only [List.cons_append, List.nil_append] at N'); (try k_fold))))
set_option maxHeartbeats 8000000 in
theorem law_holds : PySem.Challenge.rw_pq0689_01.Holds := by
  refine hd ?_
  w_strict (
    k_go0
    all_goals try k_fold
    rename World => w
    have d0 : DotsC w 0 0 := dots0 w
    have d1 : DotsC w 1 1 := dotsS w 1 0 (by decide) d0
    have DC : DotsC w 2 2 := dotsS w 2 1 (by decide) d1
    clear d0 d1
    have LC : FuseC w 108 12 100 LeafK thingsT leafB := leaf_fuse (leaf_con w)
    have BC : BodyC w 3 := body_con w LC (callee_con w LC) 3 (Nat.le_refl 3)
    have FO : FoC w := fo_con w
    have DF : DotFC w := fun t tv ht Y htv sz sd hs t4 tk ho => fused_dot w 3 (Nat.le_refl 3) BC FO t tv ht Y htv sz sd hs t4 tk ho
    have S1 : SetFC w (tS "y") (tS "y") := fun t tv hto Y htv sz sd hs t4 tk ho => fused_set w 3 (Nat.le_refl 3) BC FO _ _ t (goal_y w) tv hto Y htv sz sd hs t4 tk ho
    have S2 : SetFC w (tE "ref" [tS "y", tS ":", tE "call" [tS "k", .int 3]]) (tE "call" [tS "view", tS "y", tS ":", tE "call" [tS "k", .int 3]]) := fun t tv hto Y htv sz sd hs t4 tk ho => fused_set w 3 (Nat.le_refl 3) BC FO _ _ t (goal_ref w (mend_colon w) (mend_call w)) tv hto Y htv sz sd hs t4 tk ho
    have R1 : RightC w (kS "broadcast") 84 := fun told tv tw al avs an ah t Y ht hal hah h1 hk htold htv => right_con w told tv (kS "broadcast") tw al 84 _ _ _ _ _ _ avs an ah t 3 Y (by k_is) (by k_is) (Nat.le_refl 3) ht hal hah h1 hk htold htv (fun x => put_con w _ _ _ (Nat.lt_succ_self _)) (plain_con w _ _ (Nat.lt_succ_self _)) (things_con w 3 (Nat.le_refl 3))
    have R2 : RightC w (kS "broadcast!") 86 := fun told tv tw al avs an ah t Y ht hal hah h1 hk htold htv => right_con w told tv (kS "broadcast!") tw al 86 _ _ _ _ _ _ avs an ah t 3 Y (by k_is) (by k_is) (Nat.le_refl 3) ht hal hah h1 hk htold htv (fun x => put_con w _ _ _ (Nat.lt_succ_self _)) (plain_con w _ _ (Nat.lt_succ_self _)) (things_con w 3 (Nat.le_refl 3))
    have E1 : RefC w (tE "dotcall" [tS "f", tE "parameters" [tS "k"], tS "a"]) := refused_keyed w
    have E2 : ∀ t, TreeOk 3 t → RefC w (tE "dotcall" [tS "f", t, tE "..." [tS "a"]]) := fun t h => refused_splat w 3 (Nat.le_refl 3) BC t h
    have E3 : ∀ t, TreeOk 3 t → RefC w (tE ".=" [tE "ref" [tS "y", tS "end"], t]) := fun t h => refused_last w 3 (Nat.le_refl 3) BC (mend_end w) t h
    k_steps)
  unfold Hold
  rename Fr _ _ _ _ => F1
  refine' joinV (Y := []) F1 (fun v M' Y₂ => ∃ l a b ta tb n, v = .ref l ∧ M' = [(l, listOf #[.int a ta, .int b tb] n)] ∧ 0 ≤ a ∧ 0 ≤ b ∧ b < 65413) ?way ?next
  case way =>
    w_strict (
      refine wpAny_call ?_
      k_enter
      k_steps)
    all_goals refine' joinV_end [(_, listOf #[.int _ _, .int _ _] _)] rfl (by k_asm) (by k_asm) (by tb_start) (by tb_start) (fun Y₁ hs => ⟨_, _, _, _, _, _, rfl, rfl, by omega, by first | omega | exact (deal_b _).1, by first | omega | exact (deal_b _).2⟩)
  case next =>
    intro v M' Y₂ h' tk' g' F' N' hp
    obtain ⟨l, a, b, ta, tb, n, rfl, rfl, hb1, hb2, hb3⟩ := hp
    simp only [List.cons_append, List.nil_append] at N'
    have f1 : ∀ p ∈ Y₂, p.1 ≠ l := GrowT.off g' (List.forall_mem_nil _) N' (fun p hp => .tail _ hp) (.head _) rfl
    w_strict (
      k_steps)
    unfold Hold

    rename Fr _ _ _ _ => F1
    rename_i Yc hc9 tkc gc N1
    rename DotT _ _ => hDT
    have hE2 := E2 _ (.inr hDT)
    have fYc : ∀ p ∈ Yc, p.1 ≠ l := by k_all
    refine' joinV (Y := Yc) F1 (fun v M' Y₂ => ∃ a b ta tb n t2, M' = [(l, listOf #[.int a ta, .int b tb] n)] ∧ (0 ≤ a ∧ 0 ≤ b ∧ b < 65413) ∧ TreeOk 3 t2 ∧ TIn Y₂ v t2.dat) ?way ?next
    case way =>
      refine wpAny_IfExp ?_
      w_strict (
        k_steps)
      · refine' joinV_end [(l, listOf #[.int _ _, .int _ _] _)] rfl (by k_asm) (by k_asm) (by tb_start) (by tb_start) (fun Y₁ hs => ⟨_, _, _, _, _, _, rfl, ⟨by assumption, by assumption, by assumption⟩, .inr (by assumption), TIn.mono hs ?_⟩)
        refine' TIn.mono ?s ?h
        case h => assumption
        case s => exact subT_of (by tb_start)
      · refine' joinV_end [(l, listOf #[.int _ _, .int _ _] _)] rfl (by k_asm) (by k_asm) (by tb_start) (by tb_start) (fun Y₁ hs => ⟨_, _, _, _, _, _, rfl, ⟨by assumption, by assumption, by assumption⟩, .inl (by assumption), TIn.mono hs ?_⟩)
        refine' TIn.mono ?s ?h
        case h => assumption
        case s => exact subT_of (by tb_start)
    case next =>
      intro v M' Y₃ h' tk' g' F' N' hp
      obtain ⟨a, b, ta, tb, n, t2, rfl, ⟨hb1, hb2, hb3⟩, hto2, htv2⟩ := hp
      simp only [List.cons_append, List.nil_append] at N'
      have f1 : ∀ p ∈ Y₃, p.1 ≠ l := GrowT.off g' fYc N' (fun p hp => .tail _ hp) (.head _) rfl
      w_strict (
        k_steps)
      unfold Hold
      rename Fr _ _ _ _ => F1
      refine' joinP (Y := Y₃) F1 (fun m m' M' Y₂ => ∃ a b ta tb n pl gl pt gt, M' = [(l, listOf #[.int a ta, .int b tb] n)] ∧ (0 ≤ a ∧ 0 ≤ b ∧ b < 65413) ∧ TIn Y₂ pl pt.dat ∧ TIn Y₂ gl gt.dat ∧ SetFC w pt gt ∧ kqdOk 8 gt.dat = true ∧
        m' (Str.ofString "place") = some pl ∧ m' (Str.ofString "goal") = some gl ∧ m' (Str.ofString "lot") = m (Str.ofString "lot") ∧ m' (Str.ofString "tree") = m (Str.ofString "tree") ∧ m' (Str.ofString "value") = m (Str.ofString "value")) ?way ?next
      case way =>
        refine wpAny_If ?_
        w_strict (
          k_steps)
        · refine' joinF_end [(l, listOf #[.int _ _, .int _ _] _)] rfl (by k_asm) (by k_asm) (by tb_start) (by tb_start) (fun Y₁ hs => ⟨_, _, _, _, _, _, _, _, _, rfl, ⟨by assumption, by assumption, by assumption⟩, TIn.mono hs ?plc, TIn.mono hs ?gol, S2, by decide +kernel, by rfl, by rfl, by rfl, by rfl, by rfl⟩)
          case plc =>
            show TIn _ _ (.tuple [sS "expr", sS "ref", .tuple [symD (Str.ofString "y"), symD (Str.ofString ":"), .tuple [sS "expr", sS "call", .tuple [symD (Str.ofString "k"), .tuple [sS "int", .int 3]]]]])
            tb_rel
          case gol =>
            show TIn _ _ (.tuple [sS "expr", sS "call", .tuple [symD (Str.ofString "view"), symD (Str.ofString "y"), symD (Str.ofString ":"), .tuple [sS "expr", sS "call", .tuple [symD (Str.ofString "k"), .tuple [sS "int", .int 3]]]]])
            tb_rel
        · refine' joinF_end [(l, listOf #[.int _ _, .int _ _] _)] rfl (by k_asm) (by k_asm) (by tb_start) (by tb_start) (fun Y₁ hs => ⟨_, _, _, _, _, _, _, _, _, rfl, ⟨by assumption, by assumption, by assumption⟩, TIn.mono hs ?plc, TIn.mono hs ?gol, S1, by decide +kernel, by rfl, by rfl, by rfl, by rfl, by rfl⟩)
          case plc =>
            show TIn _ _ (symD (Str.ofString "y"))
            tb_rel
          case gol =>
            show TIn _ _ (symD (Str.ofString "y"))
            tb_rel
      case next =>
        intro m' M' Y₄ h' tk' g' F' N' hp
        obtain ⟨a, b, ta, tb, n, pl, gl, pt, gt, rfl, ⟨hb1, hb2, hb3⟩, hpl, hgl, SF, hgk, e1, e2, e3, e4, e5⟩ := hp
        have e3' : m' (Str.ofString "lot") = some (.ref l) := e3
        have e4' : m' (Str.ofString "tree") = some _ := e4
        have e5' : m' (Str.ofString "value") = some _ := e5
        replace F' := fr_con e5' F'
        replace F' := fr_con (x := Str.ofString "tree") (o := some _) (by exact e4') F'
        replace F' := fr_con (x := Str.ofString "lot") (o := some _) (by exact e3') F'
        replace F' := fr_con (x := Str.ofString "goal") (o := some _) (by exact e2) F'
        replace F' := fr_con (x := Str.ofString "place") (o := some _) (by exact e1) F'
        clear e1 e2 e3 e4 e5 e3' e4' e5'
        simp only [List.cons_append, List.nil_append] at N'
        w_strict (
          k_steps)
        unfold Hold
        refine' right_use (avs := [gl]) (ah := [gt]) R2 hto2 ?hc ?told ?al ?hah (Nat.le_refl 1) (fun t ht => by rw [List.mem_singleton.mp ht]; exact hgk) ?tv ?B ?F ?X ?N ?T ?hk ?hd ?hu ?_
        case N => k_asm
        case hc => kqd_sub
        case told =>
          refine' ToldIn.mono ?s9 ?h9
          case h9 => assumption
          case s9 => exact subT_of (by tb_start)
        case al => lsm_bools
        case hah =>
          refine .cons ?_ .nil
          refine' TIn.mono ?s8 ?h8
          case h8 => exact hgl
          case s8 => exact subT_of (by tb_start)
        case tv =>
          refine' TIn.mono ?s7 ?h7
          case h7 => exact htv2
          case s7 => exact subT_of (by tb_start)
        case B => k_asm
        case F => k_asm
        case X => k_asm
        case T => k_asm
        case hk => rfl
        case hd => ktr_room
        case hu => ktr_units
        intro Y₅ h' tk' g' F' N'
        simp only [List.cons_append, List.nil_append] at N'
        have hE3 := E3 _ hto2
        w_strict (
          k_steps)
        unfold Hold
        refine' E1 _ _ ?hvr1 _ _ _ _ _ _ _ _ _ _ _ _ _ _ _ _ _ ?Br1 ?Fr1 ?Xr1 ?Nr1 ?Tr1 ?hkr1 ?hdr1 ?hur1 ?retr1
        case Fr1 => k_asm
        case Nr1 => k_asm
        case Br1 => k_asm
        case Xr1 => k_asm
        case Tr1 => k_asm
        case hkr1 => rfl
        case hdr1 => ktr_room
        case hur1 => ktr_units
        case hvr1 =>
          refine' TIn.mono ?sr1 ?hr1
          case hr1 => assumption
          case sr1 => exact subT_of (by tb_start)
        intro h' tk' F' N'
        w_strict (
          k_steps)
        unfold Hold
        refine' hE2 _ _ ?hvr2 _ _ _ _ _ _ _ _ _ _ _ _ _ _ _ _ _ ?Br2 ?Fr2 ?Xr2 ?Nr2 ?Tr2 ?hkr2 ?hdr2 ?hur2 ?retr2
        case Fr2 => k_asm
        case Nr2 => k_asm
        case Br2 => k_asm
        case Xr2 => k_asm
        case Tr2 => k_asm
        case hkr2 => rfl
        case hdr2 => ktr_room
        case hur2 => ktr_units
        case hvr2 =>
          refine' TIn.mono ?sr2 ?hr2
          case hr2 => assumption
          case sr2 => exact subT_of (by tb_start)
        intro h' tk' F' N'
        w_strict (
          k_steps)
        unfold Hold
        refine' hE3 _ _ ?hvr3 _ _ _ _ _ _ _ _ _ _ _ _ _ _ _ _ _ ?Br3 ?Fr3 ?Xr3 ?Nr3 ?Tr3 ?hkr3 ?hdr3 ?hur3 ?retr3
        case Fr3 => k_asm
        case Nr3 => k_asm
        case Br3 => k_asm
        case Xr3 => k_asm
        case Tr3 => k_asm
        case hkr3 => rfl
        case hdr3 => ktr_room
        case hur3 => ktr_units
        case hvr3 =>
          refine' TIn.mono ?sr3 ?hr3
          case hr3 => assumption
          case sr3 => exact subT_of (by tb_start)
        intro h' tk' F' N'
        w_strict (
          k_steps)
end

end Mine
theorem PySem.Challenge.cw_pq0689_01_holds : PySem.Challenge.rw_pq0689_01.Holds := by
  exact Mine.law_holds
